import PyProof.Rows.All
import Wide.All
import OpenK.AllK
import Wide.FinOn
import HandS.ForMost
import HandS.ForExc
import HandS.IsInst
import HandS.Star
import HandS.Deep
import HandS.CallSlots
import KE.KeyNested
import KE.KDictKeyed
import HandS.TupAny
import HandS.TupMul
import HandS.Conv
import HandS.Wide
import HandS.SetFor
import PyProof.ListRange
import PyProof.Rows.SetFrom
import KE.KRevSl
import PyProof.ReprRoads
import HandS.Sort
import KE.GoesMore
import KE.GoesEnum
import HandS.Style
import HandS.TupLen
import HandS.Dict
import PySem.Challenge.RW_tickworks_k86_least_tables_and_parting_r
set_option Elab.async false
set_option linter.all false
set_option maxRecDepth 100000
set_option maxHeartbeats 1000000
/-! Fl1: values as trees over the hand layer's heap; the memory of cells; what a functional term promises. -/
namespace Fl
open PySem PySem.Spec PyProof.Rows L2

/-- a value: tuples (and lists that nobody changes any more) by value, changing objects by their number -/
inductive T where
  | non
  | bl (b : Bool)
  | int (i : Int)
  | str (x : Str)
  | tup (ts : List T)
  | lst (ts : List T)
  | scr (ts : List T)
  | iset (ns : List Int)
  | rng (lo hi : Int)
  | ref (n : Nat)
  | adr (a : Addr)
  | ty (n : String)

/-- what changes: a list, a dict keyed by ints and texts -/
inductive Cell where
  | lst (ts : List T)
  | dk (kvs : List (Key × T))
  | dn (P : Program) (w : World) (kvs : List (NestedKey × T))
abbrev Mem := List Cell
abbrev Slots := List (Option T)

def StL (K : PySem.W.Frag) (a : Addr) (vs : List V) : Prop :=
  ∃ (o : Obj) (its : Array Value) (n : Nat), K.lookup a = some o ∧ o.cls = .type "list" ∧ o.dict = none ∧ o.data = .seq its n ∧ its.size ≤ sizeLine ∧ Vals vs its.toList
def StT (K : PySem.W.Frag) (a : Addr) (vs : List V) : Prop :=
  ∃ (o : Obj) (its : Array Value) (n : Nat), K.lookup a = some o ∧ o.cls = .type "tuple" ∧ o.data = .seq its n ∧ its.size ≤ sizeLine ∧ Vals vs its.toList

/-- what the program may change: the cells' addresses, and addresses that an outer construct is filling -/
structure Bag where
  hs : List Addr
  av : List Addr
def Own (β : Bag) (a : Addr) : Prop := a ∈ β.hs ∨ a ∈ β.av

section rel
variable (K : PySem.W.Frag) (β : Bag) (H : Hp)
mutual
def RT : T → V → Prop
  | .non, v => v = .non
  | .bl b, v => v = .bl b
  | .int i, v => v = .int i
  | .str x, v => v = .str x
  | .ty n, v => v = .ty n
  | .adr a, v => v = .ref a
  | .ref n, v => ∃ a, v = .ref a ∧ β.hs[n]? = some a
  | .tup ts, v => ∃ a vs, v = .ref a ∧ ((¬ Own β a ∧ Rd H a (.tup vs)) ∨ StT K a vs) ∧ RTs ts vs
  | .lst ts, v => ∃ a vs, v = .ref a ∧ ¬ Own β a ∧ H a = some (.lst vs) ∧ RTs ts vs
  | .scr ts, v => ∃ a vs, v = .ref a ∧ ((¬ Own β a ∧ Rd H a (.lst vs)) ∨ StL K a vs) ∧ RTs ts vs
  | .iset ns, v => ∃ a, v = .ref a ∧ ¬ Own β a ∧ H a = some (.set (fun k => ns.any (· == k)) ns.length)
  | .rng lo hi, v => ∃ a, v = .ref a ∧ ¬ Own β a ∧ H a = some (.rng lo hi)
def RTs : List T → List V → Prop
  | [], vs => vs = []
  | t :: ts, vs => ∃ v r, vs = v :: r ∧ RT t v ∧ RTs ts r
end
end rel

/-- all that a value leans on stays -/
structure Mon (β : Bag) (H : Hp) (β' : Bag) (H' : Hp) : Prop where
  pre : ∃ l, β'.hs = β.hs ++ l
  old : ∀ a u, ¬ Own β a → H a = some u → ¬ Own β' a ∧ H' a = some u
/-- a run of some code -/
structure Ext (β : Bag) (H : Hp) (β' : Bag) (H' : Hp) : Prop extends Mon β H β' H' where
  av : β'.av = β.av
  keep : ∀ a ∈ β.av, H' a = H a

section
variable {K : PySem.W.Frag} {β β' β'' : Bag} {H H' H'' : Hp} {t0 : T} {v0 : V} {ts0 : List T} {vs0 : List V}
theorem Mon.refl : Mon β H β H := ⟨⟨[], by simp⟩, fun _ _ n h => ⟨n, h⟩⟩
theorem Ext.refl : Ext β H β H := { Mon.refl with av := rfl, keep := fun _ _ => rfl }
theorem Mon.trans (e : Mon β H β' H') (f : Mon β' H' β'' H'') : Mon β H β'' H'' := by
  refine ⟨?_, fun a u n h => let ⟨n1, h1⟩ := e.old a u n h; f.old a u n1 h1⟩
  obtain ⟨l, e1⟩ := e.pre
  obtain ⟨m, e2⟩ := f.pre
  exact ⟨l ++ m, by rw [e2, e1, List.append_assoc]⟩
theorem Ext.trans (e : Ext β H β' H') (f : Ext β' H' β'' H'') : Ext β H β'' H'' :=
  { Mon.trans e.toMon f.toMon with av := f.av.trans e.av, keep := fun a ha => (f.keep a (by rw [e.av]; exact ha)).trans (e.keep a ha) }
theorem Mon.at_ (e : Mon β H β' H') {n : Nat} {a : Addr} (h : β.hs[n]? = some a) : β'.hs[n]? = some a := by
  obtain ⟨l, e1⟩ := e.pre
  obtain ⟨hn, _⟩ := List.getElem?_eq_some_iff.mp h
  rw [e1, List.getElem?_append_left hn]; exact h
theorem Mon.rd (e : Mon β H β' H') {a : Addr} {u : HO} (n : ¬ Own β a) (h : Rd H a u) : ¬ Own β' a ∧ Rd H' a u := by
  rcases h with h | ⟨o, h⟩
  · exact ⟨(e.old a _ n h).1, .inl (e.old _ _ n h).2⟩
  · exact ⟨(e.old a _ n h).1, .inr ⟨o, (e.old _ _ n h).2⟩⟩

mutual
theorem RT.mono (e : Mon β H β' H') : ∀ (t : T) (v : V), RT K β H t v → RT K β' H' t v
  | .non, v, h => by simpa only [RT] using h
  | .bl b, v, h => by simpa only [RT] using h
  | .int i, v, h => by simpa only [RT] using h
  | .str x, v, h => by simpa only [RT] using h
  | .ty n, v, h => by simpa only [RT] using h
  | .adr a, v, h => by simpa only [RT] using h
  | .ref n, v, h => by
    simp only [RT] at h ⊢
    obtain ⟨a, h1, h2⟩ := h
    exact ⟨a, h1, e.at_ h2⟩
  | .tup ts, v, h => by
    simp only [RT] at h ⊢
    obtain ⟨a, vs, h1, h2, h3⟩ := h
    refine ⟨a, vs, h1, ?_, RTs.mono e ts vs h3⟩
    rcases h2 with ⟨n, r⟩ | s
    · exact .inl (e.rd n r)
    · exact .inr s
  | .lst ts, v, h => by
    simp only [RT] at h ⊢
    obtain ⟨a, vs, h1, n, r, h3⟩ := h
    exact ⟨a, vs, h1, (e.old _ _ n r).1, (e.old _ _ n r).2, RTs.mono e ts vs h3⟩
  | .scr ts, v, h => by
    simp only [RT] at h ⊢
    obtain ⟨a, vs, h1, h2, h3⟩ := h
    refine ⟨a, vs, h1, ?_, RTs.mono e ts vs h3⟩
    rcases h2 with ⟨n, r⟩ | s
    · exact .inl (e.rd n r)
    · exact .inr s
  | .iset ns, v, h => by
    simp only [RT] at h ⊢
    obtain ⟨a, h1, n, r⟩ := h
    exact ⟨a, h1, (e.old _ _ n r).1, (e.old _ _ n r).2⟩
  | .rng lo hi, v, h => by
    simp only [RT] at h ⊢
    obtain ⟨a, h1, n, r⟩ := h
    exact ⟨a, h1, (e.old _ _ n r).1, (e.old _ _ n r).2⟩
theorem RTs.mono (e : Mon β H β' H') : ∀ (ts : List T) (vs : List V), RTs K β H ts vs → RTs K β' H' ts vs
  | [], vs, h => by simpa only [RTs] using h
  | t :: ts, vs, h => by
    simp only [RTs] at h ⊢
    obtain ⟨v, r, h1, h2, h3⟩ := h
    exact ⟨v, r, h1, RT.mono e t v h2, RTs.mono e ts r h3⟩
end
theorem RT.up (h : RT K β H t0 v0) (e : Ext β H β' H') : RT K β' H' t0 v0 := RT.mono e.toMon _ _ h
theorem RTs.up (h : RTs K β H ts0 vs0) (e : Ext β H β' H') : RTs K β' H' ts0 vs0 := RTs.mono e.toMon _ _ h
theorem RTs.nil : RTs K β H [] [] := by simp only [RTs]
theorem RTs.cons {t : T} {v : V} {ts : List T} {vs : List V} (h : RT K β H t v) (r : RTs K β H ts vs) : RTs K β H (t :: ts) (v :: vs) := by
  simp only [RTs]; exact ⟨v, vs, rfl, h, r⟩
theorem RTs.uncons {t : T} {ts : List T} {vs : List V} (h : RTs K β H (t :: ts) vs) : ∃ v r, vs = v :: r ∧ RT K β H t v ∧ RTs K β H ts r := by
  simpa only [RTs] using h
theorem RTs.nil_of {vs : List V} (h : RTs K β H [] vs) : vs = [] := by simpa only [RTs] using h
theorem RTs.length : ∀ {ts : List T} {vs : List V}, RTs K β H ts vs → vs.length = ts.length
  | [], vs, h => by rw [h.nil_of]; rfl
  | t :: ts, vs, h => by
    obtain ⟨v, r, rfl, _, h3⟩ := h.uncons
    simp [RTs.length h3]
theorem RTs.get : ∀ {ts : List T} {vs : List V} {i : Nat} {t : T}, RTs K β H ts vs → ts[i]? = some t → ∃ v, vs[i]? = some v ∧ RT K β H t v
  | [], _, _, _, _, h => by simp at h
  | t :: ts, vs, 0, t', h, e => by
    obtain ⟨v, r, rfl, h2, h3⟩ := h.uncons
    simp at e; subst e
    exact ⟨v, rfl, h2⟩
  | t :: ts, vs, i + 1, t', h, e => by
    obtain ⟨v, r, rfl, h2, h3⟩ := h.uncons
    simp at e
    obtain ⟨w, h4, h5⟩ := RTs.get h3 e
    exact ⟨w, by simpa using h4, h5⟩
theorem RTs.get' : ∀ {ts : List T} {vs : List V} {i : Nat} {v : V}, RTs K β H ts vs → vs[i]? = some v → ∃ t, ts[i]? = some t ∧ RT K β H t v
  | [], vs, _, _, h, e => by rw [h.nil_of] at e; simp at e
  | t :: ts, vs, 0, v', h, e => by
    obtain ⟨v, r, rfl, h2, h3⟩ := h.uncons
    simp at e; subst e
    exact ⟨t, rfl, h2⟩
  | t :: ts, vs, i + 1, v', h, e => by
    obtain ⟨v, r, rfl, h2, h3⟩ := h.uncons
    simp at e
    obtain ⟨w, h4, h5⟩ := RTs.get' h3 e
    exact ⟨w, by simpa using h4, h5⟩
theorem RTs.append : ∀ {ts us : List T} {vs ws : List V}, RTs K β H ts vs → RTs K β H us ws → RTs K β H (ts ++ us) (vs ++ ws)
  | [], _, _, _, h, g => by rw [h.nil_of]; exact g
  | t :: ts, us, vs, ws, h, g => by
    obtain ⟨v, r, rfl, h2, h3⟩ := h.uncons
    exact RTs.cons h2 (RTs.append h3 g)
theorem RTs.take : ∀ {ts : List T} {vs : List V} (n : Nat), RTs K β H ts vs → RTs K β H (ts.take n) (vs.take n)
  | [], _, n, h => by rw [h.nil_of]; simpa using RTs.nil
  | t :: ts, vs, 0, h => by simpa using RTs.nil
  | t :: ts, vs, n + 1, h => by
    obtain ⟨v, r, rfl, h2, h3⟩ := h.uncons
    simpa using RTs.cons h2 (RTs.take n h3)
theorem RTs.drop : ∀ {ts : List T} {vs : List V} (n : Nat), RTs K β H ts vs → RTs K β H (ts.drop n) (vs.drop n)
  | [], _, n, h => by rw [h.nil_of]; simpa using RTs.nil
  | t :: ts, vs, 0, h => by simpa using h
  | t :: ts, vs, n + 1, h => by
    obtain ⟨v, r, rfl, h2, h3⟩ := h.uncons
    simpa using RTs.drop n h3
theorem RTs.set {x : V} {u : T} (r : RT K β H u x) : ∀ {ts : List T} {vs : List V} (n : Nat), RTs K β H ts vs → RTs K β H (ts.set n u) (vs.set n x)
  | [], _, n, h => by rw [h.nil_of]; simpa using RTs.nil
  | t :: ts, vs, 0, h => by
    obtain ⟨v, q, rfl, h2, h3⟩ := h.uncons
    exact RTs.cons r h3
  | t :: ts, vs, n + 1, h => by
    obtain ⟨v, q, rfl, h2, h3⟩ := h.uncons
    exact RTs.cons h2 (RTs.set r n h3)
theorem RTs.eraseIdx : ∀ {ts : List T} {vs : List V} (n : Nat), RTs K β H ts vs → RTs K β H (ts.eraseIdx n) (vs.eraseIdx n)
  | [], _, n, h => by rw [h.nil_of]; simpa using RTs.nil
  | t :: ts, vs, 0, h => by
    obtain ⟨v, q, rfl, h2, h3⟩ := h.uncons
    exact h3
  | t :: ts, vs, n + 1, h => by
    obtain ⟨v, q, rfl, h2, h3⟩ := h.uncons
    exact RTs.cons h2 (RTs.eraseIdx n h3)
theorem RTs.reverse : ∀ {ts : List T} {vs : List V}, RTs K β H ts vs → RTs K β H ts.reverse vs.reverse
  | [], _, h => by rw [h.nil_of]; simpa using RTs.nil
  | t :: ts, vs, h => by
    obtain ⟨v, q, rfl, h2, h3⟩ := h.uncons
    rw [List.reverse_cons, List.reverse_cons]
    exact RTs.append (RTs.reverse h3) (RTs.cons h2 RTs.nil)
theorem RTs.rep {ts : List T} {vs : List V} (h : RTs K β H ts vs) : ∀ k : Nat, RTs K β H (List.replicate k ts).flatten (List.replicate k vs).flatten
  | 0 => by simpa using RTs.nil
  | k + 1 => by
    rw [List.replicate_succ, List.replicate_succ, List.flatten_cons, List.flatten_cons]
    exact RTs.append h (RTs.rep h k)
theorem RTs.snoc {ts : List T} {vs : List V} {t : T} {v : V} (h : RTs K β H ts vs) (r : RT K β H t v) : RTs K β H (ts ++ [t]) (vs ++ [v]) := h.append (.cons r .nil)
theorem RTs.split : ∀ {ts us : List T} {ws : List V}, RTs K β H (ts ++ us) ws → ∃ a b, ws = a ++ b ∧ RTs K β H ts a ∧ RTs K β H us b
  | [], us, ws, h => ⟨[], ws, rfl, .nil, h⟩
  | t :: ts, us, ws, h => by
    obtain ⟨v, r, rfl, h2, h3⟩ := RTs.uncons (ts := ts ++ us) h
    obtain ⟨a, b, rfl, h4, h5⟩ := RTs.split h3
    exact ⟨v :: a, b, rfl, .cons h2 h4, h5⟩
theorem RTs.ints : ∀ {ns : List Int} , RTs K β H (ns.map T.int) (ns.map V.int)
  | [] => .nil
  | n :: ns => .cons (by simp only [RT]) RTs.ints
end

/-! ### the memory -/
mutual
/-- a tuple of ints, texts, None as a key -/
def T.nk : T → Option NestedKey
  | .non => some .none
  | .int i => some (.num i)
  | .str x => some (.text x)
  | .tup ts => (T.nks ts).map .tup
  | _ => none
def T.nks : List T → Option (List NestedKey)
  | [] => some []
  | t :: ts => (T.nk t).bind fun k => (T.nks ts).map (k :: ·)
end
/-- a dict's own object: its entries -/
def RawN (P : Program) (w : World) (d : Addr) (xs : List (NestedKey × Addr × Value)) (h : Heap) : Prop :=
  ∃ o es ep, h.get? d = some o ∧ o.ExactDict ∧ o.data = .dict es ep ∧ es.toList = xs.map (entryOfKey (nestedKind P w)) ∧ (xs.map (·.1)).Nodup ∧ (d == sysModules) = false
def DnO (P : Program) (w : World) (d : Addr) (xs : List (NestedKey × Addr × Value)) : HO := .ext (RawN P w d xs)
section
variable (K : PySem.W.Frag) (β : Bag) (H : Hp)
def RC (a : Addr) : Cell → Prop
  | .lst ts => ∃ vs, H a = some (.lst vs) ∧ RTs K β H ts vs
  | .dk kvs => ∃ us : List (Key × V), H a = some (.dK us) ∧ us.map (·.1) = kvs.map (·.1) ∧ RTs K β H (kvs.map (·.2)) (us.map (·.2))
  | .dn P w kvs => ∃ (xs : List (NestedKey × Addr × Value)) (vs : List V), H a = some (DnO P w a xs) ∧ xs.map (·.1) = kvs.map (·.1) ∧ Vals vs (xs.map fun x => x.2.2) ∧ RTs K β H (kvs.map (·.2)) vs ∧ ∀ x ∈ xs, ∃ t, T.nk t = some x.1 ∧ x.1.depth ≤ 8 ∧ RT K β H t (.ref x.2.1)
structure RM (M : Mem) : Prop where
  len : β.hs.length = M.length
  nd : β.hs.Nodup
  cell : ∀ (n : Nat) (a : Addr) (c : Cell), β.hs[n]? = some a → M[n]? = some c → RC K β H a c
  avs : ∀ a ∈ β.av, a ∉ β.hs ∧ ∃ u, H a = some u
structure RS (s : Slots) (σ : L2.St) : Prop where
  len : s.length = σ.length
  val : ∀ (i : Nat) (t : T), s[i]? = some (some t) → ∃ v, σ[i]? = some (some v) ∧ RT K β H t v
/-- an exception's own dict -/
def RX (d : Option Addr) (fs : List (Str × T)) : Prop :=
  (fs = [] ∧ d = none) ∨ ∃ a xs, d = some a ∧ ¬ Own β a ∧ H a = some (.xd xs) ∧ xs.map (·.1) = fs.map (·.1) ∧ RTs K β H (fs.map (·.2)) (xs.map (·.2))
end
section
variable {K : PySem.W.Frag} {β β' : Bag} {H H' : Hp} {M : Mem}
theorem RC.there {a : Addr} {c : Cell} (h : RC K β H a c) : ∃ u, H a = some u := by
  cases c with
  | lst ts => obtain ⟨vs, h, _⟩ := h; exact ⟨_, h⟩
  | dk kvs => obtain ⟨us, h, _⟩ := h; exact ⟨_, h⟩
  | dn P w kvs => obtain ⟨xs, vs, h, _⟩ := h; exact ⟨_, h⟩
theorem RC.mono (e : Mon β H β' H') {a : Addr} (ha : H' a = H a) {c : Cell} (h : RC K β H a c) : RC K β' H' a c := by
  cases c with
  | lst ts => obtain ⟨vs, h, r⟩ := h; exact ⟨vs, ha.trans h, r.mono e⟩
  | dk kvs => obtain ⟨us, h, hk, r⟩ := h; exact ⟨us, ha.trans h, hk, r.mono e⟩
  | dn P w kvs =>
    obtain ⟨xs, vs, h, h1, h2, h3, h4⟩ := h
    refine ⟨xs, vs, ha.trans h, h1, h2, h3.mono e, fun x hx => ?_⟩
    obtain ⟨t, k1, k2, k3⟩ := h4 x hx
    exact ⟨t, k1, k2, RT.mono e _ _ k3⟩
theorem RM.there (m : RM K β H M) {a : Addr} (h : Own β a) : ∃ u, H a = some u := by
  rcases h with h | h
  · obtain ⟨n, hn, e⟩ := List.mem_iff_getElem.mp h
    have hM : n < M.length := by rw [← m.len]; exact hn
    exact (m.cell n a M[n] (by rw [List.getElem?_eq_getElem hn, e]) (List.getElem?_eq_getElem hM)).there
  · exact (m.avs a h).2
theorem RM.fresh (m : RM K β H M) {p : Addr} (h : H p = none) : ¬ Own β p := fun hp => by
  obtain ⟨u, e⟩ := m.there hp
  rw [h] at e; cases e
theorem RM.ne (m : RM K β H M) {p a : Addr} (h : H p = none) (ha : Own β a) : a ≠ p := fun e => m.fresh h (e ▸ ha)
theorem Ext.new (m : RM K β H M) {p : Addr} {o : HO} (h : H p = none) : Ext β H β (upd H p o) :=
  { pre := ⟨[], by simp⟩, old := fun a u n e => ⟨n, by rw [upd_ne (ne_of_none e h)]; exact e⟩, av := rfl, keep := fun a ha => upd_ne (m.ne h (.inr ha)) }
/-- one cell more -/
abbrev Bag.push (β : Bag) (p : Addr) : Bag := ⟨β.hs ++ [p], β.av⟩
theorem Ext.cell (m : RM K β H M) {p : Addr} {o : HO} (h : H p = none) : Ext β H (β.push p) (upd H p o) :=
  { pre := ⟨[p], rfl⟩,
    old := fun a u n e => by
      have hne := ne_of_none e h
      refine ⟨fun z => ?_, by rw [upd_ne hne]; exact e⟩
      rcases z with z | z
      · rcases List.mem_append.mp z with z | z
        · exact n (.inl z)
        · exact hne (List.mem_singleton.mp z)
      · exact n (.inr z),
    av := rfl, keep := fun a ha => upd_ne (m.ne h (.inr ha)) }
theorem Ext.write (m : RM K β H M) {p : Addr} {o : HO} (h : p ∈ β.hs) : Ext β H β (upd H p o) :=
  { pre := ⟨[], by simp⟩, old := fun a u n e => ⟨n, by rw [upd_ne (fun z => n (.inl (by rw [z]; exact h)))]; exact e⟩, av := rfl,
    keep := fun a ha => upd_ne fun z => (m.avs a ha).1 (by rw [z]; exact h) }
theorem RM.new (m : RM K β H M) {p : Addr} {o : HO} (h : H p = none) : RM K β (upd H p o) M :=
  ⟨m.len, m.nd, fun n a c hb hc => (m.cell n a c hb hc).mono (Ext.new m h).toMon (upd_ne (m.ne h (.inl (List.mem_of_getElem? hb)))),
    fun a ha => ⟨(m.avs a ha).1, let ⟨u, e⟩ := (m.avs a ha).2; ⟨u, by rw [upd_ne (m.ne h (.inr ha))]; exact e⟩⟩⟩
theorem RM.push (m : RM K β H M) {p : Addr} {o : HO} {c : Cell} (h : H p = none) (r : RC K (β.push p) (upd H p o) p c) : RM K (β.push p) (upd H p o) (M ++ [c]) := by
  have hp : p ∉ β.hs := fun z => m.fresh h (.inl z)
  refine ⟨by simp [m.len], ?_, fun n a c' hb hc => ?_, fun a ha => ⟨fun z => ?_, let ⟨u, e⟩ := (m.avs a ha).2; ⟨u, by rw [upd_ne (m.ne h (.inr ha))]; exact e⟩⟩⟩
  · rw [List.nodup_append]
    refine ⟨m.nd, by simp, fun a ha b hb e => ?_⟩
    rw [List.mem_singleton] at hb
    exact hp (by rw [← hb, ← e]; exact ha)
  · have hb : (β.hs ++ [p])[n]? = some a := hb
    by_cases hn : n < β.hs.length
    · rw [List.getElem?_append_left hn] at hb
      rw [List.getElem?_append_left (by rw [← m.len]; exact hn)] at hc
      exact (m.cell n a c' hb hc).mono (Ext.cell m h).toMon (upd_ne fun z => hp (z ▸ List.mem_of_getElem? hb))
    · have hn' : n = β.hs.length := by
        obtain ⟨hl, _⟩ := List.getElem?_eq_some_iff.mp hb
        simp at hl; omega
      subst hn'
      rw [List.getElem?_append_right (Nat.le_refl _), Nat.sub_self] at hb
      rw [m.len, List.getElem?_append_right (Nat.le_refl _), Nat.sub_self] at hc
      simp at hb hc
      subst hb; subst hc
      exact r
  · rcases List.mem_append.mp z with z | z
    · exact (m.avs a ha).1 z
    · exact m.ne h (.inr ha) (List.mem_singleton.mp z)
theorem RM.write (m : RM K β H M) {n : Nat} {a : Addr} {o : HO} {c : Cell} (hb : β.hs[n]? = some a) (r : RC K β (upd H a o) a c) : RM K β (upd H a o) (M.set n c) := by
  have hm := List.mem_of_getElem? hb
  refine ⟨by simp [m.len], m.nd, fun k a' c' hb' hc' => ?_, fun a' ha => ⟨(m.avs a' ha).1, let ⟨u, e⟩ := (m.avs a' ha).2; ⟨u, by rw [upd_ne (fun z => (m.avs a' ha).1 (by rw [z]; exact hm))]; exact e⟩⟩⟩
  by_cases e : n = k
  · subst e
    rw [hb] at hb'; cases hb'
    obtain ⟨hl, _⟩ := List.getElem?_eq_some_iff.mp hb
    rw [List.getElem?_set_self (by rw [← m.len]; exact hl)] at hc'
    cases hc'
    exact r
  · rw [List.getElem?_set_ne e] at hc'
    refine (m.cell k a' c' hb' hc').mono (Ext.write m hm).toMon (upd_ne fun z => e ?_)
    subst z
    obtain ⟨h1, e1⟩ := List.getElem?_eq_some_iff.mp hb
    obtain ⟨h2, e2⟩ := List.getElem?_eq_some_iff.mp hb'
    exact (List.getElem_inj m.nd).mp (e1.trans e2.symm)
theorem RS.mono {s : Slots} {σ : L2.St} (r : RS K β H s σ) (e : Ext β H β' H') : RS K β' H' s σ := ⟨r.len, fun i t h => by
  obtain ⟨v, h1, h2⟩ := r.val i t h
  exact ⟨v, h1, h2.up e⟩⟩
theorem RS.set {s : Slots} {σ : L2.St} (r : RS K β H s σ) {i : Nat} {t : T} {v : V} (h : RT K β H t v) : RS K β H (s.set i (some t)) (σ.set i (some v)) := by
  refine ⟨by simp [r.len], fun j u hj => ?_⟩
  by_cases e : i = j
  · subst e
    by_cases hi : i < s.length
    · rw [List.getElem?_set_self hi] at hj
      cases hj
      exact ⟨v, List.getElem?_set_self (by rw [← r.len]; exact hi), h⟩
    · rw [List.getElem?_eq_none (by simpa using hi)] at hj
      cases hj
  · rw [List.getElem?_set_ne e] at hj
    obtain ⟨w, h1, h2⟩ := r.val j u hj
    exact ⟨w, by rw [List.getElem?_set_ne e]; exact h1, h2⟩
/-- some slots forgotten -/
theorem RS.weak {s s' : Slots} {σ : L2.St} (r : RS K β H s σ) (hl : s'.length = s.length) (h : ∀ (i : Nat) (t : T), s'[i]? = some (some t) → s[i]? = some (some t)) : RS K β H s' σ := ⟨hl.trans r.len, fun i t e => r.val i t (h i t e)⟩
end

/-! ### what a term gives -/
inductive Res (α : Type) where
  | ok (a : α) (M : Mem)
  | ex (c : Value) (fs : List (Str × T)) (M : Mem)
  | stuck
def Res.bind {α δ : Type} (r : Res α) (k : α → Mem → Res δ) : Res δ := match r with
  | .ok a M => k a M
  | .ex c fs M => .ex c fs M
  | .stuck => .stuck
@[simp] theorem Res.bind_ok {α δ : Type} (a : α) (M : Mem) (k : α → Mem → Res δ) : (Res.ok a M).bind k = k a M := rfl
@[simp] theorem Res.bind_ex {α δ : Type} (c : Value) (fs : List (Str × T)) (M : Mem) (k : α → Mem → Res δ) : (Res.ex c fs M).bind k = .ex c fs M := rfl
@[simp] theorem Res.bind_stuck {α δ : Type} (k : α → Mem → Res δ) : (Res.stuck).bind k = .stuck := rfl

section
variable {α γ δ : Type} (K : PySem.W.Frag) (W : WX) (σ : L2.St)
/-- the wish Q is met at whatever the result stands for -/
def Sat (R : Bag → Hp → α → γ → Prop) (β : Bag) (H : Hp) (r : Res α) (Q : γ → Hp → Prop) : Prop := match r with
  | .ok a M' => ∀ β' H' x, Ext β H β' H' → RM K β' H' M' → R β' H' a x → Q x H'
  | .ex c fs M' => ∀ β' H' d, Ext β H β' H' → RM K β' H' M' → RX K β' H' d fs → W c d σ H'
  | .stuck => False
end
section
variable {α γ δ ε : Type} {K : PySem.W.Frag} {W : WX} {σ : L2.St} {R : Bag → Hp → α → γ → Prop} {R1 : Bag → Hp → δ → ε → Prop} {β β1 : Bag} {H H1 : Hp} {Q : γ → Hp → Prop} {Q1 : ε → Hp → Prop}
theorem Sat.mono {r : Res α} (h : Sat K W σ R β H r Q) (e : Ext β H β1 H1) : Sat K W σ R β1 H1 r Q := by
  cases r with
  | ok a M => exact fun β' H' x e' => h β' H' x (e.trans e')
  | ex c fs M => exact fun β' H' d e' => h β' H' d (e.trans e')
  | stuck => exact h
theorem Sat.bind {r : Res δ} {k : δ → Mem → Res α} (h : Sat K W σ R β H (r.bind k) Q)
    (hk : ∀ a M1 β1 H1 x, Ext β H β1 H1 → RM K β1 H1 M1 → R1 β1 H1 a x → Sat K W σ R β1 H1 (k a M1) Q → Q1 x H1) : Sat K W σ R1 β H r Q1 := by
  cases r with
  | ok a M => exact fun β' H' x e rm rx => hk a M β' H' x e rm rx (Sat.mono (r := k a M) h e)
  | ex c fs M => exact h
  | stuck => exact h
end

abbrev FE := Slots → Mem → Res T
abbrev FA := Slots → Mem → Res (List T)
abbrev FT := Slots → Mem → Res Bool
section
variable (K : PySem.W.Frag) (W : WX)
def tE (f : FE) : TE := fun σ H Q => ∃ β s M, RS K β H s σ ∧ RM K β H M ∧ Sat K W σ (RT K) β H (f s M) Q
def tA (f : FA) : TA := fun σ H Q => ∃ β s M, RS K β H s σ ∧ RM K β H M ∧ Sat K W σ (RTs K) β H (f s M) Q
def tT (f : FT) : TT := fun σ H Q => ∃ β s M, RS K β H s σ ∧ RM K β H M ∧ Sat K W σ (fun _ _ a b => a = b) β H (f s M) Q
end

/-! ### statements -/
inductive SRes where
  | nx (s : Slots) (M : Mem)
  | bk (s : Slots) (M : Mem)
  | ct (s : Slots) (M : Mem)
  | rt (v : T) (M : Mem)
  | ex (c : Value) (fs : List (Str × T)) (s : Slots) (M : Mem)
  | stuck
abbrev FS := Slots → Mem → SRes
def Res.st {α : Type} (r : Res α) (s : Slots) (k : α → Mem → SRes) : SRes := match r with
  | .ok a M => k a M
  | .ex c fs M => .ex c fs s M
  | .stuck => .stuck
@[simp] theorem Res.st_ok {α : Type} (a : α) (M : Mem) (s : Slots) (k : α → Mem → SRes) : (Res.ok a M).st s k = k a M := rfl
@[simp] theorem Res.st_ex {α : Type} (c : Value) (fs : List (Str × T)) (M : Mem) (s : Slots) (k : α → Mem → SRes) : (Res.ex c fs M).st s k = .ex c fs s M := rfl
@[simp] theorem Res.st_stuck {α : Type} (s : Slots) (k : α → Mem → SRes) : (Res.stuck).st s k = .stuck := rfl
def SRes.seq (r : SRes) (k : Slots → Mem → SRes) : SRes := match r with
  | .nx s M => k s M
  | r => r
@[simp] theorem SRes.seq_nx (s : Slots) (M : Mem) (k : Slots → Mem → SRes) : (SRes.nx s M).seq k = k s M := rfl
@[simp] theorem SRes.seq_rt (v : T) (M : Mem) (k : Slots → Mem → SRes) : (SRes.rt v M).seq k = .rt v M := rfl
@[simp] theorem SRes.seq_bk (s : Slots) (M : Mem) (k : Slots → Mem → SRes) : (SRes.bk s M).seq k = .bk s M := rfl
@[simp] theorem SRes.seq_ct (s : Slots) (M : Mem) (k : Slots → Mem → SRes) : (SRes.ct s M).seq k = .ct s M := rfl
@[simp] theorem SRes.seq_ex (c : Value) (fs : List (Str × T)) (s : Slots) (M : Mem) (k : Slots → Mem → SRes) : (SRes.ex c fs s M).seq k = .ex c fs s M := rfl
@[simp] theorem SRes.seq_stuck (k : Slots → Mem → SRes) : (SRes.stuck).seq k = .stuck := rfl
section
variable (K : PySem.W.Frag) (W : WX)
def SatS (D : Ends) (β : Bag) (H : Hp) (r : SRes) : Prop := match r with
  | .nx s M => ∀ β' H' σ', Ext β H β' H' → RM K β' H' M → RS K β' H' s σ' → D.nx σ' H'
  | .bk s M => ∀ β' H' σ', Ext β H β' H' → RM K β' H' M → RS K β' H' s σ' → D.bk σ' H'
  | .ct s M => ∀ β' H' σ', Ext β H β' H' → RM K β' H' M → RS K β' H' s σ' → D.ct σ' H'
  | .rt v M => ∀ β' H' x, Ext β H β' H' → RM K β' H' M → RT K β' H' v x → D.rt x H'
  | .ex c fs s M => ∀ β' H' σ' d, Ext β H β' H' → RM K β' H' M → RS K β' H' s σ' → RX K β' H' d fs → W c d σ' H'
  | .stuck => False
def tS (F : FS) : TS := fun D σ H => ∃ β s M, RS K β H s σ ∧ RM K β H M ∧ SatS K W D β H (F s M)
end
section
variable {α γ : Type} {K : PySem.W.Frag} {W : WX} {D D' : Ends} {β β1 : Bag} {H H1 : Hp} {σ : L2.St} {s : Slots} {R : Bag → Hp → α → γ → Prop}
theorem SatS.mono {r : SRes} (h : SatS K W D β H r) (e : Ext β H β1 H1) : SatS K W D β1 H1 r := by
  cases r with
  | nx s M => exact fun β' H' x e' => h β' H' x (e.trans e')
  | bk s M => exact fun β' H' x e' => h β' H' x (e.trans e')
  | ct s M => exact fun β' H' x e' => h β' H' x (e.trans e')
  | rt s M => exact fun β' H' x e' => h β' H' x (e.trans e')
  | ex c fs s M => exact fun β' H' x d e' => h β' H' x d (e.trans e')
  | stuck => exact h
theorem Sat.st {r : Res α} {k : α → Mem → SRes} {Q : γ → Hp → Prop} (rs : RS K β H s σ) (h : SatS K W D β H (r.st s k))
    (hk : ∀ a M1 β1 H1 x, Ext β H β1 H1 → RM K β1 H1 M1 → R β1 H1 a x → SatS K W D β1 H1 (k a M1) → Q x H1) : Sat K W σ R β H r Q := by
  cases r with
  | ok a M => exact fun β' H' x e rm rx => hk a M β' H' x e rm rx (SatS.mono (r := k a M) h e)
  | ex c fs M => exact fun β' H' d e rm rx => h β' H' σ d e rm (rs.mono e) rx
  | stuck => exact h
theorem SatS.seq {r : SRes} {k : Slots → Mem → SRes} (h : SatS K W D β H (r.seq k)) (hb : ∀ σ H, D.bk σ H → D'.bk σ H) (hc : ∀ σ H, D.ct σ H → D'.ct σ H) (hr : ∀ v H, D.rt v H → D'.rt v H)
    (hk : ∀ s1 M1 β1 H1 σ1, Ext β H β1 H1 → RM K β1 H1 M1 → RS K β1 H1 s1 σ1 → SatS K W D β1 H1 (k s1 M1) → D'.nx σ1 H1) : SatS K W D' β H r := by
  cases r with
  | nx s M => exact fun β' H' x e rm rx => hk s M β' H' x e rm rx (SatS.mono (r := k s M) h e)
  | bk s M => exact fun β' H' x e rm rx => hb _ _ (h β' H' x e rm rx)
  | ct s M => exact fun β' H' x e rm rx => hc _ _ (h β' H' x e rm rx)
  | rt v M => exact fun β' H' x e rm rx => hr _ _ (h β' H' x e rm rx)
  | ex c fs s M => exact h
  | stuck => exact h
end
end Fl
set_option Elab.async false
set_option linter.all false
set_option maxRecDepth 100000
set_option maxHeartbeats 1000000
/-! Fl2: expressions as functions. -/
namespace Fl
open PySem PySem.Spec PyProof.Rows L2

section
variable {X : Cx}
theorem peI {e : Expr} {t t' : TE} (h : PE X e t) (k : ∀ σ H Q, t' σ H Q → t σ H Q) : PE X e t' := ⟨fun pins s σ H Q I q => h.run pins s σ H Q I (k σ H Q q)⟩
theorem ptI {e : Expr} {t t' : TT} (h : PT X e t) (k : ∀ σ H Q, t' σ H Q → t σ H Q) : PT X e t' := ⟨fun pins s σ H Q I q => h.run pins s σ H Q I (k σ H Q q)⟩
theorem pwI {e : Expr} {t t' : TT} (h : PW X e t) (k : ∀ σ H Q, t' σ H Q → t σ H Q) : PW X e t' := ⟨fun wh pins s σ H Q I q => h.run wh pins s σ H Q I (k σ H Q q)⟩
theorem paI {e : List Expr} {t t' : TA} (h : PA X e t) (k : ∀ σ H Q, t' σ H Q → t σ H Q) : PA X e t' := ⟨fun pos pins s σ H Q I q => h.run pos pins s σ H Q I (k σ H Q q)⟩
theorem psI {e : Stmt} {t t' : TS} (h : PS X e t) (k : ∀ D σ H, t' D σ H → t D σ H) : PS X e t' := ⟨fun pins s σ H D I q => h.run pins s σ H D I (k D σ H q)⟩
theorem pssI {e : List Stmt} {t t' : TS} (h : PSs X e t) (k : ∀ D σ H, t' D σ H → t D σ H) : PSs X e t' := ⟨fun pins s σ H D I q => h.run pins s σ H D I (k D σ H q)⟩
end

/-- the sizes that are let by -/
def lim : Nat := 1000000
theorem lim_ok {n : Nat} (h : n ≤ lim) : n ≤ sizeLine := by rw [sizeLine_eq]; unfold lim at h; omega
theorem lim_lt {n : Nat} (h : n ≤ lim) : n < sizeLine := by rw [sizeLine_eq]; unfold lim at h; omega

/-! ### names and constants -/
def fVar (i : Nat) : FE := fun s M => match s[i]? with
  | some (some t) => .ok t M
  | _ => .stuck
def fC (t : T) : FE := fun _ M => .ok t M
section
variable {X : Cx} {W : WX} {pos : Pos}
theorem f_var (i : Nat) {x : Str} (hN : X.N[i]? = some x := by rfl) (hv : Vis X.env.scope x := by first | exact Or.inl rfl | exact Or.inr (Or.inl rfl) | exact Or.inr (Or.inr rfl)) (hd : (x == ("__debug__" : Str)) = false := by decide)
    (hcd : (x == ("__classdict__" : Str)) = false := by decide) : PE X (.Name x pos) (tE X.K W (fVar i)) := by
  refine peI (pe_var hN hv hd hcd) fun σ H Q ⟨β, s, M, rs, rm, h⟩ => ?_
  unfold fVar at h
  split at h
  · rename_i t ht
    obtain ⟨v, e, r⟩ := rs.val i t ht
    exact ⟨v, e, h β H v .refl rm r⟩
  · exact h.elim
theorem f_int {i j} : PE X (.Constant (.int i) j pos) (tE X.K W (fC (.int i))) := peI pe_int fun σ H Q ⟨β, s, M, rs, rm, h⟩ => h β H _ .refl rm (by simp only [RT])
theorem f_bl {b j} : PE X (.Constant (.bool b) j pos) (tE X.K W (fC (.bl b))) := peI pe_bl fun σ H Q ⟨β, s, M, rs, rm, h⟩ => h β H _ .refl rm (by simp only [RT])
theorem f_non {j} : PE X (.Constant .none j pos) (tE X.K W (fC .non)) := peI pe_non fun σ H Q ⟨β, s, M, rs, rm, h⟩ => h β H _ .refl rm (by simp only [RT])
theorem f_str {x j} : PE X (.Constant (.str x) j pos) (tE X.K W (fC (.str x))) := peI pe_str fun σ H Q ⟨β, s, M, rs, rm, h⟩ => h β H _ .refl rm (by simp only [RT])
/-- a constant of the module -/
def StaV (K : PySem.W.Frag) (t : T) (v : V) : Prop := ∀ β H, RT K β H t v
theorem f_glob {x : Str} {v : V} {u : Value} {t : T} (hg : Gl X x) (hm : X.mg x = some u) (r : RelV v u) (hT : StaV X.K t v) (hd : (x == ("__debug__" : Str)) = false := by decide) : PE X (.Name x pos) (tE X.K W (fC t)) :=
  peI (pe_glob hg hm r hd) fun σ H Q ⟨β, s, M, rs, rm, h⟩ => h β H _ .refl rm (hT β H)
theorem f_blt {x : Str} {v : V} {u : Value} {t : T} (hg : Gl X x) (hm : X.mg x = none) (hv : bootBuiltins x = some u) (r : RelV v u) (hT : StaV X.K t v) (hn : x ≠ "__name__" := by decide) (hd : (x == ("__debug__" : Str)) = false := by decide) : PE X (.Name x pos) (tE X.K W (fC t)) :=
  peI (pe_bltn hg hm hv r hn hd) fun σ H Q ⟨β, s, M, rs, rm, h⟩ => h β H _ .refl rm (hT β H)
end

/-! ### two operands -/
def BinF (X : Cx) (fn : Value → Value → Sem Value) (o : T → T → Mem → Res T) : Prop := ∃ r : R2, OpR X fn r ∧
  ∀ (W : WX) (σ : L2.St) (β : Bag) (M : Mem) (H : Hp) (x y : V) (a b : T) (Q : VK), RM X.K β H M → RT X.K β H a x → RT X.K β H b y → Sat X.K W σ (RT X.K) β H (o a b M) Q → r x y H Q
def fOp (o : T → T → Mem → Res T) (f g : FE) : FE := fun s M => (f s M).bind fun a M1 => (g s M1).bind fun b M2 => o a b M2
section
variable {X : Cx} {W : WX} {pos : Pos} {a b : Expr} {fa fb : FE} {o : T → T → Mem → Res T}
theorem op_sound {r : R2} (hk : ∀ (W : WX) (σ : L2.St) (β : Bag) (M : Mem) (H : Hp) (x y : V) (a b : T) (Q : VK), RM X.K β H M → RT X.K β H a x → RT X.K β H b y → Sat X.K W σ (RT X.K) β H (o a b M) Q → r x y H Q)
    {σ : L2.St} {H : Hp} {Q : VK} (h : tE X.K W (fOp o fa fb) σ H Q) : tOp r (tE X.K W fa) (tE X.K W fb) σ H Q := by
  obtain ⟨β, s, M, rs, rm, h⟩ := h
  refine ⟨β, s, M, rs, rm, Sat.bind h ?_⟩
  intro a M1 β1 H1 x e1 rm1 rx h1
  refine ⟨β1, s, M1, rs.mono e1, rm1, Sat.bind h1 ?_⟩
  intro b M2 β2 H2 y e2 rm2 ry h2
  exact hk W σ β2 M2 H2 x y a b Q rm2 (rx.up e2) ry h2
theorem f_op {op : Operator} (ho : BinF X (binaryOp op) o) (ha : PE X a (tE X.K W fa)) (hb : PE X b (tE X.K W fb)) : PE X (.BinOp a op b pos) (tE X.K W (fOp o fa fb)) := by
  obtain ⟨r, hr, hk⟩ := ho
  exact peI (pe_op hr ha hb) fun σ H Q h => op_sound hk h
theorem f_cmp {op : CmpOp} (ho : BinF X (compareOp op) o) (ha : PE X a (tE X.K W fa)) (hb : PE X b (tE X.K W fb)) (hm : behindInMarks op b = false := by first | exact nomark _ | rfl) : PE X (.Compare a [op] [b] pos) (tE X.K W (fOp o fa fb)) := by
  obtain ⟨r, hr, hk⟩ := ho
  exact peI (pe_cmpR hr ha hb hm) fun σ H Q h => op_sound hk h
end

/-! ### tests -/
def fB (f : FE) : FT := fun s M => (f s M).bind fun t M1 => match t with
  | .bl b => .ok b M1
  | _ => .stuck
def fAnd (f g : FT) : FT := fun s M => (f s M).bind fun b M1 => if b = true then g s M1 else .ok false M1
def fOr (f g : FT) : FT := fun s M => (f s M).bind fun b M1 => if b = true then .ok true M1 else g s M1
def fNot (f : FT) : FT := fun s M => (f s M).bind fun b M1 => .ok (!b) M1
def fAndV (f g : FE) : FE := fun s M => (f s M).bind fun t M1 => match t with
  | .bl true => g s M1
  | .bl false => .ok (.bl false) M1
  | _ => .stuck
def fOrV (f g : FE) : FE := fun s M => (f s M).bind fun t M1 => match t with
  | .bl true => .ok (.bl true) M1
  | .bl false => g s M1
  | _ => .stuck
def fNotV (f : FE) : FE := fun s M => (f s M).bind fun t M1 => match t with
  | .bl b => .ok (.bl (!b)) M1
  | _ => .stuck
def fIf (c : FT) (f g : FE) : FE := fun s M => (c s M).bind fun b M1 => if b = true then f s M1 else g s M1
section
variable {X : Cx} {W : WX} {pos : Pos} {e a b c : Expr} {f fa fb : FE} {gc ga gb : FT} {rest : List Expr}
theorem fB_sound {σ : L2.St} {H : Hp} {Q : Bool → Hp → Prop} (h : tT X.K W (fB f) σ H Q) : tE X.K W f σ H fun x H1 => ∃ c, x = .bl c ∧ Q c H1 := by
  obtain ⟨β, s, M, rs, rm, h⟩ := h
  refine ⟨β, s, M, rs, rm, Sat.bind h ?_⟩
  intro t M1 β1 H1 x e1 rm1 rx h1
  cases t with
  | bl b =>
    simp only [RT] at rx
    exact ⟨b, rx, h1 β1 H1 b .refl rm1 rfl⟩
  | _ => exact h1.elim
/-- a comparison as a test -/
theorem g_cmp {op : CmpOp} {o : T → T → Mem → Res T} (ho : BinF X (compareOp op) o) (ha : PE X a (tE X.K W fa)) (hb : PE X b (tE X.K W fb)) (hm : behindInMarks op b = false := by first | exact nomark _ | rfl) : PT X (.Compare a [op] [b] pos) (tT X.K W (fB (fOp o fa fb))) := by
  obtain ⟨r, hr, hk⟩ := ho
  refine ptI (pt_cmpR hr ha hb hm) fun σ H Q h => ?_
  have h' := fB_sound h
  exact op_sound hk h'
/-- any other expression that gives a bool -/
theorem g_val (h : PE X e (tE X.K W f)) (he : ∀ whole, isTrue e X.env whole = (do let v ← whole; standAt e.pos; holding [v] (truthy v)) := by intro _; rfl) : PT X e (tT X.K W (fB f)) :=
  ptI (pt_val h he) fun σ H Q h => fB_sound h
theorem g_not (ha : PT X a (tT X.K W ga)) : PT X (.UnaryOp .Not a pos) (tT X.K W (fNot ga)) := by
  refine ptI (pt_not ha) fun σ H Q ⟨β, s, M, rs, rm, h⟩ => ⟨β, s, M, rs, rm, Sat.bind h ?_⟩
  rintro b M1 β1 H1 x e1 rm1 rfl h1
  exact h1 β1 H1 _ .refl rm1 rfl
theorem w_one {op : BoolOp} (ha : PT X a (tT X.K W ga)) : PW X (.BoolOp op [a] pos) (tT X.K W ga) := by
  cases op
  · exact pw_and1 ha
  · exact pw_or1 ha
theorem w_and (ha : PT X a (tT X.K W ga)) (hb : PW X (.BoolOp .And (b :: rest) pos) (tT X.K W gb)) : PW X (.BoolOp .And (a :: b :: rest) pos) (tT X.K W (fAnd ga gb)) := by
  refine pwI (pw_and ha hb) fun σ H Q ⟨β, s, M, rs, rm, h⟩ => ⟨β, s, M, rs, rm, Sat.bind h ?_⟩
  rintro b M1 β1 H1 x e1 rm1 rfl h1
  cases b with
  | true => exact ⟨β1, s, M1, rs.mono e1, rm1, h1⟩
  | false => exact h1 β1 H1 _ .refl rm1 rfl
theorem w_or (ha : PT X a (tT X.K W ga)) (hb : PW X (.BoolOp .Or (b :: rest) pos) (tT X.K W gb)) : PW X (.BoolOp .Or (a :: b :: rest) pos) (tT X.K W (fOr ga gb)) := by
  refine pwI (pw_or ha hb) fun σ H Q ⟨β, s, M, rs, rm, h⟩ => ⟨β, s, M, rs, rm, Sat.bind h ?_⟩
  rintro b M1 β1 H1 x e1 rm1 rfl h1
  cases b with
  | true => exact h1 β1 H1 _ .refl rm1 rfl
  | false => exact ⟨β1, s, M1, rs.mono e1, rm1, h1⟩
theorem f_one {op : BoolOp} (ha : PE X a (tE X.K W fa)) : PE X (.BoolOp op [a] pos) (tE X.K W fa) := pe_one ha
theorem f_and (ha : PE X a (tE X.K W fa)) (hb : PE X (.BoolOp .And (b :: rest) pos) (tE X.K W fb)) : PE X (.BoolOp .And (a :: b :: rest) pos) (tE X.K W (fAndV fa fb)) := by
  refine peI (pe_and ha hb) fun σ H Q ⟨β, s, M, rs, rm, h⟩ => ⟨β, s, M, rs, rm, Sat.bind h ?_⟩
  intro t M1 β1 H1 x e1 rm1 rx h1
  cases t with
  | bl b =>
    simp only [RT] at rx
    refine ⟨b, rx, ?_⟩
    cases b with
    | true => exact ⟨β1, s, M1, rs.mono e1, rm1, h1⟩
    | false => exact h1 β1 H1 _ .refl rm1 (by simp only [RT])
  | _ => exact h1.elim
theorem f_or (ha : PE X a (tE X.K W fa)) (hb : PE X (.BoolOp .Or (b :: rest) pos) (tE X.K W fb)) : PE X (.BoolOp .Or (a :: b :: rest) pos) (tE X.K W (fOrV fa fb)) := by
  refine peI (pe_or ha hb) fun σ H Q ⟨β, s, M, rs, rm, h⟩ => ⟨β, s, M, rs, rm, Sat.bind h ?_⟩
  intro t M1 β1 H1 x e1 rm1 rx h1
  cases t with
  | bl b =>
    simp only [RT] at rx
    refine ⟨b, rx, ?_⟩
    cases b with
    | true => exact h1 β1 H1 _ .refl rm1 (by simp only [RT])
    | false => exact ⟨β1, s, M1, rs.mono e1, rm1, h1⟩
  | _ => exact h1.elim
theorem f_not (ha : PE X a (tE X.K W fa)) : PE X (.UnaryOp .Not a pos) (tE X.K W (fNotV fa)) := by
  refine peI (pe_not ha) fun σ H Q ⟨β, s, M, rs, rm, h⟩ => ⟨β, s, M, rs, rm, Sat.bind h ?_⟩
  intro t M1 β1 H1 x e1 rm1 rx h1
  cases t with
  | bl b =>
    simp only [RT] at rx
    exact ⟨b, rx, h1 β1 H1 _ .refl rm1 (by simp only [RT])⟩
  | _ => exact h1.elim
theorem f_if (hc : PT X c (tT X.K W gc)) (ha : PE X a (tE X.K W fa)) (hb : PE X b (tE X.K W fb)) : PE X (.IfExp c a b pos) (tE X.K W (fIf gc fa fb)) := by
  refine peI (pe_ifExp hc ha hb) fun σ H Q ⟨β, s, M, rs, rm, h⟩ => ⟨β, s, M, rs, rm, Sat.bind h ?_⟩
  rintro b M1 β1 H1 x e1 rm1 rfl h1
  cases b with
  | true => exact ⟨β1, s, M1, rs.mono e1, rm1, h1⟩
  | false => exact ⟨β1, s, M1, rs.mono e1, rm1, h1⟩
end

/-! ### a op1 b op2 c -/
def fChain (o o' : T → T → Mem → Res T) (f g h : FE) : FE := fun s M => (f s M).bind fun a M1 => (g s M1).bind fun b M2 => (o a b M2).bind fun c M3 => match c with
  | .bl true => (h s M3).bind fun d M4 => o' b d M4
  | .bl false => .ok (.bl false) M3
  | _ => .stuck

/-! ### rows of arguments, displays -/
def aNil : FA := fun _ M => .ok [] M
def aCons (f : FE) (g : FA) : FA := fun s M => (f s M).bind fun t M1 => (g s M1).bind fun ts M2 => .ok (t :: ts) M2
def items (M : Mem) : T → Option (List T)
  | .tup us => some us
  | .lst us => some us
  | .ref n => match M[n]? with
    | some (.lst us) => some us
    | _ => none
  | _ => none
def aStar (f : FE) (g : FA) : FA := fun s M => (f s M).bind fun t M1 => match items M1 t with
  | some us => (g s M1).bind fun ts M2 => .ok (us ++ ts) M2
  | none => .stuck
def fTup (g : FA) : FE := fun s M => (g s M).bind fun ts M1 => if ts.length ≤ lim then .ok (.tup ts) M1 else .stuck
/-- a list that nobody changes -/
def fLst (g : FA) : FE := fun s M => (g s M).bind fun ts M1 => if ts.length ≤ lim then .ok (.lst ts) M1 else .stuck
/-- a list that is changed later -/
def fNew (g : FA) : FE := fun s M => (g s M).bind fun ts M1 => if ts.length ≤ lim then .ok (.ref M1.length) (M1 ++ [.lst ts]) else .stuck
section
variable {K : PySem.W.Frag} {β : Bag} {H : Hp} {M : Mem} {v : V}
theorem RT.adr_ {a : Addr} {n : Nat} (h : β.hs[n]? = some a) : RT K β H (.ref n) (.ref a) := by simp only [RT]; exact ⟨a, rfl, h⟩
/-- what can be walked: a tuple or a list at an address -/
theorem items_at {t : T} {us : List T} (rm : RM K β H M) (h : items M t = some us) (r : RT K β H t v) : ∃ a vs, v = .ref a ∧ (SqT K H a vs ∨ SqL K H a vs) ∧ RTs K β H us vs := by
  cases t with
  | tup ts =>
    simp only [items, Option.some.injEq] at h
    subst h
    simp only [RT] at r
    obtain ⟨a, vs, e, h2, h3⟩ := r
    refine ⟨a, vs, e, .inl ?_, h3⟩
    rcases h2 with ⟨_, q⟩ | q
    · exact .inl q
    · exact .inr q
  | lst ts =>
    simp only [items, Option.some.injEq] at h
    subst h
    simp only [RT] at r
    obtain ⟨a, vs, e, _, h2, h3⟩ := r
    exact ⟨a, vs, e, .inr (SqL.of h2), h3⟩
  | ref n =>
    simp only [items] at h
    simp only [RT] at r
    obtain ⟨a, e, hb⟩ := r
    split at h
    · rename_i ts hM
      cases h
      obtain ⟨vs, h1, h2⟩ := rm.cell n a _ hb hM
      exact ⟨a, vs, e, .inr (SqL.of h1), h2⟩
    · cases h
  | _ => simp [items] at h
theorem new_tup {p : Addr} {ts : List T} {vs : List V} (rm : RM K β H M) (hp : H p = none) (r : RTs K β H ts vs) : RT K β (upd H p (.tup vs)) (.tup ts) (.ref p) := by
  simp only [RT]
  exact ⟨p, vs, rfl, .inl ⟨rm.fresh hp, .inl upd_same⟩, r.mono (Ext.new rm hp).toMon⟩
theorem new_lst {p : Addr} {ts : List T} {vs : List V} (rm : RM K β H M) (hp : H p = none) (r : RTs K β H ts vs) : RT K β (upd H p (.lst vs)) (.lst ts) (.ref p) := by
  simp only [RT]
  exact ⟨p, vs, rfl, rm.fresh hp, upd_same, r.mono (Ext.new rm hp).toMon⟩
theorem new_cell {p : Addr} {ts : List T} {vs : List V} (rm : RM K β H M) (hp : H p = none) (r : RTs K β H ts vs) :
    RM K (β.push p) (upd H p (.lst vs)) (M ++ [.lst ts]) ∧ RT K (β.push p) (upd H p (.lst vs)) (.ref M.length) (.ref p) := by
  refine ⟨rm.push hp ⟨vs, upd_same, r.mono (Ext.cell rm hp).toMon⟩, RT.adr_ ?_⟩
  rw [← rm.len]
  simp
end
section
variable {X : Cx} {W : WX} {pos : Pos} {e : Expr} {es : List Expr} {f : FE} {g : FA}
theorem a_nil : PA X [] (tA X.K W aNil) := paI pa_nil fun σ H Q ⟨β, s, M, rs, rm, h⟩ => h β H _ .refl rm .nil
theorem a_cons (ha : PE X e (tE X.K W f)) (hr : PA X es (tA X.K W g)) (hs : starEach (e :: es) X.env = (false, eval e X.env) :: starEach es X.env := by rfl) : PA X (e :: es) (tA X.K W (aCons f g)) := by
  refine paI (pa_cons ha hr hs) fun σ H Q ⟨β, s, M, rs, rm, h⟩ => ⟨β, s, M, rs, rm, Sat.bind h ?_⟩
  intro t M1 β1 H1 x e1 rm1 rx h1
  refine ⟨β1, s, M1, rs.mono e1, rm1, Sat.bind h1 ?_⟩
  intro ts M2 β2 H2 xs e2 rm2 rxs h2
  exact h2 β2 H2 _ .refl rm2 (.cons (rx.up e2) rxs)
theorem a_star {p : Pos} (ha : PE X e (tE X.K W f)) (hr : PA X es (tA X.K W g)) (hs : starEach (.Starred e p :: es) X.env = (true, eval e X.env) :: starEach es X.env := by rfl) : PA X (.Starred e p :: es) (tA X.K W (aStar f g)) := by
  refine paI (StX.pa_star ha hr hs) fun σ H Q ⟨β, s, M, rs, rm, h⟩ => ⟨β, s, M, rs, rm, Sat.bind h ?_⟩
  intro t M1 β1 H1 x e1 rm1 rx h1
  split at h1
  · rename_i us hus
    obtain ⟨a, vs, rfl, hq, rv⟩ := items_at rm1 hus rx
    refine ⟨a, vs, rfl, hq, β1, s, M1, rs.mono e1, rm1, Sat.bind h1 ?_⟩
    intro ts M2 β2 H2 xs e2 rm2 rxs h2
    exact h2 β2 H2 _ .refl rm2 ((rv.up e2).append rxs)
  · exact h1.elim
theorem f_tup {x1} (h : PA X es (tA X.K W g)) : PE X (.Tuple es x1 pos) (tE X.K W (fTup g)) := by
  refine peI (pe_tup h) fun σ H Q ⟨β, s, M, rs, rm, h⟩ => ⟨β, s, M, rs, rm, Sat.bind h ?_⟩
  intro ts M1 β1 H1 xs e1 rm1 rx h1
  split at h1
  · rename_i hl
    refine ⟨by rw [rx.length]; exact lim_ok hl, fun p hp => ?_⟩
    exact h1 β1 _ _ (.new rm1 hp) (rm1.new hp) (new_tup rm1 hp rx)
  · exact h1.elim
theorem f_lst (h : PA X es (tA X.K W g)) : PE X (.List es pos) (tE X.K W (fLst g)) := by
  refine peI (pe_lst h) fun σ H Q ⟨β, s, M, rs, rm, h⟩ => ⟨β, s, M, rs, rm, Sat.bind h ?_⟩
  intro ts M1 β1 H1 xs e1 rm1 rx h1
  split at h1
  · rename_i hl
    refine ⟨by rw [rx.length]; exact lim_ok hl, fun p hp => ?_⟩
    exact h1 β1 _ _ (.new rm1 hp) (rm1.new hp) (new_lst rm1 hp rx)
  · exact h1.elim
theorem f_new (h : PA X es (tA X.K W g)) : PE X (.List es pos) (tE X.K W (fNew g)) := by
  refine peI (pe_lst h) fun σ H Q ⟨β, s, M, rs, rm, h⟩ => ⟨β, s, M, rs, rm, Sat.bind h ?_⟩
  intro ts M1 β1 H1 xs e1 rm1 rx h1
  split at h1
  · rename_i hl
    refine ⟨by rw [rx.length]; exact lim_ok hl, fun p hp => ?_⟩
    obtain ⟨n1, n2⟩ := new_cell rm1 hp rx
    exact h1 _ _ _ (.cell rm1 hp) n1 n2
  · exact h1.elim
end
end Fl
set_option Elab.async false
set_option linter.all false
set_option maxRecDepth 100000
set_option maxHeartbeats 1000000
/-! Fl3: operators, comparisons, subscripts, slices, built-ins, methods. -/
namespace Fl
open PySem PySem.Spec PyProof.Rows L2

/-! ### values as data -/
mutual
def T.data : T → PyData
  | .non => .none
  | .bl b => .bool b
  | .int i => .int i
  | .str x => .str x
  | .tup ts => .tuple (T.datas ts)
  | .lst ts => .list (T.datas ts)
  | .scr ts => .list (T.datas ts)
  | .iset _ => .dict []
  | .rng _ _ => .dict []
  | .ref _ => .dict []
  | .adr _ => .dict []
  | .ty _ => .dict []
def T.datas : List T → List PyData
  | [] => []
  | t :: ts => T.data t :: T.datas ts
end
section
variable {K : PySem.W.Frag} {β : Bag} {H : Hp} {M : Mem}
mutual
theorem RT.dp : ∀ (t : T) (v : V), RT K β H t v → t.data.canLay0 = true → Dp K H v t.data
  | .non, v, h, _ => by simp only [RT] at h; subst h; exact .non
  | .bl b, v, h, _ => by simp only [RT] at h; subst h; exact .bl b
  | .int i, v, h, _ => by simp only [RT] at h; subst h; exact .int i
  | .str x, v, h, _ => by simp only [RT] at h; subst h; exact .str x
  | .tup ts, v, h, c => by
    simp only [RT] at h
    obtain ⟨a, vs, rfl, h2, h3⟩ := h
    refine .tup ?_ (RTs.dp ts vs h3 (by simpa [T.data, PyData.canLay0] using c))
    rcases h2 with ⟨_, q⟩ | q
    · exact .inl q
    · exact .inr q
  | .lst ts, v, h, c => by
    simp only [RT] at h
    obtain ⟨a, vs, rfl, _, h2, h3⟩ := h
    exact .lst (SqL.of h2) (RTs.dp ts vs h3 (by simpa [T.data, PyData.canLay0] using c))
  | .scr ts, v, h, c => by
    simp only [RT] at h
    obtain ⟨a, vs, rfl, h2, h3⟩ := h
    refine .lst ?_ (RTs.dp ts vs h3 (by simpa [T.data, PyData.canLay0] using c))
    rcases h2 with ⟨_, q⟩ | q
    · exact .inl q
    · exact .inr q
  | .iset ns, v, h, c => by simp [T.data, PyData.canLay0] at c
  | .rng _ _, v, h, c => by simp [T.data, PyData.canLay0] at c
  | .ref n, v, h, c => by simp [T.data, PyData.canLay0] at c
  | .adr a, v, h, c => by simp [T.data, PyData.canLay0] at c
  | .ty a, v, h, c => by simp [T.data, PyData.canLay0] at c
theorem RTs.dp : ∀ (ts : List T) (vs : List V), RTs K β H ts vs → PyData.canLayAll0 (T.datas ts) = true → DpAll K H vs (T.datas ts)
  | [], vs, h, _ => by rw [h.nil_of]; exact .nil
  | t :: ts, vs, h, c => by
    obtain ⟨v, r, rfl, h2, h3⟩ := h.uncons
    simp only [T.datas, PyData.canLayAll0, Bool.and_eq_true] at c
    exact .cons (RT.dp t v h2 c.1) (RTs.dp ts r h3 c.2)
end
end

/-! ### operators -/
theorem opOr {X : Cx} {f : Value → Value → Sem Value} {r r' : R2} (h : OpR X f r) (h' : OpR X f r') : OpR X f (fun x y H Q => r x y H Q ∨ r' x y H Q) := by
  intro pins s σ H x y v u Q I rx ry q
  rcases q with q | q
  · exact h pins s σ H x y v u Q I rx ry q
  · exact h' pins s σ H x y v u Q I rx ry q
def lstOf (M : Mem) : T → Option (List T)
  | .lst us => some us
  | .ref n => match M[n]? with
    | some (.lst us) => some us
    | _ => none
  | _ => none
theorem lst_at {K : PySem.W.Frag} {β : Bag} {H : Hp} {M : Mem} {v : V} {t : T} {us : List T} (rm : RM K β H M) (h : lstOf M t = some us) (r : RT K β H t v) : ∃ a vs, v = .ref a ∧ H a = some (.lst vs) ∧ RTs K β H us vs := by
  cases t with
  | lst ts =>
    simp only [lstOf, Option.some.injEq] at h
    subst h
    simp only [RT] at r
    obtain ⟨a, vs, e, _, h2, h3⟩ := r
    exact ⟨a, vs, e, h2, h3⟩
  | ref n =>
    simp only [lstOf] at h
    simp only [RT] at r
    obtain ⟨a, e, hb⟩ := r
    split at h
    · rename_i ts hM
      cases h
      obtain ⟨vs, h1, h2⟩ := rm.cell n a _ hb hM
      exact ⟨a, vs, e, h1, h2⟩
    · cases h
  | _ => simp [lstOf] at h
def oAdd (a b : T) (M : Mem) : Res T := match a, b with
  | .int i, .int j => .ok (.int (i + j)) M
  | .str x, .str y => if x.length + y.length ≤ lim then .ok (.str (x ++ y)) M else .stuck
  | .tup ts, .tup us => if ts.length + us.length ≤ lim then .ok (.tup (ts ++ us)) M else .stuck
  | a, b => match lstOf M a, lstOf M b with
    | some ts, some us => if ts.length + us.length ≤ lim then .ok (.lst (ts ++ us)) M else .stuck
    | _, _ => .stuck
def oSub (a b : T) (M : Mem) : Res T := match a, b with
  | .int i, .int j => .ok (.int (i - j)) M
  | _, _ => .stuck
def mulOk (i j : Int) : Bool := decide (i.natAbs < 18446744073709551616) || decide (j.natAbs < 18446744073709551616)
def oMul (a b : T) (M : Mem) : Res T := match a, b with
  | .int i, .int j => if mulOk i j = true then .ok (.int (i * j)) M else .stuck
  | a, .int k => match lstOf M a with
    | some ts => if 0 ≤ k ∧ k.toNat ≤ 1000 ∧ ts.length ≤ 1000 then .ok (.lst (List.replicate k.toNat ts).flatten) M else .stuck
    | _ => .stuck
  | _, _ => .stuck
def oFdiv (a b : T) (M : Mem) : Res T := match a, b with
  | .int i, .int j => if 0 < j ∧ j.toNat < 1073741824 then .ok (.int (i / j)) M else .stuck
  | _, _ => .stuck
def oMod (a b : T) (M : Mem) : Res T := match a, b with
  | .int i, .int j => if 0 < j then .ok (.int (i % j)) M else .stuck
  | _, _ => .stuck
section
variable {X : Cx}
theorem b_add : BinF X (binaryOp .Add) oAdd := by
  refine ⟨_, opOr op_add (opOr op_add_str (opOr op_catA op_cat)), fun W σ β M H x y a b Q rm ra rb h => ?_⟩
  unfold oAdd at h
  split at h
  · simp only [RT] at ra rb
    exact .inl ⟨_, _, ra, rb, h β H _ .refl rm (by simp only [RT])⟩
  · split at h
    · rename_i x y hl
      simp only [RT] at ra rb
      exact .inr (.inl ⟨_, _, ra, rb, lim_ok hl, h β H _ .refl rm (by simp only [RT])⟩)
    · exact h.elim
  · split at h
    · rename_i ts us hl
      simp only [RT] at ra rb
      obtain ⟨p, vs, rfl, h1, r1⟩ := ra
      obtain ⟨q, ws, rfl, h2, r2⟩ := rb
      have s1 : SqT X.K H p vs := by
        rcases h1 with ⟨_, z⟩ | z
        · exact .inl z
        · exact .inr z
      have s2 : SqT X.K H q ws := by
        rcases h2 with ⟨_, z⟩ | z
        · exact .inl z
        · exact .inr z
      refine .inr (.inr (.inl ⟨p, q, vs, ws, rfl, rfl, s1, s2, by rw [r1.length, r2.length]; exact lim_ok hl, fun e => ?_, fun _ e => ?_, fun _ _ l hp => ?_⟩))
      · subst e
        have e' : ts = [] := List.eq_nil_of_length_eq_zero (by have := r1.length; simpa using this.symm)
        subst e'
        exact h β H _ .refl rm (by simp only [RT]; exact ⟨q, ws, rfl, h2, r2⟩)
      · subst e
        have e' : us = [] := List.eq_nil_of_length_eq_zero (by have := r2.length; simpa using this.symm)
        subst e'
        rw [List.append_nil] at h
        exact h β H _ .refl rm (by simp only [RT]; exact ⟨p, vs, rfl, h1, r1⟩)
      · exact h β _ _ (.new rm hp) (rm.new hp) (new_tup rm hp (r1.append r2))
    · exact h.elim
  · split at h
    · rename_i ts us e1 e2
      split at h
      · rename_i hl
        obtain ⟨p, vs, rfl, h1, r1⟩ := lst_at rm e1 ra
        obtain ⟨q, ws, rfl, h2, r2⟩ := lst_at rm e2 rb
        exact .inr (.inr (.inr ⟨p, q, vs, ws, rfl, rfl, h1, h2, by rw [r1.length, r2.length]; exact lim_ok hl, fun l hp => h β _ _ (.new rm hp) (rm.new hp) (new_lst rm hp (r1.append r2))⟩))
      · exact h.elim
    · exact h.elim
theorem b_sub : BinF X (binaryOp .Sub) oSub := by
  refine ⟨_, op_sub, fun W σ β M H x y a b Q rm ra rb h => ?_⟩
  unfold oSub at h
  split at h
  · simp only [RT] at ra rb
    exact ⟨_, _, ra, rb, h β H _ .refl rm (by simp only [RT])⟩
  · exact h.elim
theorem mul_ok {i j : Int} (h : mulOk i j = true) : CMul i j := by
  simp only [mulOk, Bool.or_eq_true, decide_eq_true_eq] at h
  rcases h with h | h
  · exact .inl ⟨by omega, by omega⟩
  · exact .inr ⟨by omega, by omega⟩
theorem rep_len (ts : List T) (k : Nat) : (List.replicate k ts).flatten.length = k * ts.length := by
  rw [PyProof.Rows.lm_len_rep_flat]
theorem b_mul : BinF X (binaryOp .Mult) oMul := by
  refine ⟨_, opOr op_mul op_rep, fun W σ β M H x y a b Q rm ra rb h => ?_⟩
  unfold oMul at h
  split at h
  · split at h
    · rename_i hl
      simp only [RT] at ra rb
      exact .inl ⟨_, _, ra, rb, mul_ok hl, h β H _ .refl rm (by simp only [RT])⟩
    · exact h.elim
  · split at h
    · rename_i ts e1
      split at h
      · rename_i hl
        obtain ⟨p, vs, rfl, h1, r1⟩ := lst_at rm e1 ra
        simp only [RT] at rb
        subst rb
        obtain ⟨k0, k1, hz⟩ := hl
        have hk : ∀ kk : Int, 0 ≤ kk → kk ≤ 1000 → vs.length * kk.toNat ≤ sizeLine := fun kk a1 a2 => by
          rw [r1.length, sizeLine_eq]
          have := Nat.mul_le_mul hz (show kk.toNat ≤ 1000 by omega)
          exact Nat.le_trans this (by decide)
        exact .inr ⟨p, _, vs, rfl, rfl, h1, by omega, by omega, hk _ k0 (by omega), fun l hp => h β _ _ (.new rm hp) (rm.new hp) (new_lst rm hp (r1.rep _))⟩
      · exact h.elim
    · exact h.elim
  · exact h.elim
theorem b_fdiv : BinF X (binaryOp .FloorDiv) oFdiv := by
  refine ⟨_, op_fdiv, fun W σ β M H x y a b Q rm ra rb h => ?_⟩
  unfold oFdiv at h
  split at h
  · split at h
    · rename_i hl
      simp only [RT] at ra rb
      exact ⟨_, _, ra, rb, ⟨hl.1, by omega⟩, h β H _ .refl rm (by simp only [RT])⟩
    · exact h.elim
  · exact h.elim
theorem b_mod : BinF X (binaryOp .Mod) oMod := by
  refine ⟨_, op_mod, fun W σ β M H x y a b Q rm ra rb h => ?_⟩
  unfold oMod at h
  split at h
  · split at h
    · rename_i hl
      simp only [RT] at ra rb
      exact ⟨_, _, ra, rb, hl, h β H _ .refl rm (by simp only [RT])⟩
    · exact h.elim
  · exact h.elim
end

/-! ### comparisons -/
def oEq (a b : T) (M : Mem) : Res T := if (SeqAt.shaped a.data && SeqAt.shaped b.data) = true then .ok (.bl (PyData.eqv a.data b.data)) M else .stuck
def oNe (a b : T) (M : Mem) : Res T := if (SeqAt.shaped a.data && SeqAt.shaped b.data) = true then .ok (.bl (!PyData.eqv a.data b.data)) M else .stuck
def oCmp (p : Int → Int → Bool) (a b : T) (M : Mem) : Res T := match a, b with
  | .int i, .int j => .ok (.bl (p i j)) M
  | _, _ => .stuck
abbrev oLt := oCmp fun i j => decide (i < j)
abbrev oLe := oCmp fun i j => decide (i ≤ j)
abbrev oGt := oCmp fun i j => decide (j < i)
abbrev oGe := oCmp fun i j => decide (j ≤ i)
def T.isNon : T → Bool
  | .non => true
  | _ => false
def oIs (a b : T) (M : Mem) : Res T := match b with
  | .non => .ok (.bl a.isNon) M
  | _ => .stuck
def oIsNot (a b : T) (M : Mem) : Res T := match b with
  | .non => .ok (.bl (!a.isNon)) M
  | _ => .stuck
section
variable {X : Cx}
theorem b_eq (hu : X.A.units + 64 < cLine) : BinF X (compareOp .Eq) oEq := by
  refine ⟨_, op_eqD hu, fun W σ β M H x y a b Q rm ra rb h => ?_⟩
  unfold oEq at h
  split at h
  · rename_i hs
    rw [Bool.and_eq_true] at hs
    exact ⟨_, _, RT.dp a x ra (SeqAt.canLay_of_shaped hs.1), RT.dp b y rb (SeqAt.canLay_of_shaped hs.2), hs.1, hs.2, h β H _ .refl rm (by simp only [RT])⟩
  · exact h.elim
theorem b_ne (hu : X.A.units + 64 < cLine) : BinF X (compareOp .NotEq) oNe := by
  refine ⟨_, op_neD hu, fun W σ β M H x y a b Q rm ra rb h => ?_⟩
  unfold oNe at h
  split at h
  · rename_i hs
    rw [Bool.and_eq_true] at hs
    exact ⟨_, _, RT.dp a x ra (SeqAt.canLay_of_shaped hs.1), RT.dp b y rb (SeqAt.canLay_of_shaped hs.2), hs.1, hs.2, h β H _ .refl rm (by simp only [RT])⟩
  · exact h.elim
theorem b_cmp {op : CmpOp} {p : Int → Int → Bool} (ho : OpR X (compareOp op) (rI0 fun i j => .bl (p i j))) : BinF X (compareOp op) (oCmp p) := by
  refine ⟨_, ho, fun W σ β M H x y a b Q rm ra rb h => ?_⟩
  unfold oCmp at h
  split at h
  · simp only [RT] at ra rb
    exact ⟨_, _, ra, rb, h β H _ .refl rm (by simp only [RT])⟩
  · exact h.elim
theorem b_lt : BinF X (compareOp .Lt) oLt := b_cmp op_lt
theorem b_le : BinF X (compareOp .LtE) oLe := b_cmp op_le
theorem b_gt : BinF X (compareOp .Gt) oGt := b_cmp op_gt
theorem b_ge : BinF X (compareOp .GtE) oGe := b_cmp op_ge
theorem RT.non_iff {K : PySem.W.Frag} {β : Bag} {H : Hp} {t : T} {v : V} (r : RT K β H t v) : decide (v = .non) = t.isNon := by
  cases t with
  | non => simp only [RT] at r; subst r; rfl
  | bl b => simp only [RT] at r; subst r; rfl
  | int b => simp only [RT] at r; subst r; rfl
  | str b => simp only [RT] at r; subst r; rfl
  | ty b => simp only [RT] at r; subst r; rfl
  | adr b => simp only [RT] at r; subst r; rfl
  | ref b => simp only [RT] at r; obtain ⟨_, rfl, _⟩ := r; rfl
  | tup b => simp only [RT] at r; obtain ⟨_, _, rfl, _⟩ := r; rfl
  | lst b => simp only [RT] at r; obtain ⟨_, _, rfl, _⟩ := r; rfl
  | scr b => simp only [RT] at r; obtain ⟨_, _, rfl, _⟩ := r; rfl
  | iset b => simp only [RT] at r; obtain ⟨_, rfl, _⟩ := r; rfl
  | rng b c => simp only [RT] at r; obtain ⟨_, rfl, _⟩ := r; rfl
theorem b_is : BinF X (compareOp .Is) oIs := by
  refine ⟨_, op_isN, fun W σ β M H x y a b Q rm ra rb h => ?_⟩
  unfold oIs at h
  split at h
  · simp only [RT] at rb
    exact ⟨rb, by rw [ra.non_iff]; exact h β H _ .refl rm (by simp only [RT])⟩
  · exact h.elim
theorem b_isnot : BinF X (compareOp .IsNot) oIsNot := by
  refine ⟨_, op_notN, fun W σ β M H x y a b Q rm ra rb h => ?_⟩
  unfold oIsNot at h
  split at h
  · simp only [RT] at rb
    exact ⟨rb, by rw [ra.non_iff]; exact h β H _ .refl rm (by simp only [RT])⟩
  · exact h.elim
end

/-! ### in -/
def seqOf (M : Mem) : T → Option (Bool × List T)
  | .tup us => some (true, us)
  | .lst us => some (false, us)
  | .ref n => match M[n]? with
    | some (.lst us) => some (false, us)
    | _ => none
  | _ => none
def inB (d : PyData) (ts : List T) : Bool := ts.any fun z => PyData.eqv z.data d
/-- a sign in a text -/
def subOf (x y : Str) : Bool := !(Builtin.Str.occurrences y x 0 y.length 1).isEmpty
def oIn (a b : T) (M : Mem) : Res T := match a, b with
  | .str x, .str y => .ok (.bl (subOf x y)) M
  | a, b => match seqOf M b with
    | some (_, ts) => if (SeqAt.shaped a.data && SeqAt.shaped (.list (T.datas ts))) = true then .ok (.bl (inB a.data ts)) M else .stuck
    | none => .stuck
def oNotIn (a b : T) (M : Mem) : Res T := match a, b with
  | .str x, .str y => .ok (.bl (!subOf x y)) M
  | a, b => match seqOf M b with
    | some (_, ts) => if (SeqAt.shaped a.data && SeqAt.shaped (.list (T.datas ts))) = true then .ok (.bl (!inB a.data ts)) M else .stuck
    | none => .stuck
def rInTD (K : PySem.W.Frag) : R2 := fun x y H Q => ∃ d ds, Dp K H x d ∧ Dp K H y (.tuple ds) ∧ SeqAt.shaped d = true ∧ SeqAt.shaped (.list ds) = true ∧ Q (.bl (ds.any fun z => PyData.eqv z d)) H
def rNotInTD (K : PySem.W.Frag) : R2 := fun x y H Q => ∃ d ds, Dp K H x d ∧ Dp K H y (.tuple ds) ∧ SeqAt.shaped d = true ∧ SeqAt.shaped (.list ds) = true ∧ Q (.bl (!ds.any fun z => PyData.eqv z d)) H
section
variable {X : Cx}
theorem op_inTD (hu : X.A.units + 65 < cLine) : OpR X (compareOp .In) (rInTD X.K) := by
  intro pins s σ H x y v u Q I rx ry h
  obtain ⟨d, ds, hd, he, sd, se, q⟩ := h
  obtain ⟨as, r1⟩ := Dp.reads I d x v hd rx
  obtain ⟨bs, r2⟩ := Dp.reads I (.tuple ds) y u he ry
  exact SeqAt.in_tuple_reads r2 r1 (by simpa [PyData.canLay0] using SeqAt.canLay_of_shaped se) (SeqAt.canLay_of_shaped sd) (room_in_shaped sd hu) ⟨.bl _, H, I, rfl, q⟩
theorem op_notInTD (hu : X.A.units + 65 < cLine) : OpR X (compareOp .NotIn) (rNotInTD X.K) := by
  intro pins s σ H x y v u Q I rx ry h
  obtain ⟨d, ds, hd, he, sd, se, q⟩ := h
  obtain ⟨as, r1⟩ := Dp.reads I d x v hd rx
  obtain ⟨bs, r2⟩ := Dp.reads I (.tuple ds) y u he ry
  exact SeqAt.notIn_tuple_reads r2 r1 (by simpa [PyData.canLay0] using SeqAt.canLay_of_shaped se) (SeqAt.canLay_of_shaped sd) (room_in_shaped sd hu) ⟨.bl _, H, I, rfl, q⟩
theorem datas_any (d : PyData) : ∀ ts : List T, ((T.datas ts).any fun z => PyData.eqv z d) = inB d ts
  | [] => rfl
  | t :: ts => by simp only [T.datas, List.any_cons, inB]; rw [datas_any d ts]; rfl
theorem seq_dp {K : PySem.W.Frag} {β : Bag} {H : Hp} {M : Mem} {v : V} {t : T} {b : Bool} {us : List T} (rm : RM K β H M) (h : seqOf M t = some (b, us)) (r : RT K β H t v) (c : PyData.canLayAll0 (T.datas us) = true) :
    Dp K H v (if b = true then .tuple (T.datas us) else .list (T.datas us)) := by
  cases t with
  | tup ts =>
    simp only [seqOf, Option.some.injEq, Prod.mk.injEq] at h
    obtain ⟨rfl, rfl⟩ := h
    exact RT.dp (.tup ts) v r (by simpa [T.data, PyData.canLay0] using c)
  | lst ts =>
    simp only [seqOf, Option.some.injEq, Prod.mk.injEq] at h
    obtain ⟨rfl, rfl⟩ := h
    exact RT.dp (.lst ts) v r (by simpa [T.data, PyData.canLay0] using c)
  | ref n =>
    simp only [seqOf] at h
    simp only [RT] at r
    obtain ⟨a, rfl, hb⟩ := r
    split at h
    · rename_i ts hM
      cases h
      obtain ⟨vs, h1, h2⟩ := rm.cell n a _ hb hM
      exact .lst (SqL.of h1) (RTs.dp _ vs h2 c)
    · cases h
  | _ => simp [seqOf] at h
theorem b_in (hu : X.A.units + 65 < cLine) : BinF X (compareOp .In) oIn := by
  refine ⟨_, opOr op_in_str (opOr (op_inD hu) (op_inTD hu)), fun W σ β M H x y a b Q rm ra rb h => ?_⟩
  unfold oIn at h
  split at h
  · simp only [RT] at ra rb
    exact .inl ⟨_, _, ra, rb, h β H _ .refl rm (by simp only [RT]; rfl)⟩
  · split at h
    · rename_i k ts hs
      split at h
      · rename_i sh
        rw [Bool.and_eq_true] at sh
        have c := SeqAt.canLay_of_shaped sh.2
        have q := seq_dp rm hs rb (by simpa [PyData.canLay0] using c)
        have fin := h β H (.bl (inB a.data ts)) .refl rm (by simp only [RT])
        rw [← datas_any] at fin
        cases k with
        | true => exact .inr (.inr ⟨_, _, RT.dp a x ra (SeqAt.canLay_of_shaped sh.1), q, sh.1, sh.2, fin⟩)
        | false => exact .inr (.inl ⟨_, _, RT.dp a x ra (SeqAt.canLay_of_shaped sh.1), q, sh.1, sh.2, fin⟩)
      · exact h.elim
    · exact h.elim
theorem b_notin (hu : X.A.units + 65 < cLine) : BinF X (compareOp .NotIn) oNotIn := by
  refine ⟨_, opOr op_notIn_str (opOr (op_notInD hu) (op_notInTD hu)), fun W σ β M H x y a b Q rm ra rb h => ?_⟩
  unfold oNotIn at h
  split at h
  · simp only [RT] at ra rb
    exact .inl ⟨_, _, ra, rb, h β H _ .refl rm (by simp only [RT]; rfl)⟩
  · split at h
    · rename_i k ts hs
      split at h
      · rename_i sh
        rw [Bool.and_eq_true] at sh
        have c := SeqAt.canLay_of_shaped sh.2
        have q := seq_dp rm hs rb (by simpa [PyData.canLay0] using c)
        have fin := h β H (.bl (!inB a.data ts)) .refl rm (by simp only [RT])
        rw [← datas_any] at fin
        cases k with
        | true => exact .inr (.inr ⟨_, _, RT.dp a x ra (SeqAt.canLay_of_shaped sh.1), q, sh.1, sh.2, fin⟩)
        | false => exact .inr (.inl ⟨_, _, RT.dp a x ra (SeqAt.canLay_of_shaped sh.1), q, sh.1, sh.2, fin⟩)
      · exact h.elim
    · exact h.elim
end
end Fl
set_option Elab.async false
set_option linter.all false
set_option maxRecDepth 100000
set_option maxHeartbeats 1000000
/-! Fl4: subscripts, slices, built-ins, methods. -/
namespace Fl
open PySem PySem.Spec PyProof.Rows L2

/-! ### dicts of ints and texts -/
def keyT : T → Option Key
  | .int i => some (.inl i)
  | .str x => some (.inr x)
  | _ => none
def look (kvs : List (Key × T)) (k : Key) : Option T := (kvs.find? fun kv => decide (kv.1 = k)).map (·.2)
def putT (kvs : List (Key × T)) (k : Key) (v : T) : List (Key × T) :=
  if (kvs.any fun kv => decide (kv.1 = k)) = true then kvs.map (fun kv => if kv.1 = k then (kv.1, v) else kv) else kvs ++ [(k, v)]
section
variable {K : PySem.W.Frag} {β : Bag} {H : Hp} {M : Mem}
theorem key_rel {t : T} {v : V} {k : Key} (h : keyT t = some k) (r : RT K β H t v) : v = kV k := by
  cases t with
  | int i => simp only [keyT, Option.some.injEq] at h; subst h; simp only [RT] at r; exact r
  | str i => simp only [keyT, Option.some.injEq] at h; subst h; simp only [RT] at r; exact r
  | _ => simp [keyT] at h
theorem look_rel {k : Key} : ∀ {kvs : List (Key × T)} {us : List (Key × V)}, us.map (·.1) = kvs.map (·.1) → RTs K β H (kvs.map (·.2)) (us.map (·.2)) →
    (∀ t, look kvs k = some t → ∃ v, valV us k = some v ∧ RT K β H t v) ∧ ((look kvs k).isSome = (valV us k).isSome)
  | [], us, hk, hr => by
    have : us = [] := by simpa using hk
    subst this
    exact ⟨fun t h => by simp [look] at h, rfl⟩
  | (k0, t0) :: kvs, [], hk, hr => by simp at hk
  | (k0, t0) :: kvs, (k1, v1) :: us, hk, hr => by
    simp only [List.map_cons, List.cons.injEq] at hk
    obtain ⟨rfl, hk⟩ := hk
    obtain ⟨v, r, e, h2, h3⟩ := RTs.uncons (by simpa only [List.map_cons] using hr)
    simp only [List.map_cons, List.cons.injEq] at e
    obtain ⟨rfl, rfl⟩ := e
    obtain ⟨ih1, ih2⟩ := look_rel hk h3
    by_cases e : k1 = k
    · subst e
      refine ⟨fun t h => ?_, ?_⟩
      · simp [look] at h
        subst h
        exact ⟨_, by simp [valV], h2⟩
      · simp [look, valV]
    · refine ⟨fun t h => ?_, ?_⟩
      · have h' : look kvs k = some t := by simpa [look, e] using h
        obtain ⟨v, h4, h5⟩ := ih1 t h'
        exact ⟨v, by rw [valV_neg (p := (k1, _)) e]; exact h4, h5⟩
      · rw [valV_neg (p := (k1, _)) e, ← ih2]
        simp [look, e]
theorem repl_rel {k : Key} {t : T} {v : V} (r : RT K β H t v) : ∀ {kvs : List (Key × T)} {us : List (Key × V)}, us.map (·.1) = kvs.map (·.1) → RTs K β H (kvs.map (·.2)) (us.map (·.2)) →
    (us.map (fun kv => if kv.1 = k then (kv.1, v) else kv)).map (·.1) = (kvs.map (fun kv => if kv.1 = k then (kv.1, t) else kv)).map (·.1) ∧ RTs K β H ((kvs.map (fun kv => if kv.1 = k then (kv.1, t) else kv)).map (·.2)) ((us.map (fun kv => if kv.1 = k then (kv.1, v) else kv)).map (·.2))
  | [], us, hk, hr => by
    have : us = [] := by simpa using hk
    subst this
    exact ⟨rfl, .nil⟩
  | (k0, t0) :: kvs, [], hk, hr => by simp at hk
  | (k0, t0) :: kvs, (k1, v1) :: us, hk, hr => by
    simp only [List.map_cons, List.cons.injEq] at hk
    obtain ⟨rfl, hk⟩ := hk
    obtain ⟨v', r', e, h2, h3⟩ := RTs.uncons (by simpa only [List.map_cons] using hr)
    simp only [List.map_cons, List.cons.injEq] at e
    obtain ⟨rfl, rfl⟩ := e
    obtain ⟨ih1, ih2⟩ := repl_rel r hk h3
    by_cases e : k1 = k
    · simp only [List.map_cons, e, if_true]
      exact ⟨by rw [ih1], .cons r ih2⟩
    · simp only [List.map_cons, e, if_false]
      exact ⟨by rw [ih1], .cons h2 ih2⟩
theorem put_rel {k : Key} {t : T} {v : V} (r : RT K β H t v) {kvs : List (Key × T)} {us : List (Key × V)} (hk : us.map (·.1) = kvs.map (·.1)) (hr : RTs K β H (kvs.map (·.2)) (us.map (·.2))) :
    (putK us k v).map (·.1) = (putT kvs k t).map (·.1) ∧ RTs K β H ((putT kvs k t).map (·.2)) ((putK us k v).map (·.2)) := by
  have e : (us.any fun kv => decide (kv.1 = k)) = (kvs.any fun kv => decide (kv.1 = k)) := by
    have h1 : (us.any fun kv => decide (kv.1 = k)) = (us.map (·.1)).any fun x => decide (x = k) := by simp [List.any_map, Function.comp_def]
    have h2 : (kvs.any fun kv => decide (kv.1 = k)) = (kvs.map (·.1)).any fun x => decide (x = k) := by simp [List.any_map, Function.comp_def]
    rw [h1, h2, hk]
  unfold putK putT
  rw [e]
  split
  · exact repl_rel r hk hr
  · refine ⟨by simp [hk], ?_⟩
    rw [List.map_append, List.map_append]
    exact hr.append (.cons r .nil)
end

/-! ### a[b] -/
def ixR {α : Type} (o : Option T) (M : Mem) : Res T := match o with
  | some t => .ok t M
  | none => .stuck
def oIx (a b : T) (M : Mem) : Res T := match a with
  | .tup ts => match b with
    | .int i => match atI ts i with
      | some t => .ok t M
      | none => .stuck
    | _ => .stuck
  | .lst ts => match b with
    | .int i => match atI ts i with
      | some t => .ok t M
      | none => .stuck
    | _ => .stuck
  | .str z => match b with
    | .int i => if z.length ≤ lim then match atI z.cps.toList i with
      | some c => .ok (.str ⟨#[c]⟩) M
      | none => .stuck
      else .stuck
    | _ => .stuck
  | .ref n => match M[n]? with
    | some (.lst ts) => match b with
      | .int i => match atI ts i with
        | some t => .ok t M
        | none => .stuck
      | _ => .stuck
    | some (.dk kvs) => match keyT b with
      | some k => match look kvs k with
        | some t => .ok t M
        | none => .stuck
      | none => .stuck
    | _ => .stuck
  | _ => .stuck
def fIx (f g : FE) : FE := fOp oIx f g
def rIxD : R2 := fun x y H Q => ∃ a v, x = .ref a ∧ DGet H a y (some v) ∧ Q v H
section
variable {K : PySem.W.Frag} {β : Bag} {H : Hp} {M : Mem}
theorem atI_rel {ts : List T} {vs : List V} {i : Int} {t : T} (r : RTs K β H ts vs) (h : atI ts i = some t) : ∃ v, atI vs i = some v ∧ RT K β H t v := by
  unfold atI at h ⊢
  rw [r.length]
  cases e : ixN ts.length i with
  | none => rw [e] at h; simp at h
  | some j =>
    rw [e] at h
    simp only [Option.bind_some] at h ⊢
    exact r.get h
end
section
variable {X : Cx} {W : WX} {pos : Pos} {a b : Expr} {fa fb : FE}
theorem ix_dict (hu : X.A.units + 1 < cLine) : IxR X rIxD := by
  intro value slice pins s σ H x y v u Q I rx ry h hs
  obtain ⟨p, z, rfl, g, q⟩ := h
  cases rx
  exact tail_any (dict_typeIs I g) PySem.F.slot_dict_getitem.lookup (d_getItem hu I g ry fun w' s' I' rw' => ⟨z, H, I', rw', q⟩) hs
theorem f_ix (hu : X.A.units + 1 < cLine) (ha : PE X a (tE X.K W fa)) (hb : PE X b (tE X.K W fb)) (hs : PlainIx b := by exact fun _ _ => rfl) : PE X (.Subscript a b pos) (tE X.K W (fIx fa fb)) := by
  refine peI (pe_ix (ix_list.or (ix_tup.or (ix_str.or (ix_dict hu)))) ha hb hs) fun σ H Q h => op_sound ?_ h
  intro W σ β M H x y a b Q rm ra rb h
  unfold oIx at h
  cases a with
  | tup ts =>
    simp only [RT] at ra
    obtain ⟨p, vs, rfl, h1, r1⟩ := ra
    cases b with
    | int i =>
      simp only [RT] at rb
      subst rb
      simp only at h
      split at h
      · rename_i t ht
        obtain ⟨v, h4, h5⟩ := atI_rel r1 ht
        refine .inr (.inl ⟨p, vs, i, v, rfl, rfl, ?_, h4, h β H _ .refl rm h5⟩)
        rcases h1 with ⟨_, z⟩ | z
        · exact .inl z
        · exact .inr z
      · exact h.elim
    | _ => exact h.elim
  | lst ts =>
    simp only [RT] at ra
    obtain ⟨p, vs, rfl, _, h1, r1⟩ := ra
    cases b with
    | int i =>
      simp only [RT] at rb
      subst rb
      simp only at h
      split at h
      · rename_i t ht
        obtain ⟨v, h4, h5⟩ := atI_rel r1 ht
        exact .inl ⟨p, vs, i, v, rfl, rfl, SqL.of h1, h4, h β H _ .refl rm h5⟩
      · exact h.elim
    | _ => exact h.elim
  | str z =>
    simp only [RT] at ra
    subst ra
    cases b with
    | int i =>
      simp only [RT] at rb
      subst rb
      simp only at h
      split at h
      · rename_i hl
        split at h
        · rename_i c hc
          exact .inr (.inr (.inl ⟨z, i, c, rfl, rfl, lim_ok hl, hc, h β H _ .refl rm (by simp only [RT])⟩))
        · exact h.elim
      · exact h.elim
    | _ => exact h.elim
  | ref n =>
    simp only [RT] at ra
    obtain ⟨p, rfl, hb⟩ := ra
    simp only at h
    split at h
    · rename_i ts hM
      obtain ⟨vs, h1, r1⟩ := rm.cell n p _ hb hM
      cases b with
      | int i =>
        simp only [RT] at rb
        subst rb
        simp only at h
        split at h
        · rename_i t ht
          obtain ⟨v, h4, h5⟩ := atI_rel r1 ht
          exact .inl ⟨p, vs, i, v, rfl, rfl, SqL.of h1, h4, h β H _ .refl rm h5⟩
        · exact h.elim
      | _ => exact h.elim
    · rename_i kvs hM
      obtain ⟨us, h1, h2, r1⟩ := rm.cell n p _ hb hM
      split at h
      · rename_i k hk
        split at h
        · rename_i t ht
          obtain ⟨v, h4, h5⟩ := (look_rel h2 r1).1 t ht
          refine .inr (.inr (.inr ⟨p, v, rfl, ?_, h β H _ .refl rm h5⟩))
          rw [key_rel hk rb, ← h4]
          exact DGet.k h1
        · exact h.elim
      · exact h.elim
    · exact h.elim
  | _ => exact h.elim
end

/-! ### a[lo:hi] -/
abbrev FO := Slots → Mem → Res (Option Int)
def tO (K : PySem.W.Frag) (W : WX) (f : FO) : TO := fun σ H Q => ∃ β s M, RS K β H s σ ∧ RM K β H M ∧ Sat K W σ (fun _ _ a b => a = b) β H (f s M) Q
def oNone : FO := fun _ M => .ok none M
def oSome (f : FE) : FO := fun s M => (f s M).bind fun t M1 => match t with
  | .int i => .ok (some i) M1
  | _ => .stuck
def cutL {α : Type} (xs : List α) (lo hi : Option Int) : List α := (xs.drop (HT.sIx xs.length 0 lo)).take (HT.sIx xs.length xs.length hi - HT.sIx xs.length 0 lo)
def oSl (a : T) (lo hi : Option Int) (M : Mem) : Res T := match a with
  | .tup ts => .ok (.tup (cutL ts lo hi)) M
  | a => match lstOf M a with
    | some ts => .ok (.lst (cutL ts lo hi)) M
    | none => .stuck
def fSl (f : FE) (l h : FO) : FE := fun s M => (f s M).bind fun a M1 => (l s M1).bind fun lo M2 => (h s M2).bind fun hi M3 => oSl a lo hi M3
/-- a[::-1] -/
def fRev (f : FE) : FE := fun s M => (f s M).bind fun a M1 => match a with
  | .tup ts => if ts.length ≤ lim then .ok (.tup ts.reverse) M1 else .stuck
  | a => match lstOf M1 a with
    | some ts => .ok (.lst ts.reverse) M1
    | none => .stuck
section
variable {X : Cx} {W : WX} {pos p2 : Pos} {e : Expr} {lo hi : Option Expr} {f : FE} {fl fh : FO}
theorem o_none : PO X none (tO X.K W oNone) := ⟨fun pins s σ H Q I h => po_none.run pins s σ H Q I (by
  obtain ⟨β, s, M, rs, rm, h⟩ := h
  exact h β H none .refl rm rfl)⟩
theorem o_some (he : PE X e (tE X.K W f)) : PO X (some e) (tO X.K W (oSome f)) := ⟨fun pins s σ H Q I h => (po_some he).run pins s σ H Q I (by
  obtain ⟨β, s, M, rs, rm, h⟩ := h
  refine ⟨β, s, M, rs, rm, Sat.bind h ?_⟩
  intro t M1 β1 H1 x e1 rm1 rx h1
  cases t with
  | int i =>
    simp only [RT] at rx
    exact ⟨i, rx, h1 β1 H1 _ .refl rm1 rfl⟩
  | _ => exact h1.elim)⟩
theorem cut_rel {K : PySem.W.Frag} {β : Bag} {H : Hp} {ts : List T} {vs : List V} (r : RTs K β H ts vs) (lo hi : Option Int) : RTs K β H (cutL ts lo hi) (cutV vs lo hi) := by
  unfold cutL cutV
  rw [r.length]
  exact (r.drop _).take _
theorem cut_all {ts : List T} {lo hi : Option Int} (h : HT.sIx ts.length 0 lo = 0 ∧ HT.sIx ts.length ts.length hi = ts.length) : cutL ts lo hi = ts := by
  unfold cutL
  rw [h.1, h.2]
  simp
theorem f_sl (he : PE X e (tE X.K W f)) (hl : PO X lo (tO X.K W fl)) (hh : PO X hi (tO X.K W fh)) : PE X (.Subscript e (.Slice lo hi none p2) pos) (tE X.K W (fSl f fl fh)) := by
  refine peI (pe_slice (sl_list.or sl_tupA) he hl hh) fun σ H Q ⟨β, s, M, rs, rm, h⟩ => ⟨β, s, M, rs, rm, Sat.bind h ?_⟩
  intro a M1 β1 H1 x e1 rm1 rx h1
  refine ⟨β1, s, M1, rs.mono e1, rm1, Sat.bind h1 ?_⟩
  rintro lo M2 β2 H2 lo' e2 rm2 rfl h2
  refine ⟨β2, s, M2, (rs.mono e1).mono e2, rm2, Sat.bind h2 ?_⟩
  rintro hi M3 β3 H3 hi' e3 rm3 rfl h3
  have rx := (rx.up e2).up e3
  unfold oSl at h3
  split at h3
  · rename_i ts
    simp only [RT] at rx
    obtain ⟨p, vs, rfl, hp, r1⟩ := rx
    refine .inr ⟨p, vs, rfl, ?_, fun hw => ?_, fun hw q hq => h3 β3 _ _ (.new rm3 hq) (rm3.new hq) (new_tup rm3 hq (cut_rel r1 lo hi))⟩
    · rcases hp with ⟨_, z⟩ | z
      · exact .inl z
      · exact .inr z
    · rw [r1.length] at hw
      rw [cut_all hw] at h3
      exact h3 β3 H3 _ .refl rm3 (by simp only [RT]; exact ⟨p, vs, rfl, hp, r1⟩)
  · split at h3
    · rename_i ts hts
      obtain ⟨p, vs, rfl, hp, r1⟩ := lst_at rm3 hts rx
      exact .inl ⟨p, vs, rfl, SqL.of hp, fun q hq => h3 β3 _ _ (.new rm3 hq) (rm3.new hq) (new_lst rm3 hq (cut_rel r1 lo hi))⟩
    · exact h3.elim
end
end Fl
set_option Elab.async false
set_option linter.all false
set_option maxRecDepth 100000
set_option maxHeartbeats 1000000
/-! Fl5: built-ins and methods. -/
namespace Fl
open PySem PySem.Spec PyProof.Rows L2

/-! ### built-ins -/
def CallF (X : Cx) (f : Value) (o : List T → Mem → Res T) : Prop := ∃ r : List V → Hp → VK → Prop, CallR X f r ∧
  ∀ (W : WX) (σ : L2.St) (β : Bag) (M : Mem) (H : Hp) (xs : List V) (ts : List T) (Q : VK), RM X.K β H M → RTs X.K β H ts xs → Sat X.K W σ (RT X.K) β H (o ts M) Q → r xs H Q
def fCB (o : List T → Mem → Res T) (g : FA) : FE := fun s M => (g s M).bind fun ts M1 => o ts M1
theorem crOr {X : Cx} {f : Value} {r r' : List V → Hp → VK → Prop} (h : CallR X f r) (h' : CallR X f r') : CallR X f (fun x H Q => r x H Q ∨ r' x H Q) := by
  intro pins s σ H x v Q I rx q
  rcases q with q | q
  · exact h pins s σ H x v Q I rx q
  · exact h' pins s σ H x v Q I rx q
section
variable {X : Cx} {W : WX} {x : Str} {p pos : Pos} {e : Expr} {es : List Expr} {g : FA} {id : String} {o : List T → Mem → Res T}
theorem cb_sound {r : List V → Hp → VK → Prop} (hk : ∀ (W : WX) (σ : L2.St) (β : Bag) (M : Mem) (H : Hp) (xs : List V) (ts : List T) (Q : VK), RM X.K β H M → RTs X.K β H ts xs → Sat X.K W σ (RT X.K) β H (o ts M) Q → r xs H Q)
    {σ : L2.St} {H : Hp} {Q : VK} (h : tE X.K W (fCB o g) σ H Q) : tCB r (tA X.K W g) σ H Q := by
  obtain ⟨β, s, M, rs, rm, h⟩ := h
  exact ⟨β, s, M, rs, rm, Sat.bind h fun ts M1 β1 H1 xs e1 rm1 rx h1 => hk W σ β1 M1 H1 xs ts Q rm1 rx h1⟩
/-- f(e, ..), f a built-in function -/
theorem f_cb (ho : CallF X (.builtin id) o) (hg : Gl X x) (hm : X.mg x = none) (hv : bootBuiltins x = some (.builtin id)) (ha : PA X (e :: es) (tA X.K W g)) (hn : x ≠ "__name__" := by decide) (hdb : (x == ("__debug__" : Str)) = false := by decide)
    (he : starEach (e :: es) X.env = (false, eval e X.env) :: starEach es X.env := by rfl) (hpl : (backTo pos (starEach es X.env)).any (·.1) = false := by rfl) : PE X (.Call (.Name x p) (e :: es) [] pos) (tE X.K W (fCB o g)) := by
  obtain ⟨r, hr, hk⟩ := ho
  exact peI (pe_callB hr hg hm hv ha hn hdb he hpl) fun σ H Q h => cb_sound hk h
/-- T(e, ..), T a built-in type -/
theorem f_ct (ho : CallF X (.type id) o) (hg : Gl X x) (hm : X.mg x = none) (hv : bootBuiltins x = some (.type id)) (ha : PA X (e :: es) (tA X.K W g)) (hn : x ≠ "__name__" := by decide) (hdb : (x == ("__debug__" : Str)) = false := by decide)
    (he : starEach (e :: es) X.env = (false, eval e X.env) :: starEach es X.env := by rfl) (hpl : (backTo pos (starEach es X.env)).any (·.1) = false := by rfl) : PE X (.Call (.Name x p) (e :: es) [] pos) (tE X.K W (fCB o g)) := by
  obtain ⟨r, hr, hk⟩ := ho
  exact peI (pe_callTy hr hg hm hv ha hn hdb he hpl) fun σ H Q h => cb_sound hk h
end
def o1 (o : T → Mem → Res T) : List T → Mem → Res T
  | [t], M => o t M
  | _, _ => .stuck
section
variable {K : PySem.W.Frag} {β : Bag} {H : Hp} {M : Mem} {W : WX} {σ : L2.St}
theorem o1_sound {o : T → Mem → Res T} {ts : List T} {xs : List V} {Q : VK} {P : Prop} (r : RTs K β H ts xs) (h : Sat K W σ (RT K) β H (o1 o ts M) Q)
    (k : ∀ t x, xs = [x] → RT K β H t x → Sat K W σ (RT K) β H (o t M) Q → P) : P := by
  unfold o1 at h
  split at h
  · rename_i t
    obtain ⟨v, q, rfl, h2, h3⟩ := r.uncons
    have e := h3.nil_of
    subst e
    exact k _ v rfl h2 h
  · exact h.elim
end
def dkOf (M : Mem) : T → Option (List (Key × T))
  | .ref n => match M[n]? with
    | some (.dk us) => some us
    | _ => none
  | _ => none
theorem dk_at {K : PySem.W.Frag} {β : Bag} {H : Hp} {M : Mem} {v : V} {t : T} {kvs : List (Key × T)} (rm : RM K β H M) (h : dkOf M t = some kvs) (r : RT K β H t v) :
    ∃ n a us, t = .ref n ∧ β.hs[n]? = some a ∧ M[n]? = some (.dk kvs) ∧ v = .ref a ∧ H a = some (.dK us) ∧ us.map (·.1) = kvs.map (·.1) ∧ RTs K β H (kvs.map (·.2)) (us.map (·.2)) := by
  cases t with
  | ref n =>
    simp only [dkOf] at h
    simp only [RT] at r
    obtain ⟨a, e, hb⟩ := r
    split at h
    · rename_i ts hM
      cases h
      obtain ⟨us, h1, h2, h3⟩ := rm.cell n a _ hb hM
      exact ⟨n, a, us, rfl, hb, hM, e, h1, h2, h3⟩
    · cases h
  | _ => simp [dkOf] at h
theorem items_ref (M : Mem) (n : Nat) : items M (.ref n) = lstOf M (.ref n) := by
  first
    | rfl
    | (simp only [items, lstOf]; done)
    | (simp only [items, lstOf]; cases M[n]? <;> first | rfl | (rename_i c; cases c <;> rfl))
def oLen : List T → Mem → Res T := o1 fun t M => match t with
  | .str x => if x.length ≤ lim then .ok (.int x.length) M else .stuck
  | .iset ns => if ns.length ≤ lim then .ok (.int ns.length) M else .stuck
  | t => match items M t with
    | some us => .ok (.int us.length) M
    | none => match dkOf M t with
      | some kvs => .ok (.int kvs.length) M
      | none => .stuck
def rLenSet : List V → Hp → VK → Prop := fun xs H Q => ∃ a S n, xs = [V.ref a] ∧ H a = some (.set S n) ∧ n ≤ lim ∧ Q (.int n) H
section
variable {X : Cx}
theorem call_lenSet : CallR X (.builtin "len") rLenSet := by
  intro pins s σ H xs us Q I r h
  obtain ⟨a, S, n, rfl, ha, hn, q⟩ := h
  rw [Vals.ref1 r]
  obtain ⟨o, es, ep, t, e, ex, d, _, _, _, hf, hs⟩ := I.hok a _ ha
  have hl : es.size ≤ 1000000 := by rw [hs]; exact hn
  refine call_len_set e ex d hf (by omega) ?_
  rw [hs]
  exact ⟨.int n, H, (I.tok _).tok _, ⟨_, rfl⟩, q⟩
theorem c_len : CallF X (.builtin "len") oLen := by
  refine ⟨_, crOr call_len (crOr call_lenD call_lenSet), fun W σ β M H xs ts Q rm rx h => o1_sound rx h fun t x ex r h => ?_⟩
  subst ex
  split at h
  · split at h
    · rename_i y hl
      simp only [RT] at r
      subst r
      exact .inl ⟨_, _, rfl, ⟨lim_ok hl, rfl⟩, h β H _ .refl rm (by simp only [RT])⟩
    · exact h.elim
  · split at h
    · rename_i ns hl
      simp only [RT] at r
      obtain ⟨a, rfl, _, r⟩ := r
      exact .inr (.inr ⟨a, _, _, rfl, r, hl, h β H _ .refl rm (by simp only [RT])⟩)
    · exact h.elim
  · split at h
    · rename_i us hus
      obtain ⟨a, vs, rfl, hq, rv⟩ := items_at rm hus r
      refine .inl ⟨_, us.length, rfl, ?_, h β H _ .refl rm (by simp only [RT])⟩
      rcases hq with hq | hq
      · exact .inr ⟨vs, hq, rv.length.symm⟩
      · exact .inl ⟨vs, hq, rv.length.symm⟩
    · split at h
      · rename_i kvs hM
        obtain ⟨n, a, us, rfl, hb, _, rfl, h1, h2, r1⟩ := dk_at rm hM r
        refine .inr (.inl ⟨a, us, rfl, h1, ?_⟩)
        have e : us.length = kvs.length := by simpa using congrArg List.length h2
        rw [e]
        exact h β H _ .refl rm (by simp only [RT])
      · exact h.elim
end
def oInt : List T → Mem → Res T := o1 fun t M => match t with
  | .int i => .ok (.int i) M
  | .bl b => .ok (.int (if b then 1 else 0)) M
  | _ => .stuck
def oAbs : List T → Mem → Res T := o1 fun t M => match t with
  | .int i => .ok (.int (if i < 0 then -i else i)) M
  | _ => .stuck
def rangeT (lo : Int) (n : Nat) : List T := (List.range n).map fun (k : Nat) => T.int (lo + (k : Int))
def rangeV (lo : Int) (n : Nat) : List V := (List.range n).map fun (k : Nat) => V.int (lo + (k : Int))
theorem range_rel {K : PySem.W.Frag} {β : Bag} {H : Hp} {lo : Int} {n : Nat} : RTs K β H (rangeT lo n) (rangeV lo n) := by
  have : ∀ l : List Nat, RTs K β H (l.map fun (k : Nat) => T.int (lo + (k : Int))) (l.map fun (k : Nat) => V.int (lo + (k : Int))) := fun l => by
    induction l with
    | nil => exact .nil
    | cons k l ih => exact .cons (by simp only [RT]) ih
  exact this _
def spanOk (lo hi : Int) : Bool := decide (lo.natAbs < 4611686018427387904) && decide (hi.natAbs < 4611686018427387904)
/-- what list(..) and tuple(..) take -/
def seqs (M : Mem) : T → Option (List T)
  | .rng lo hi => if spanOk lo hi = true ∧ (hi - lo).toNat ≤ lim then some (rangeT lo (hi - lo).toNat) else none
  | t => items M t
def oList : List T → Mem → Res T := o1 fun t M => match seqs M t with
  | some us => .ok (.lst us) M
  | none => .stuck
def oListN : List T → Mem → Res T := o1 fun t M => match seqs M t with
  | some us => .ok (.ref M.length) (M ++ [.lst us])
  | none => .stuck
def oRange : List T → Mem → Res T
  | [.int j], M => .ok (.rng 0 j) M
  | [.int i, .int j], M => .ok (.rng i j) M
  | _, _ => .stuck
def oTuple : List T → Mem → Res T := o1 fun t M => match items M t with
  | some us => .ok (.tup us) M
  | none => .stuck
def bools : List T → Option (List Bool)
  | [] => some []
  | .bl b :: ts => (bools ts).map (b :: ·)
  | _ => none
def oAll : List T → Mem → Res T := o1 fun t M => match lstOf M t with
  | some us => match bools us with
    | some bs => .ok (.bl (bs.all id)) M
    | none => .stuck
  | none => .stuck
def oAny : List T → Mem → Res T := o1 fun t M => match lstOf M t with
  | some us => match bools us with
    | some bs => .ok (.bl (bs.any id)) M
    | none => .stuck
  | none => .stuck
section
variable {X : Cx}
theorem c_int : CallF X (.type "int") oInt := by
  refine ⟨_, call_int1, fun W σ β M H xs ts Q rm rx h => o1_sound rx h fun t x ex r h => ?_⟩
  subst ex
  split at h
  · simp only [RT] at r
    subst r
    exact .inl ⟨_, rfl, h β H _ .refl rm (by simp only [RT])⟩
  · simp only [RT] at r
    subst r
    exact .inr ⟨_, rfl, h β H _ .refl rm (by simp only [RT])⟩
  · exact h.elim
theorem c_abs : CallF X (.builtin "abs") oAbs := by
  refine ⟨_, call_abs, fun W σ β M H xs ts Q rm rx h => o1_sound rx h fun t x ex r h => ?_⟩
  subst ex
  split at h
  · simp only [RT] at r
    subst r
    exact ⟨_, rfl, h β H _ .refl rm (by simp only [RT])⟩
  · exact h.elim
theorem small1 {lo hi : Int} (h : spanOk lo hi = true) : Builtin.Range.small lo hi 1 = true ∧ Builtin.Range.rangeSize lo hi 1 = ((hi - lo).toNat : Nat) := by
  simp only [spanOk, Bool.and_eq_true, decide_eq_true_eq] at h
  have h : ((-(2 ^ 62) ≤ lo ∧ lo < 2 ^ 62) ∧ -(2 ^ 62) ≤ hi) ∧ hi < 2 ^ 62 := by omega
  obtain ⟨⟨⟨h1, h2⟩, h3⟩, h4⟩ := h
  refine ⟨small_one h1 h2 h3 h4, ?_⟩
  rw [rangeSize_one]
  split <;> omega
theorem itemsOf_vals {lo : Int} : ∀ {n : Nat} {its : List Value}, its.length = n → (∀ k v, its[k]? = some v → ∃ t, v = Value.int (lo + (k : Nat) * 1) t) → Vals (rangeV lo n) its := by
  intro n its hl h
  have key : ∀ (m k : Nat) (r : List Value), r.length = m → (∀ j v, r[j]? = some v → ∃ t, v = Value.int (lo + ((k + j : Nat) : Int)) t) → Vals ((List.range' k m).map fun (j : Nat) => V.int (lo + (j : Int))) r := by
    intro m
    induction m with
    | zero =>
      intro k r hr _
      have : r = [] := List.eq_nil_of_length_eq_zero hr
      subst this
      exact .nil
    | succ m ih =>
      intro k r hr hj
      cases r with
      | nil => simp at hr
      | cons v r =>
        rw [List.range'_succ, List.map_cons]
        refine .cons ?_ (ih (k + 1) r (by simpa using hr) fun j u e => ?_)
        · obtain ⟨t, e⟩ := hj 0 v rfl
          exact ⟨t, by rw [e]; simp⟩
        · obtain ⟨t, e'⟩ := hj (j + 1) u (by simpa using e)
          refine ⟨t, ?_⟩
          rw [e']
          congr 2
          omega
  have := key n 0 its hl fun j v e => by
    obtain ⟨t, e'⟩ := h j v e
    exact ⟨t, by rw [e']; simp⟩
  unfold rangeV
  rw [List.range_eq_range']
  exact this
def rListR : List V → Hp → VK → Prop := fun xs H Q => ∃ a lo hi, xs = [V.ref a] ∧ H a = some (.rng lo hi) ∧ spanOk lo hi = true ∧ (hi - lo).toNat ≤ lim ∧ ∀ l, H l = none → Q (.ref l) (upd H l (.lst (rangeV lo (hi - lo).toNat)))
theorem call_listR (hc : X.calm = true) : CallR X (.type "list") rListR := by
  intro pins s σ H xs us Q I r h
  obtain ⟨a, lo, hi, rfl, ha, hs, hl, q⟩ := h
  rw [Vals.ref1 r]
  obtain ⟨t, u, v, e⟩ := (show ∃ t u v, s.heap.get? a = some { cls := .type "range", data := .fields #[.int lo t, .int hi u, .int 1 v] } from I.hok a _ ha)
  obtain ⟨s1, s2⟩ := small1 hs
  refine call_list_range (I.ok.hd hc) e s1 s2 (by unfold lim at hl; omega) fun h' tk acc' c' hk hS hacc => ?_
  have hnew : H s.heap.objs.size = none := I.hok.fresh (Nat.le_refl _)
  refine ⟨.ref s.heap.objs.size, _, I.laid (t' := tk) (o := .lst (rangeV lo (hi - lo).toNat)) hk (Nat.le_refl _) ⟨?_, acc'.toList, c', ?_, hS⟩, rfl, q _ hnew⟩
  · simp only [rangeV, List.length_map, List.length_range]
    exact lim_ok hl
  · exact itemsOf_vals (by simpa using hacc.1) fun k v e => hacc.2 k v (by simpa using e)
theorem call_range_one : CallR X (.type "range") (fun vs H Q => ∃ j, vs = [V.int j] ∧ ∀ p, H p = none → Q (.ref p) (upd H p (.rng 0 j))) := by
  intro pins s σ H vs us Q I r h
  obtain ⟨j, rfl, q⟩ := h
  obtain ⟨u, rfl, t, rfl⟩ := vals1 r
  have hnew : H s.heap.objs.size = none := I.hok.fresh (Nat.le_refl _)
  refine call_range_1 ⟨.ref s.heap.objs.size, _, I.laid (o := .rng 0 j) (fun b o e => Heap.get?_push_of_some _ e) (Nat.le_refl _) ?_, rfl, q _ hnew⟩
  exact ⟨_, t, _, Heap.get?_push_size _ rfl⟩
theorem c_range : CallF X (.type "range") oRange := by
  refine ⟨_, crOr call_range_one cr_range2, fun W σ β M H xs ts Q rm rx h => ?_⟩
  unfold oRange at h
  split at h
  · obtain ⟨v, q, rfl, h2, h3⟩ := rx.uncons
    have e := h3.nil_of
    subst e
    simp only [RT] at h2
    subst h2
    exact .inl ⟨_, rfl, fun p hp => h β _ _ (.new rm hp) (rm.new hp) (by simp only [RT]; exact ⟨p, rfl, rm.fresh hp, upd_same⟩)⟩
  · obtain ⟨v, q, rfl, h2, h3⟩ := rx.uncons
    obtain ⟨v', q', rfl, h4, h5⟩ := h3.uncons
    have e := h5.nil_of
    subst e
    simp only [RT] at h2 h4
    subst h2 h4
    exact .inr ⟨_, _, rfl, fun p hp => h β _ _ (.new rm hp) (rm.new hp) (by simp only [RT]; exact ⟨p, rfl, rm.fresh hp, upd_same⟩)⟩
  · exact h.elim
theorem seqs_at {K : PySem.W.Frag} {β : Bag} {H : Hp} {M : Mem} {v : V} {t : T} {us : List T} (rm : RM K β H M) (h : seqs M t = some us) (r : RT K β H t v) :
    (∃ a vs, v = .ref a ∧ (SqL K H a vs ∨ SqT K H a vs) ∧ RTs K β H us vs) ∨ ∃ a lo hi, v = .ref a ∧ H a = some (.rng lo hi) ∧ spanOk lo hi = true ∧ (hi - lo).toNat ≤ lim ∧ us = rangeT lo (hi - lo).toNat := by
  unfold seqs at h
  split at h
  · split at h
    · rename_i hh
      cases h
      simp only [RT] at r
      obtain ⟨a, rfl, _, e⟩ := r
      exact .inr ⟨a, _, _, rfl, e, hh.1, hh.2, rfl⟩
    · cases h
  · obtain ⟨a, vs, e, hq, rv⟩ := items_at rm h r
    exact .inl ⟨a, vs, e, hq.symm, rv⟩
theorem c_list (hc : X.calm = true) : CallF X (.type "list") oList := by
  refine ⟨_, crOr call_list_of (call_listR hc), fun W σ β M H xs ts Q rm rx h => o1_sound rx h fun t x ex r h => ?_⟩
  subst ex
  split at h
  · rename_i us hus
    rcases seqs_at rm hus r with ⟨a, vs, rfl, hq, rv⟩ | ⟨a, lo, hi, rfl, e, h1, h2, rfl⟩
    · exact .inl ⟨a, vs, rfl, hq, fun l hl => h β _ _ (.new rm hl) (rm.new hl) (new_lst rm hl rv)⟩
    · exact .inr ⟨a, lo, hi, rfl, e, h1, h2, fun l hl => h β _ _ (.new rm hl) (rm.new hl) (new_lst rm hl range_rel)⟩
  · exact h.elim
theorem c_listN (hc : X.calm = true) : CallF X (.type "list") oListN := by
  refine ⟨_, crOr call_list_of (call_listR hc), fun W σ β M H xs ts Q rm rx h => o1_sound rx h fun t x ex r h => ?_⟩
  subst ex
  split at h
  · rename_i us hus
    rcases seqs_at rm hus r with ⟨a, vs, rfl, hq, rv⟩ | ⟨a, lo, hi, rfl, e, h1, h2, rfl⟩
    · refine .inl ⟨a, vs, rfl, hq, fun l hl => ?_⟩
      obtain ⟨n1, n2⟩ := new_cell rm hl rv
      exact h _ _ _ (.cell rm hl) n1 n2
    · refine .inr ⟨a, lo, hi, rfl, e, h1, h2, fun l hl => ?_⟩
      obtain ⟨n1, n2⟩ := new_cell rm hl range_rel
      exact h _ _ _ (.cell rm hl) n1 n2
  · exact h.elim
theorem c_tuple : CallF X (.type "tuple") oTuple := by
  refine ⟨_, call_tuple_of, fun W σ β M H xs ts Q rm rx h => o1_sound rx h fun t x ex r h => ?_⟩
  subst ex
  split at h
  · rename_i us hus
    cases t with
    | tup ts =>
      simp only [items, Option.some.injEq] at hus
      subst hus
      have r' := r
      simp only [RT] at r
      obtain ⟨a, vs, rfl, hq, rv⟩ := r
      refine ⟨a, vs, rfl, .inr ⟨?_, h β H _ .refl rm r'⟩⟩
      rcases hq with ⟨_, z⟩ | z
      · exact .inl z
      · exact .inr z
    | lst ts =>
      simp only [items, Option.some.injEq] at hus
      subst hus
      simp only [RT] at r
      obtain ⟨a, vs, rfl, _, hq, rv⟩ := r
      exact ⟨a, vs, rfl, .inl ⟨SqL.of hq, fun l hl => h β _ _ (.new rm hl) (rm.new hl) (new_tup rm hl rv)⟩⟩
    | ref n =>
      obtain ⟨a, vs, rfl, hq, rv⟩ := lst_at (t := .ref n) rm (by rw [← items_ref]; exact hus) r
      exact ⟨a, vs, rfl, .inl ⟨SqL.of hq, fun l hl => h β _ _ (.new rm hl) (rm.new hl) (new_tup rm hl rv)⟩⟩
    | _ => simp [items] at hus
  · exact h.elim
theorem bools_rel {K : PySem.W.Frag} {β : Bag} {H : Hp} : ∀ {us : List T} {vs : List V} {bs : List Bool}, RTs K β H us vs → bools us = some bs → vs = bs.map V.bl
  | [], vs, bs, r, h => by
    simp only [bools, Option.some.injEq] at h
    subst h
    exact r.nil_of
  | t :: us, vs, bs, r, h => by
    cases t with
    | bl b =>
      simp only [bools] at h
      cases e : bools us with
      | none => rw [e] at h; simp at h
      | some cs =>
        rw [e] at h
        simp at h
        subst h
        obtain ⟨v, q, rfl, h2, h3⟩ := r.uncons
        simp only [RT] at h2
        rw [bools_rel h3 e, h2]
        rfl
    | _ => simp [bools] at h
theorem c_all (hc : X.calm = true) : CallF X (.builtin "all") oAll := by
  refine ⟨_, cr_all hc, fun W σ β M H xs ts Q rm rx h => o1_sound rx h fun t x ex r h => ?_⟩
  subst ex
  split at h
  · rename_i us hus
    split at h
    · rename_i bs hbs
      obtain ⟨a, vs, rfl, hq, rv⟩ := lst_at rm hus r
      refine ⟨a, bs, rfl, ?_, h β H _ .refl rm (by simp only [RT])⟩
      rw [← bools_rel rv hbs]
      exact SqL.of hq
    · exact h.elim
  · exact h.elim
theorem c_any (hc : X.calm = true) : CallF X (.builtin "any") oAny := by
  refine ⟨_, cr_any hc, fun W σ β M H xs ts Q rm rx h => o1_sound rx h fun t x ex r h => ?_⟩
  subst ex
  split at h
  · rename_i us hus
    split at h
    · rename_i bs hbs
      obtain ⟨a, vs, rfl, hq, rv⟩ := lst_at rm hus r
      refine ⟨a, bs, rfl, ?_, h β H _ .refl rm (by simp only [RT])⟩
      rw [← bools_rel rv hbs]
      exact SqL.of hq
    · exact h.elim
  · exact h.elim
end

/-! ### isinstance -/
def tyName (M : Mem) : T → Option String
  | .non => some "NoneType"
  | .bl _ => some "bool"
  | .int _ => some "int"
  | .str _ => some "str"
  | .tup _ => some "tuple"
  | .lst _ => some "list"
  | .scr _ => some "list"
  | .iset _ => some "set"
  | .rng _ _ => none
  | .ref n => match M[n]? with
    | some (.lst _) => some "list"
    | some (.dk _) => some "dict"
    | _ => none
  | .adr _ => none
  | .ty _ => none
def isiB (a b : String) : Bool := decide (a = b) || (decide (a = "bool") && decide (b = "int"))
def isiNames : List String := ["bool", "int", "str", "tuple", "list", "dict"]
def oIsi : List T → Mem → Res T
  | [x, .ty n], M => match tyName M x with
    | some a => if n ∈ isiNames then .ok (.bl (isiB a n)) M else .stuck
    | none => .stuck
  | _, _ => .stuck
theorem kit_all : ∀ a ∈ ["NoneType", "bool", "int", "str", "tuple", "list", "set", "dict"], ∀ b ∈ isiNames, kitB a b = some (isiB a b) := by decide +kernel
section
variable {K : PySem.W.Frag} {β : Bag} {H : Hp} {M : Mem}
theorem ty_of {t : T} {v : V} {a : String} (rm : RM K β H M) (r : RT K β H t v) (h : tyName M t = some a) : TyX K H v (.type a) ∧ a ∈ ["NoneType", "bool", "int", "str", "tuple", "list", "set", "dict"] := by
  cases t with
  | non => simp only [RT] at r; cases h; subst r; exact ⟨.base .non, by decide⟩
  | bl b => simp only [RT] at r; cases h; subst r; exact ⟨.base (.bl b), by decide⟩
  | int b => simp only [RT] at r; cases h; subst r; exact ⟨.base (.int b), by decide⟩
  | str b => simp only [RT] at r; cases h; subst r; exact ⟨.base (.str b), by decide⟩
  | tup ts =>
    simp only [RT] at r
    cases h
    obtain ⟨p, vs, rfl, hq, _⟩ := r
    refine ⟨?_, by decide⟩
    rcases hq with ⟨_, z | ⟨o, z⟩⟩ | ⟨o, its, n, z, hc, _⟩
    · exact .base (.tup z)
    · exact .fTuple z
    · exact .kTuple z hc
  | lst ts =>
    simp only [RT] at r
    cases h
    obtain ⟨p, vs, rfl, _, hq, _⟩ := r
    exact ⟨.base (.lst hq), by decide⟩
  | scr ts =>
    simp only [RT] at r
    cases h
    obtain ⟨p, vs, rfl, hq, _⟩ := r
    refine ⟨?_, by decide⟩
    rcases hq with ⟨_, z | ⟨o, z⟩⟩ | ⟨o, its, n, z, hc, _⟩
    · exact .base (.lst z)
    · exact .base (.frz z)
    · exact .kList z hc
  | iset ns =>
    simp only [RT] at r
    cases h
    obtain ⟨p, rfl, _, hq⟩ := r
    exact ⟨.set hq, by decide⟩
  | ref n =>
    simp only [RT] at r
    obtain ⟨p, rfl, hb⟩ := r
    simp only [tyName] at h
    split at h
    · rename_i ts hM
      cases h
      obtain ⟨vs, h1, _⟩ := rm.cell n p _ hb hM
      exact ⟨.base (.lst h1), by decide⟩
    · rename_i ts hM
      cases h
      obtain ⟨vs, h1, _⟩ := rm.cell n p _ hb hM
      exact ⟨.base (.dK h1), by decide⟩
    · cases h
  | rng a b => simp [tyName] at h
  | adr a => simp [tyName] at h
  | ty a => simp [tyName] at h
theorem c_isi {X : Cx} : CallF X (.builtin "isinstance") oIsi := by
  refine ⟨_, call_isi, fun W σ β M H xs ts Q rm rx h => ?_⟩
  unfold oIsi at h
  split at h
  · rename_i x n
    obtain ⟨v, q, rfl, h2, h3⟩ := rx.uncons
    obtain ⟨c, q', rfl, h4, h5⟩ := h3.uncons
    rw [h5.nil_of]
    simp only [RT] at h4
    subst h4
    split at h
    · rename_i a ha
      split at h
      · rename_i hn
        obtain ⟨t1, t2⟩ := ty_of rm h2 ha
        exact ⟨v, .ty n, .type a, .type n, isiB a n, rfl, .ty n, t1, kit_ty (kit_all a t2 n hn), h β H _ .refl rm (by simp only [RT])⟩
      · exact h.elim
    · exact h.elim
  · exact h.elim
end

end Fl
set_option Elab.async false
set_option linter.all false
set_option maxRecDepth 100000
set_option maxHeartbeats 1000000
/-! Fl6: repr, sets of ints, list(range), methods, what is walked. -/
namespace Fl
open PySem PySem.Spec PyProof.Rows L2

/-! ### repr -/
def oRepr : List T → Mem → Res T := o1 fun t M => if t.data.canLay0 = true ∧ t.data.showable = true ∧ t.data.depth ≤ 64 ∧ t.data.shown.length ≤ lim then .ok (.str t.data.shown) M else .stuck
def rRepr (K : PySem.W.Frag) : List V → Hp → VK → Prop := fun xs H Q => ∃ x d, xs = [x] ∧ Dp K H x d ∧ d.canLay0 = true ∧ d.showable = true ∧ d.depth ≤ 64 ∧ d.shown.length ≤ lim ∧ Q (.str d.shown) H
section
variable {X : Cx}
theorem call_repr (hg : X.A.guards = some []) (hu : X.A.units + 66 < cLine) : CallR X (.builtin "repr") (rRepr X.K) := by
  intro pins s σ H xs us Q I r h
  obtain ⟨x, d, rfl, hd, hc, hs, hp, hz, q⟩ := h
  obtain ⟨u, rfl, rx⟩ := vals1 r
  have fin : ∀ t s', Inv X pins σ H s' → EP X pins σ Q (.str d.shown t) s' := fun t s' I' => ⟨.str d.shown, H, I', ⟨_, rfl⟩, q⟩
  obtain ⟨as, rd⟩ := Dp.reads I d x u hd rx
  have big : ∀ a, u = .ref a → wpAny (model X.prog X.w) X.A (call (.builtin "repr") [u]) (EP X pins σ Q) X.xe s := fun a e => by
    subst e
    exact repr_of_reads' rd hs (fun z => by rw [PyData.hasDict_of_canLay d hc] at z; cases z) hg (by omega) (fun _ _ e => e) (fun h' u tk k => fin u _ (I.kept k)) (lim_ok hz)
  cases hd with
  | non => cases rx; exact PySem.P.repr_of_none (by simpa only [PyData.shown] using fin s.toks _ (I.tok _))
  | bl b => cases rx; exact PySem.P.repr_of_bool (by simpa only [PyData.shown] using fin s.toks _ (I.tok _))
  | int i =>
    obtain ⟨t, rfl⟩ := rx
    exact PySem.P.repr_of_int (by simpa [PyData.showable] using hs) (by simpa only [PyData.shown] using fin s.toks _ (I.tok _))
  | str y =>
    obtain ⟨t, rfl⟩ := rx
    exact PySem.P.repr_of_str (by simpa only [PyData.shown] using fin s.toks _ (I.tok _)) (by have := lim_ok hz; simpa only [PyData.shown] using this)
  | lst _ _ => exact big _ rx
  | tup _ _ => exact big _ rx
theorem c_repr (hg : X.A.guards = some []) (hu : X.A.units + 66 < cLine) : CallF X (.builtin "repr") oRepr := by
  refine ⟨_, call_repr hg hu, fun W σ β M H xs ts Q rm rx h => o1_sound rx h fun t x ex r h => ?_⟩
  subst ex
  split at h
  · rename_i hh
    exact ⟨x, t.data, rfl, RT.dp t x r hh.1, hh.1, hh.2.1, hh.2.2.1, hh.2.2.2, h β H _ .refl rm (by simp only [RT])⟩
  · exact h.elim
end

/-! ### set(xs) of ints -/
def intsOf : List T → Option (List Int)
  | [] => some []
  | .int b :: ts => (intsOf ts).map (b :: ·)
  | _ => none
def uniqI (ns : List Int) : List Int := firstMet (fun i => ns.getD i 0) ns.length
def oSetI : List T → Mem → Res T := o1 fun t M => match lstOf M t with
  | some us => match intsOf us with
    | some ns => if ns.length ≤ 1000 then .ok (.iset (uniqI ns)) M else .stuck
    | none => .stuck
  | none => .stuck
def rSetI (K : PySem.W.Frag) : List V → Hp → VK → Prop := fun xs H Q => ∃ a ns, xs = [V.ref a] ∧ SqL K H a (ns.map V.int) ∧ ns.length ≤ 1000 ∧ ∀ p, H p = none → Q (.ref p) (upd H p (.set (fun k => (uniqI ns).any (· == k)) (uniqI ns).length))
section
variable {X : Cx}
theorem call_setI (hc : X.calm = true) : CallR X (.type "set") (rSetI X.K) := by
  intro pins s σ H xs us Q I r h
  obtain ⟨a, ns, rfl, hl, hn, q⟩ := h
  rw [Vals.ref1 r]
  obtain ⟨its, rv, pl, hz⟩ := I.list hl
  have hlen : its.length = ns.length := by have := rv.length; simpa using this.symm
  have hs : its.toArray.size = ns.length := by simpa using hlen
  refine call_set_list (prog := X.prog) (w := X.w) (ns := ns) (I.ok.hd hc) pl.isList (by simpa using Vals.ints rv) (by rw [hs]; unfold scanBound; omega) fun h' tk hS hk => ?_
  rw [hs] at hS
  have hnew : H s.heap.objs.size = none := I.hok.fresh (Nat.le_refl _)
  exact ⟨.ref s.heap.objs.size, _, I.laid (t' := tk) (o := .set (fun k => (uniqI ns).any (· == k)) (uniqI ns).length) (fun b o e => hk b o (Heap.lt_size e) e) (Nat.le_refl _) hS, rfl, q _ hnew⟩
theorem ints_rel {K : PySem.W.Frag} {β : Bag} {H : Hp} : ∀ {us : List T} {vs : List V} {ns : List Int}, RTs K β H us vs → intsOf us = some ns → vs = ns.map V.int
  | [], vs, ns, r, h => by
    simp only [intsOf, Option.some.injEq] at h
    subst h
    exact r.nil_of
  | t :: us, vs, ns, r, h => by
    cases t with
    | int b =>
      simp only [intsOf] at h
      cases e : intsOf us with
      | none => rw [e] at h; simp at h
      | some cs =>
        rw [e] at h
        simp at h
        subst h
        obtain ⟨v, q, rfl, h2, h3⟩ := r.uncons
        simp only [RT] at h2
        rw [ints_rel h3 e, h2]
        rfl
    | _ => simp [intsOf] at h
theorem c_setI (hc : X.calm = true) : CallF X (.type "set") oSetI := by
  refine ⟨_, call_setI hc, fun W σ β M H xs ts Q rm rx h => o1_sound rx h fun t x ex r h => ?_⟩
  subst ex
  split at h
  · rename_i us hus
    split at h
    · rename_i ns hns
      split at h
      · rename_i hl
        obtain ⟨a, vs, rfl, hq, rv⟩ := lst_at rm hus r
        refine ⟨a, ns, rfl, ?_, hl, fun p hp => h β _ _ (.new rm hp) (rm.new hp) ?_⟩
        · rw [← ints_rel rv hns]
          exact SqL.of hq
        · simp only [RT]
          exact ⟨p, rfl, rm.fresh hp, upd_same⟩
      · exact h.elim
    · exact h.elim
  · exact h.elim
end

end Fl
set_option Elab.async false
set_option linter.all false
set_option maxRecDepth 100000
set_option maxHeartbeats 1000000
/-! Fl7: methods, what is walked, list comprehensions. -/
namespace Fl
open PySem PySem.Spec PyProof.Rows L2

/-! ### methods -/
def MtF (X : Cx) (id : String) (o : T → List T → Mem → Res T) : Prop := ∃ r : V → List V → Hp → VK → Prop, MtR X id r ∧
  ∀ (W : WX) (σ : L2.St) (β : Bag) (M : Mem) (H : Hp) (x : V) (xs : List V) (a : T) (ts : List T) (Q : VK), RM X.K β H M → RT X.K β H a x → RTs X.K β H ts xs → Sat X.K W σ (RT X.K) β H (o a ts M) Q → r x xs H Q
def tyOk (Ty : String) (M : Mem) : T → Bool
  | .str _ => decide (Ty = "str")
  | .lst _ => decide (Ty = "list")
  | .ref n => match M[n]? with
    | some (.lst _) => decide (Ty = "list")
    | some (.dk _) => decide (Ty = "dict")
    | _ => false
  | _ => false
def fMt (Ty : String) (o : T → List T → Mem → Res T) (f : FE) (g : FA) : FE := fun s M => (f s M).bind fun a M1 => if tyOk Ty M1 a = true then (g s M1).bind fun ts M2 => o a ts M2 else .stuck
section
variable {K : PySem.W.Frag} {β : Bag} {H : Hp} {M : Mem}
theorem ty_ok {Ty : String} {t : T} {v : V} (rm : RM K β H M) (r : RT K β H t v) (h : tyOk Ty M t = true) : tyV K Ty v H := by
  cases t with
  | str x =>
    simp only [RT] at r; subst r
    simpa [tyOk, tyV] using h
  | lst ts =>
    simp only [RT] at r
    obtain ⟨a, vs, rfl, _, hq, _⟩ := r
    exact .inl ⟨by simpa [tyOk] using h, vs, SqL.of hq⟩
  | ref n =>
    simp only [RT] at r
    obtain ⟨a, rfl, hb⟩ := r
    simp only [tyOk] at h
    split at h
    · rename_i ts hM
      obtain ⟨vs, h1, _⟩ := rm.cell n a _ hb hM
      exact .inl ⟨by simpa using h, vs, SqL.of h1⟩
    · rename_i ts hM
      obtain ⟨vs, h1, _⟩ := rm.cell n a _ hb hM
      exact .inr (.inr (.inl ⟨by simpa using h, .inl ⟨vs, h1⟩⟩))
    · cases h
  | _ => simp [tyOk] at h
end
section
variable {X : Cx} {W : WX} {e ob : Expr} {es : List Expr} {f : FE} {g : FA} {name : Str} {apos cpos : Pos} {Ty id : String} {o : T → List T → Mem → Res T}
theorem f_mt (pa : PlainAttrs Ty) (slot : Slot Ty name id) (hty : typeOf (.builtin id) = pure (.type "method_descriptor")) (hm : MtF X id o) (ho : PE X ob (tE X.K W f)) (ha : PA X (e :: es) (tA X.K W g))
    (hbase : attributeBase ob name X.env (eval ob X.env) = eval ob X.env := by rfl)
    (hfew : ((backTo cpos (starEach (e :: es) X.env)).all (fun x => !x.1) && (backToKw cpos (keywordEach [] X.env)).all (fun x => x.1.isSome)
      && decide ((e :: es).length + ([] : List Keyword).length + (if ([] : List Keyword).isEmpty then 0 else 1) < 30)) = true := by rfl)
    (hline : (apos.endLine == cpos.line) = true := by rfl) (hs : starEach (e :: es) X.env = (false, eval e X.env) :: starEach es X.env := by rfl) (hplain : (backTo cpos (starEach es X.env)).any (·.1) = false := by rfl) :
    PE X (.Call (.Attribute ob name apos) (e :: es) [] cpos) (tE X.K W (fMt Ty o f g)) := by
  obtain ⟨r, hr, hk⟩ := hm
  refine peI (pe_bm pa slot hty hr ho ha hbase hfew hline hs hplain) fun σ H Q ⟨β, s, M, rs, rm, h⟩ => ⟨β, s, M, rs, rm, Sat.bind h ?_⟩
  intro a M1 β1 H1 x e1 rm1 rx h1
  split at h1
  · rename_i ht
    refine ⟨ty_ok rm1 rx ht, β1, s, M1, rs.mono e1, rm1, Sat.bind h1 ?_⟩
    intro ts M2 β2 H2 xs e2 rm2 rxs h2
    exact hk W σ β2 M2 H2 x xs a ts Q rm2 (rx.up e2) rxs h2
  · exact h1.elim
theorem f_mt0 (pa : PlainAttrs Ty) (slot : Slot Ty name id) (hty : typeOf (.builtin id) = pure (.type "method_descriptor")) (hm : MtF X id o) (ho : PE X ob (tE X.K W f))
    (hbase : attributeBase ob name X.env (eval ob X.env) = eval ob X.env := by rfl) (hline : (apos.endLine == cpos.line) = true := by rfl) :
    PE X (.Call (.Attribute ob name apos) [] [] cpos) (tE X.K W (fMt Ty o f aNil)) := by
  obtain ⟨r, hr, hk⟩ := hm
  refine peI (pe_bm0 pa slot hty hr ho hbase hline) fun σ H Q ⟨β, s, M, rs, rm, h⟩ => ⟨β, s, M, rs, rm, Sat.bind h ?_⟩
  intro a M1 β1 H1 x e1 rm1 rx h1
  split at h1
  · rename_i ht
    exact ⟨ty_ok rm1 rx ht, hk W σ β1 M1 H1 x [] a [] Q rm1 rx .nil h1⟩
  · exact h1.elim
end
def cellL (M : Mem) : T → Option (Nat × List T)
  | .ref n => match M[n]? with
    | some (.lst us) => some (n, us)
    | _ => none
  | _ => none
theorem cell_at {K : PySem.W.Frag} {β : Bag} {H : Hp} {M : Mem} {v : V} {t : T} {n : Nat} {us : List T} (rm : RM K β H M) (h : cellL M t = some (n, us)) (r : RT K β H t v) :
    ∃ a vs, β.hs[n]? = some a ∧ v = .ref a ∧ H a = some (.lst vs) ∧ RTs K β H us vs := by
  cases t with
  | ref m =>
    simp only [cellL] at h
    simp only [RT] at r
    obtain ⟨a, e, hb⟩ := r
    split at h
    · rename_i ts hM
      cases h
      obtain ⟨vs, h1, h2⟩ := rm.cell _ a _ hb hM
      exact ⟨a, vs, hb, e, h1, h2⟩
    · cases h
  | _ => simp [cellL] at h
def oAppend (a : T) (ts : List T) (M : Mem) : Res T := match ts with
  | [y] => match cellL M a with
    | some (n, xs) => if xs.length < lim then .ok .non (M.set n (.lst (xs ++ [y]))) else .stuck
    | none => .stuck
  | _ => .stuck
def oPop (a : T) (ts : List T) (M : Mem) : Res T := match ts with
  | [] => match cellL M a with
    | some (n, xs) => match xs.getLast? with
      | some y => .ok y (M.set n (.lst xs.dropLast))
      | none => .stuck
    | none => .stuck
  | _ => .stuck
def oPopAt (a : T) (ts : List T) (M : Mem) : Res T := match ts with
  | [.int i] => match cellL M a with
    | some (n, xs) => if 0 ≤ i ∧ i.toNat < 4611686018427387904 then match xs[i.toNat]? with
        | some y => .ok y (M.set n (.lst (xs.eraseIdx i.toNat)))
        | none => .stuck
      else .stuck
    | none => .stuck
  | _ => .stuck
def firstAt (d : PyData) : List T → Option Nat
  | [] => none
  | t :: ts => if PyData.eqv t.data d = true then some 0 else (firstAt d ts).map (· + 1)
def oIndex (a : T) (ts : List T) (M : Mem) : Res T := match ts with
  | [y] => match lstOf M a with
    | some us => if (SeqAt.shaped y.data && SeqAt.shaped (.list (T.datas us))) = true then match firstAt y.data us with
        | some j => .ok (.int (j : Nat)) M
        | none => .stuck
      else .stuck
    | none => .stuck
  | _ => .stuck
theorem datas_get : ∀ (ts : List T) (i : Nat), (T.datas ts)[i]? = (ts[i]?).map T.data
  | [], i => by simp [T.datas]
  | t :: ts, 0 => by simp [T.datas]
  | t :: ts, i + 1 => by simp [T.datas, datas_get ts i]
theorem firstAt_spec (d : PyData) : ∀ (ts : List T) (j : Nat), firstAt d ts = some j → (∃ z, (T.datas ts)[j]? = some z ∧ PyData.eqv z d = true) ∧ ∀ (m : Nat) (z' : PyData), m < j → (T.datas ts)[m]? = some z' → PyData.eqv z' d = false
  | [], j, h => by simp [firstAt] at h
  | t :: ts, j, h => by
    simp only [firstAt] at h
    split at h
    · rename_i e
      cases h
      exact ⟨⟨t.data, by simp [T.datas], e⟩, fun m z' hm => absurd hm (Nat.not_lt_zero m)⟩
    · rename_i e
      cases q : firstAt d ts with
      | none => rw [q] at h; simp at h
      | some k =>
        rw [q] at h
        simp at h
        subst h
        obtain ⟨⟨z, h1, h2⟩, h3⟩ := firstAt_spec d ts k q
        refine ⟨⟨z, by simpa [T.datas] using h1, h2⟩, fun m z' hm hz => ?_⟩
        cases m with
        | zero =>
          simp [T.datas] at hz
          subst hz
          simpa using e
        | succ m => exact h3 m z' (by omega) (by simpa [T.datas] using hz)
section
variable {X : Cx}
theorem m_append : MtF X "list.append" oAppend := by
  refine ⟨_, mt_append, fun W σ β M H x xs a ts Q rm ra rx h => ?_⟩
  unfold oAppend at h
  split at h
  · rename_i y
    split at h
    · rename_i n us hc
      split at h
      · rename_i hl
        obtain ⟨p, vs, hb, rfl, hp, rv⟩ := cell_at rm hc ra
        obtain ⟨z, q, rfl, h2, h3⟩ := rx.uncons
        have e := h3.nil_of
        subst e
        have ew := Ext.write (o := .lst (vs ++ [z])) rm (List.mem_of_getElem? hb)
        refine ⟨p, vs, z, rfl, rfl, hp, by rw [rv.length]; exact lim_lt (by omega), ?_⟩
        exact h β _ _ ew (rm.write hb ⟨_, upd_same, (rv.snoc h2).up ew⟩) (by simp only [RT])
      · exact h.elim
    · exact h.elim
  · exact h.elim
theorem dropLast_rel {K : PySem.W.Frag} {β : Bag} {H : Hp} {us : List T} {vs : List V} (r : RTs K β H us vs) : RTs K β H us.dropLast vs.dropLast := by
  rw [List.dropLast_eq_take, List.dropLast_eq_take, r.length]
  exact r.take _
theorem m_pop : MtF X "list.pop" oPop := by
  refine ⟨_, mt_pop, fun W σ β M H x xs a ts Q rm ra rx h => ?_⟩
  unfold oPop at h
  split at h
  · split at h
    · rename_i n us hc
      split at h
      · rename_i y hy
        obtain ⟨p, vs, hb, rfl, hp, rv⟩ := cell_at rm hc ra
        rw [List.getLast?_eq_getElem?] at hy
        obtain ⟨z, hz, rz⟩ := rv.get hy
        have ew := Ext.write (o := .lst vs.dropLast) rm (List.mem_of_getElem? hb)
        refine ⟨p, vs, z, rfl, rx.nil_of, hp, by rw [rv.length]; exact hz, ?_⟩
        exact h β _ _ ew (rm.write hb ⟨_, upd_same, (dropLast_rel rv).up ew⟩) (rz.up ew)
      · exact h.elim
    · exact h.elim
  · exact h.elim
theorem m_popAt : MtF X "list.pop" oPopAt := by
  refine ⟨_, mt_popAt, fun W σ β M H x xs a ts Q rm ra rx h => ?_⟩
  unfold oPopAt at h
  split at h
  · rename_i i
    split at h
    · rename_i n us hc
      split at h
      · rename_i hi
        split at h
        · rename_i y hy
          obtain ⟨p, vs, hb, rfl, hp, rv⟩ := cell_at rm hc ra
          obtain ⟨z, hz, rz⟩ := rv.get hy
          obtain ⟨v, q, rfl, h2, h3⟩ := rx.uncons
          have e := h3.nil_of
          subst e
          simp only [RT] at h2
          subst h2
          have ew := Ext.write (o := .lst (vs.eraseIdx i.toNat)) rm (List.mem_of_getElem? hb)
          obtain ⟨hlt, _⟩ := List.getElem?_eq_some_iff.mp hz
          refine ⟨p, vs, i, i.toNat, z, rfl, rfl, hp, by omega, by omega, ?_, hz, ?_⟩
          · exact seqIndex_of hi.1 (by omega)
          · exact h β _ _ ew (rm.write hb ⟨_, upd_same, (rv.eraseIdx _).up ew⟩) (rz.up ew)
        · exact h.elim
      · exact h.elim
    · exact h.elim
  · exact h.elim
theorem m_index (hu : X.A.units + 65 < cLine) : MtF X "list.index" oIndex := by
  refine ⟨_, mt_indexD hu, fun W σ β M H x xs a ts Q rm ra rx h => ?_⟩
  unfold oIndex at h
  split at h
  · rename_i y
    split at h
    · rename_i us hc
      split at h
      · rename_i hs
        rw [Bool.and_eq_true] at hs
        split at h
        · rename_i j hj
          obtain ⟨p, vs, rfl, hp, rv⟩ := lst_at rm hc ra
          obtain ⟨v, q, rfl, h2, h3⟩ := rx.uncons
          have e := h3.nil_of
          subst e
          have c := SeqAt.canLay_of_shaped hs.2
          obtain ⟨⟨z, hz, hzj⟩, hno⟩ := firstAt_spec _ _ _ hj
          exact ⟨p, v, y.data, T.datas us, j, z, rfl, rfl, .lst (SqL.of hp) (RTs.dp _ _ rv (by simpa [PyData.canLay0] using c)), RT.dp y v h2 (SeqAt.canLay_of_shaped hs.1), hs.2, hs.1, hz, hzj, hno, h β H _ .refl rm (by simp only [RT])⟩
        · exact h.elim
      · exact h.elim
    · exact h.elim
  · exact h.elim
end

/-! ### what is walked -/
mutual
def T.beq : T → T → Bool
  | .non, .non => true
  | .bl a, .bl b => decide (a = b)
  | .int a, .int b => decide (a = b)
  | .str a, .str b => decide (a = b)
  | .tup a, .tup b => T.beqs a b
  | .lst a, .lst b => T.beqs a b
  | .scr a, .scr b => T.beqs a b
  | .iset a, .iset b => decide (a = b)
  | .rng a b, .rng c d => decide (a = c) && decide (b = d)
  | .ref a, .ref b => decide (a = b)
  | .adr a, .adr b => decide (a = b)
  | .ty a, .ty b => decide (a = b)
  | _, _ => false
def T.beqs : List T → List T → Bool
  | [], [] => true
  | a :: as, b :: bs => T.beq a b && T.beqs as bs
  | _, _ => false
end
mutual
theorem T.beq_self : ∀ a : T, T.beq a a = true
  | .non => rfl
  | .bl a => by simp [T.beq]
  | .int a => by simp [T.beq]
  | .str a => by simp [T.beq]
  | .tup a => by rw [T.beq]; exact T.beqs_self a
  | .lst a => by rw [T.beq]; exact T.beqs_self a
  | .scr a => by rw [T.beq]; exact T.beqs_self a
  | .iset a => by simp [T.beq]
  | .rng a b => by simp [T.beq]
  | .ref a => by simp [T.beq]
  | .adr a => by simp [T.beq]
  | .ty a => by simp [T.beq]
theorem T.beqs_self : ∀ a : List T, T.beqs a a = true
  | [] => rfl
  | a :: as => by rw [T.beqs, T.beq_self a, T.beqs_self as]; rfl
end
mutual
theorem T.beq_eq : ∀ a b : T, T.beq a b = true → a = b
  | a, b, h => by
    cases a <;> cases b <;> simp only [T.beq, decide_eq_true_eq, Bool.and_eq_true, Bool.false_eq_true] at h <;> first
      | rfl
      | (subst h; rfl)
      | (obtain ⟨rfl, rfl⟩ := h; rfl)
      | (rw [T.beqs_eq _ _ h])
theorem T.beqs_eq : ∀ a b : List T, T.beqs a b = true → a = b
  | [], [], _ => rfl
  | a :: as, b :: bs, h => by
    rw [T.beqs, Bool.and_eq_true] at h
    rw [T.beq_eq a b h.1, T.beqs_eq as bs h.2]
  | [], _ :: _, h => by simp [T.beqs] at h
  | _ :: _, [], h => by simp [T.beqs] at h
end
/-- the items, and the cell that must stay as it is meanwhile -/
structure Src where
  us : List T
  cell : Option Nat
  raw : List T
def srcOk (x : Src) (M : Mem) : Bool := match x.cell with
  | none => true
  | some n => match M[n]? with
    | some (.lst ts) => T.beqs ts x.raw
    | _ => false
abbrev FI := Slots → Mem → Res Src
def JIs (K : PySem.W.Frag) (β0 : Bag) (H0 : Hp) (x : Src) (J : It) : Prop := ∀ β H M i, Mon β0 H0 β H → RM K β H M → srcOk x M = true →
  (∀ t, x.us[i]? = some t → J.go i H ∧ ∀ v H', J.yld i H v H' → Ext β H β H' ∧ RM K β H' M ∧ RT K β H' t v) ∧ (i = x.us.length → J.stop i H)
def tI (K : PySem.W.Frag) (W : WX) (f : FI) : TI := fun σ H R => ∃ β s M, RS K β H s σ ∧ RM K β H M ∧ Sat K W σ (JIs K) β H (f s M) R
end Fl
set_option Elab.async false
set_option linter.all false
set_option maxRecDepth 100000
set_option maxHeartbeats 1000000
/-! Fl8: what is walked; list comprehensions. -/
namespace Fl
open PySem PySem.Spec PyProof.Rows L2

/-! ### sources -/
def srcOf (M : Mem) : T → Option Src
  | .tup ts => some ⟨ts, none, []⟩
  | .lst ts => some ⟨ts, none, []⟩
  | .scr ts => some ⟨ts, none, []⟩
  | .str z => some ⟨z.cps.toList.map fun c => T.str ⟨#[c]⟩, none, []⟩
  | .ref n => match M[n]? with
    | some (.lst us) => some ⟨us, some n, us⟩
    | _ => none
  | _ => none
def iSeq (f : FE) : FI := fun s M => (f s M).bind fun t M1 => match srcOf M1 t with
  | some x => .ok x M1
  | none => .stuck
def iR1 (g : FA) : FI := fun s M => (g s M).bind fun ts M1 => match ts with
  | [.int j] => if spanOk 0 j = true then .ok ⟨rangeT 0 j.toNat, none, []⟩ M1 else .stuck
  | _ => .stuck
def iR2 (g : FA) : FI := fun s M => (g s M).bind fun ts M1 => match ts with
  | [.int i, .int j] => if spanOk i j = true then .ok ⟨rangeT i (j - i).toNat, none, []⟩ M1 else .stuck
  | _ => .stuck
def enumT : Nat → List T → List T
  | _, [] => []
  | i, t :: ts => .tup [.int (i : Nat), t] :: enumT (i + 1) ts
def enSrc (t : T) (M1 : Mem) : Res Src := match t with
  | .tup ts => .ok ⟨enumT 0 ts, none, []⟩ M1
  | .lst ts => .ok ⟨enumT 0 ts, none, []⟩ M1
  | .ref n => match M1[n]? with
    | some (.lst us) => .ok ⟨enumT 0 us, some n, us⟩ M1
    | _ => .stuck
  | _ => .stuck
def iEnumF (f : FE) : FI := fun s M => (f s M).bind enSrc
theorem enumT_get : ∀ (ts : List T) (k i : Nat), (enumT k ts)[i]? = (ts[i]?).map fun t => T.tup [.int ((k + i : Nat) : Int), t]
  | [], k, i => by simp [enumT]
  | t :: ts, k, 0 => by simp [enumT]
  | t :: ts, k, i + 1 => by
    simp only [enumT, List.getElem?_cons_succ]
    rw [enumT_get ts (k + 1) i, show k + 1 + i = k + (i + 1) by omega]
theorem enumT_length : ∀ (ts : List T) (k : Nat), (enumT k ts).length = ts.length
  | [], k => rfl
  | t :: ts, k => by simp [enumT, enumT_length ts]
section
variable {K : PySem.W.Frag} {β β0 : Bag} {H H0 : Hp} {M : Mem}
/-- a list at a that stays -/
theorem jis_lst {us : List T} {a : Addr} {vs : List V} {x : Src} (hx : x.us = us) (rv : RTs K β0 H0 us vs) (hq : ∀ β H M, Mon β0 H0 β H → RM K β H M → srcOk x M = true → SqL K H a vs) : JIs K β0 H0 x (Itl K a) := by
  intro β H M i e rm ok
  subst hx
  refine ⟨fun t ht => ?_, fun hi => ⟨vs, hq β H M e rm ok, Nat.le_of_eq (by rw [rv.length]; exact hi.symm)⟩⟩
  obtain ⟨v, h1, h2⟩ := rv.get ht
  refine ⟨⟨vs, v, hq β H M e rm ok, h1⟩, fun w H' y => ?_⟩
  obtain ⟨rfl, y⟩ := y
  have : some v = some w := h1.symm.trans (y vs (hq β _ M e rm ok))
  cases this
  exact ⟨.refl, rm, RT.mono e _ _ h2⟩
theorem jis_tup {us : List T} {a : Addr} {vs : List V} {x : Src} (hx : x.us = us) (rv : RTs K β0 H0 us vs) (hq : ∀ β H, Mon β0 H0 β H → SqT K H a vs) : JIs K β0 H0 x (Itt K a) := by
  intro β H M i e rm ok
  subst hx
  refine ⟨fun t ht => ?_, fun hi => ⟨vs, hq β H e, Nat.le_of_eq (by rw [rv.length]; exact hi.symm)⟩⟩
  obtain ⟨v, h1, h2⟩ := rv.get ht
  refine ⟨⟨vs, v, hq β H e, h1⟩, fun w H' y => ?_⟩
  obtain ⟨rfl, y⟩ := y
  have : some v = some w := h1.symm.trans (y vs (hq β _ e))
  cases this
  exact ⟨.refl, rm, RT.mono e _ _ h2⟩
theorem jis_range {lo : Int} {n : Nat} : JIs K β0 H0 ⟨rangeT lo n, none, []⟩ (Itr lo n) := by
  intro β H M i e rm ok
  have hlen : (rangeT lo n).length = n := by simp [rangeT]
  refine ⟨fun t ht => ?_, fun hi => Nat.le_of_eq (by rw [hi]; exact hlen.symm)⟩
  obtain ⟨hi, _⟩ := List.getElem?_eq_some_iff.mp ht
  rw [hlen] at hi
  refine ⟨hi, fun w H' y => ?_⟩
  obtain ⟨rfl, rfl⟩ := y
  refine ⟨.refl, rm, ?_⟩
  have : t = T.int (lo + (i : Int)) := by
    have ht' : ((List.range n).map fun (k : Nat) => T.int (lo + (k : Int)))[i]? = some t := ht
    rw [List.getElem?_map, List.getElem?_range hi] at ht'
    exact (Option.some.inj ht').symm
  rw [this]
  simp only [RT]
theorem jis_str {z : Str} {r : List T} : JIs K β0 H0 ⟨z.cps.toList.map fun c => T.str ⟨#[c]⟩, none, r⟩ (Its z) := by
  intro β H M i e rm ok
  refine ⟨fun t ht => ?_, fun hi => show z.cps.size ≤ i from Nat.le_of_eq (by simpa using hi.symm)⟩
  have ht' : (z.cps.toList.map fun c => T.str ⟨#[c]⟩)[i]? = some t := ht
  obtain ⟨hi, _⟩ := List.getElem?_eq_some_iff.mp ht'
  refine ⟨show i < z.cps.size by simpa using hi, fun w H' y => ?_⟩
  obtain ⟨rfl, c, hc, rfl⟩ := y
  refine ⟨.refl, rm, ?_⟩
  rw [List.getElem?_map] at ht'
  have hc' : z.cps.toList[i]? = some c := by simpa using hc
  rw [hc'] at ht'
  have : t = T.str ⟨#[c]⟩ := (Option.some.inj ht').symm
  rw [this]
  simp only [RT]
end

section
variable {X : Cx} {W : WX} {tg e : Expr} {f : FE} {g : FA}
def tAny (K : PySem.W.Frag) (t : TE) : TI := fun σ H R => t σ H fun x H1 => (∃ a xs, x = V.ref a ∧ SqL K H1 a xs ∧ R (Itl K a) H1) ∨ (∃ a xs, x = V.ref a ∧ SqT K H1 a xs ∧ R (Itt K a) H1) ∨ ∃ z, x = V.str z ∧ R (Its z) H1
theorem pi_any {t : TE} (he : PE X e t) : PI X tg e (tAny X.K t) := by
  refine ⟨fun pins s σ H R I h => ?_⟩
  refine thn (he.run pins s σ H _ I h) ?_
  rintro v s1 ⟨x, H1, I1, r1, ⟨a, xs, rfl, hq, q⟩ | ⟨a, xs, rfl, hq, q⟩ | ⟨z, rfl, q⟩⟩
  · cases r1
    obtain ⟨its, _, pl, _⟩ := I1.list hq
    exact wpAny_pyIter_list pl.isList (pi_one (tk := s1.toks) I1 _ (turn_list a _) ⟨_, Heap.get?_push_size _ rfl, rfl, rfl⟩ q)
  · cases r1
    obtain ⟨its, _, pl, _⟩ := I1.tuple hq
    exact wpAny_pyIter_tuple (show s1.heap.IsTuple a its.toArray from pl) (pi_one (tk := s1.toks) I1 _ (turn_tuple a _) ⟨_, Heap.get?_push_size _ rfl, rfl, rfl⟩ q)
  · obtain ⟨t, rfl⟩ := r1
    cases ha : z.cps.all (· < 128)
    · exact wpAny_pyIter_wide ha (pi_one (tk := s1.toks) I1 _ (turn_str _ z t "str_iterator" (.inr rfl)) ⟨_, Heap.get?_push_size _ rfl, rfl, rfl⟩ q)
    · exact wpAny_pyIter_ascii ha (pi_one (tk := s1.toks) I1 _ (turn_str _ z t "str_ascii_iterator" (.inl rfl)) ⟨_, Heap.get?_push_size _ rfl, rfl, rfl⟩ q)
theorem piI {t t' : TI} (h : PI X tg e t) (k : ∀ σ H R, t' σ H R → t σ H R) : PI X tg e t' := ⟨fun pins s σ H R I q => h.run pins s σ H R I (k σ H R q)⟩
theorem i_seq (he : PE X e (tE X.K W f)) : PI X tg e (tI X.K W (iSeq f)) := by
  refine piI (pi_any he) fun σ H R ⟨β, s, M, rs, rm, h⟩ => ⟨β, s, M, rs, rm, Sat.bind h ?_⟩
  intro t M1 β1 H1 x e1 rm1 rx h1
  split at h1
  · rename_i sr hsr
    cases t with
    | tup ts =>
      simp only [srcOf, Option.some.injEq] at hsr
      subst hsr
      simp only [RT] at rx
      obtain ⟨a, vs, rfl, hq, rv⟩ := rx
      have stay : ∀ β H, Mon β1 H1 β H → SqT X.K H a vs := fun β H e => by
        rcases hq with ⟨n, z⟩ | z
        · exact .inl (e.rd n z).2
        · exact .inr z
      exact .inr (.inl ⟨a, vs, rfl, stay β1 H1 .refl, h1 β1 H1 _ .refl rm1 (jis_tup rfl rv stay)⟩)
    | lst ts =>
      simp only [srcOf, Option.some.injEq] at hsr
      subst hsr
      simp only [RT] at rx
      obtain ⟨a, vs, rfl, hn, hq, rv⟩ := rx
      exact .inl ⟨a, vs, rfl, SqL.of hq, h1 β1 H1 _ .refl rm1 (jis_lst rfl rv fun β H M e _ _ => SqL.of (e.old _ _ hn hq).2)⟩
    | scr ts =>
      simp only [srcOf, Option.some.injEq] at hsr
      subst hsr
      simp only [RT] at rx
      obtain ⟨a, vs, rfl, hq, rv⟩ := rx
      have stay : ∀ β H, Mon β1 H1 β H → SqL X.K H a vs := fun β H e => by
        rcases hq with ⟨n, z⟩ | z
        · exact .inl (e.rd n z).2
        · exact .inr z
      exact .inl ⟨a, vs, rfl, stay β1 H1 .refl, h1 β1 H1 _ .refl rm1 (jis_lst rfl rv fun β H M e _ _ => stay β H e)⟩
    | str z =>
      simp only [srcOf, Option.some.injEq] at hsr
      subst hsr
      simp only [RT] at rx
      subst rx
      exact .inr (.inr ⟨z, rfl, h1 β1 H1 _ .refl rm1 jis_str⟩)
    | ref n =>
      simp only [srcOf] at hsr
      split at hsr
      · rename_i us hM
        cases hsr
        simp only [RT] at rx
        obtain ⟨a, rfl, hb⟩ := rx
        obtain ⟨vs, hq, rv⟩ := rm1.cell n a _ hb hM
        refine .inl ⟨a, vs, rfl, SqL.of hq, h1 β1 H1 _ .refl rm1 ?_⟩
        -- the cell must stay as it is
        intro β H M i em rm ok
        have hM2 : M[n]? = some (.lst us) := by
          simp only [srcOk] at ok
          split at ok
          · rename_i ts hts
            rw [hts, T.beqs_eq _ _ ok]
          · cases ok
        obtain ⟨ws, hw, rw'⟩ := rm.cell n a _ (em.at_ hb) hM2
        refine ⟨fun t ht => ?_, fun hi => ⟨ws, SqL.of hw, Nat.le_of_eq (by rw [rw'.length]; exact hi.symm)⟩⟩
        obtain ⟨v, k1, k2⟩ := rw'.get (show us[i]? = some t from ht)
        refine ⟨⟨ws, v, SqL.of hw, k1⟩, fun w H' y => ?_⟩
        obtain ⟨rfl, y⟩ := y
        have : some v = some w := k1.symm.trans (y ws (SqL.of hw))
        cases this
        exact ⟨.refl, rm, k2⟩
      · cases hsr
    | _ => simp [srcOf] at hsr
  · exact h1.elim
theorem span_ok {i j : Int} (h : spanOk i j = true) : -(2 ^ 62) ≤ i ∧ i < 2 ^ 62 ∧ -(2 ^ 62) ≤ j ∧ j < 2 ^ 62 := by
  simp only [spanOk, Bool.and_eq_true, decide_eq_true_eq] at h
  have h : ((-(2 ^ 62) ≤ i ∧ i < 2 ^ 62) ∧ -(2 ^ 62) ≤ j) ∧ j < 2 ^ 62 := by omega
  exact ⟨h.1.1.1, h.1.1.2, h.1.2, h.2⟩
theorem i_range1 {p pos : Pos} {a : Expr} (hg : Gl X "range") (hm : X.mg "range" = none) (ha : PA X [a] (tA X.K W g)) (hs : starEach [a] X.env = [(false, eval a X.env)] := by rfl) : PI X tg (.Call (.Name "range" p) [a] [] pos) (tI X.K W (iR1 g)) := by
  refine piI (pi_range1 hg hm ha hs) fun σ H R ⟨β, s, M, rs, rm, h⟩ => ⟨β, s, M, rs, rm, Sat.bind h ?_⟩
  intro ts M1 β1 H1 xs e1 rm1 rx h1
  split at h1
  · split at h1
    · rename_i hj
      obtain ⟨_, _, k1, k2⟩ := span_ok hj
      obtain ⟨v, q, rfl, h2, h3⟩ := rx.uncons
      have e := h3.nil_of
      subst e
      simp only [RT] at h2
      subst h2
      exact ⟨_, rfl, k1, k2, h1 β1 H1 _ .refl rm1 jis_range⟩
    · exact h1.elim
  · exact h1.elim
theorem i_range2 {p pos : Pos} {a b : Expr} (hg : Gl X "range") (hm : X.mg "range" = none) (ha : PA X [a, b] (tA X.K W g)) (hs : starEach [a, b] X.env = [(false, eval a X.env), (false, eval b X.env)] := by rfl) (hs2 : starEach [b] X.env = [(false, eval b X.env)] := by rfl) :
    PI X tg (.Call (.Name "range" p) [a, b] [] pos) (tI X.K W (iR2 g)) := by
  refine piI (pi_range2 hg hm ha hs hs2) fun σ H R ⟨β, s, M, rs, rm, h⟩ => ⟨β, s, M, rs, rm, Sat.bind h ?_⟩
  intro ts M1 β1 H1 xs e1 rm1 rx h1
  split at h1
  · split at h1
    · rename_i hj
      obtain ⟨v, q, rfl, h2, h3⟩ := rx.uncons
      obtain ⟨v', q', rfl, h4, h5⟩ := h3.uncons
      have e := h5.nil_of
      subst e
      simp only [RT] at h2 h4
      subst h2 h4
      exact ⟨_, _, rfl, span_ok hj, h1 β1 H1 _ .refl rm1 jis_range⟩
    · exact h1.elim
  · exact h1.elim
end

/-! ### enumerate: of a list by the layer's own turns, of a tuple by these -/
def IteT (K : PySem.W.Frag) (a : Addr) : It where
  go := fun i H => ∃ (xs : List V) (x : V), SqT K H a xs ∧ xs[i]? = some x
  yld := fun i H v H' => ∃ T x, v = .ref T ∧ H T = none ∧ H' = upd H T (.tup [.int (i : Nat), x]) ∧ ∀ xs, SqT K H a xs → xs[i]? = some x
  stop := fun i H => ∃ xs : List V, SqT K H a xs ∧ xs.length = i
theorem turn_enumT {P : Program} {w : World} {K : PySem.W.Frag} {elts : List Expr} {kk : Nat} {tpos : Pos} (a e it : Addr) :
    Turn P w K (.Tuple elts kk tpos) (IteT K a) [e, it] e (fun i h => (∃ old, IsEnum h e it ((i : Nat) : Int) old) ∧ h.IsTupleIter it a i ∧ e ≠ it) where
  mem := List.mem_cons_self
  obj := by
    rintro i h ⟨⟨old, he⟩, ⟨o, ho, _, hd⟩, _⟩ b hb
    rcases List.mem_cons.mp hb with z | hb
    · subst z
      exact ⟨_, he, fun v q => nomatch q⟩
    · rw [List.mem_singleton.mp hb]
      refine ⟨o, ho, fun v q => ?_⟩
      rw [hd] at q
      cases q
  keep := by
    rintro i h h' ⟨⟨old, he⟩, hi, hne⟩ k
    exact ⟨⟨old, k e List.mem_cons_self _ he⟩, hi.at fun o q => k it (List.mem_cons_of_mem _ List.mem_cons_self) o q, hne⟩
  item := by
    rintro X hP hw hK hc i pins s σ H E I hf ⟨⟨old, he⟩, hit, hne⟩ ⟨xs, x, hq, hx⟩
    subst hP hw hK
    obtain ⟨its, rv, pt, hz⟩ := I.tuple hq
    obtain ⟨u, hu, ru⟩ := rv.get hx
    have hel : e < s.heap.objs.size := Heap.lt_size he
    have hil : it < s.heap.objs.size := by
      obtain ⟨_, q, _⟩ := hit
      exact Heap.lt_size q
    have hai : a ≠ it := fun z => by
      obtain ⟨o1, q1, c1, _⟩ := pt
      obtain ⟨o2, q2, c2, _⟩ := hit
      rw [z, q2] at q1
      cases q1
      rw [c2] at c1
      injection c1 with c1
      exact absurd c1 (by decide)
    have hae : e ≠ a := fun z => by
      obtain ⟨o1, q1, c1, _⟩ := pt
      have he' : s.heap.get? e = some _ := he
      rw [z, q1] at he'
      cases he'
      injection c1 with c1
      exact absurd c1 (by decide)
    have hlt : i < its.toArray.size := by
      obtain ⟨q, _⟩ := List.getElem?_eq_some_iff.mp hu
      simpa using q
    have DD := Draws.tuple (prog := X.prog) (w := X.w) (A := X.A.in1) (I.ok.hd hc) it a hai its.toArray
    refine wpAny_pyNext_enum_itemD DD he ⟨hit, show s.heap.IsTuple a its.toArray from pt⟩ hlt hne (fun z => ?_) fun x2 h' tk hP ho hst hT hsz hk => ?_
    · rcases List.mem_cons.mp z with z | z
      · exact hne z
      · exact hae (List.mem_singleton.mp z)
    have ex : x2 = u := by
      have h1 : its[i]? = some x2 := by simpa using hP
      rw [hu] at h1
      exact (Option.some.inj h1).symm
    subst ex
    refine ⟨_, rfl, wpAny_letOwnedTupleGo_enum (s := { s with heap := h', toks := tk + 1 }) ho fun h'' he' sb => ?_⟩
    have hT2 := (sb.2 _ (Nat.ne_of_gt hel)).trans hT
    have new : ObjOk X.prog X.w (upd H s.heap.objs.size (.tup [.int (i : Nat), x])) h'' s.heap.objs.size (.tup [.int (i : Nat), x]) := by
      refine ⟨?_, [.int i tk, x2], .cons ⟨_, rfl⟩ (.cons ru .nil), ⟨_, hT2, rfl, _, rfl⟩⟩
      show 2 ≤ sizeLine
      decide
    have I1 := I.turnedNew (t' := tk + 1) (ch := [e, it]) (ob := .tup [.int (i : Nat), x]) (fun b ob hb q => (sb.2 b fun z => hb (z ▸ List.mem_cons_self)).trans (hk b ob (fun z => hb (z ▸ List.mem_cons_self)) (fun z => hb (z ▸ List.mem_cons_of_mem _ List.mem_cons_self)) q)) hf (Nat.le_refl _) new
    refine ⟨.ref s.heap.objs.size, _, I1, rfl, ⟨_, x, rfl, I.hok.fresh (Nat.le_refl _), rfl, fun ys hy => by rw [I.tuple_inj hy hq]; exact hx⟩, ⟨⟨x2, ?_⟩, hst.1.at fun o q => (sb.2 it (Ne.symm hne)).trans q, hne⟩, fun b hb => ?_⟩
    · rw [show ((i + 1 : Nat) : Int) = (i : Int) + 1 by omega]
      exact he'
    · have hlb : b < s.heap.objs.size := by
        rcases List.mem_cons.mp hb with z | z
        · exact z ▸ hel
        · exact List.mem_singleton.mp z ▸ hil
      exact (upd_ne (Nat.ne_of_lt hlb)).trans (hf b hb).1
  done := by
    rintro X hP hw hK hc i pins s σ H E I hf ⟨⟨old, he⟩, hit, hne⟩ ⟨xs, hq, hx⟩
    subst hP hw hK
    obtain ⟨its, rv, pt, hz⟩ := I.tuple hq
    obtain ⟨f0, f1, f2, f3, f4, f5⟩ := hf it (List.mem_cons_of_mem _ List.mem_cons_self)
    have hai : a ≠ it := fun z => by
      obtain ⟨o1, q1, c1, _⟩ := pt
      obtain ⟨o2, q2, c2, _⟩ := hit
      rw [z, q2] at q1
      cases q1
      rw [c2] at c1
      injection c1 with c1
      exact absurd c1 (by decide)
    have DD := Draws.tuple (prog := X.prog) (w := X.w) (A := X.A.in1) (I.ok.hd hc) it a hai its.toArray
    have hi : i = its.toArray.size := by
      rw [← hx, rv.length]
      simp
    subst hi
    exact wpAny_pyNext_enum_endD DD he ⟨hit, show s.heap.IsTuple a its.toArray from pt⟩ fun h' eb => ⟨rfl, I.turned (t' := s.toks) (fun b o hb q => eb b o hb q) f0 f1 f3 f4 f5⟩
  self := by
    rintro A i s Q E ⟨⟨_, he⟩, _⟩ h
    exact wpAny_pyIter_enum he h
end Fl
set_option Elab.async false
set_option linter.all false
set_option maxRecDepth 100000
set_option maxHeartbeats 2000000
/-! Fl9: enumerate; targets; list comprehensions. -/
namespace Fl
open PySem PySem.Spec PyProof.Rows L2

theorem meets_enum1 {v : Value} {o : Obj} {Hy : Heap → Prop} (B : Begins v o Hy) :
    Meets (Builtin.«enumerate.__new__» ⟨[.type "enumerate", v], []⟩) (fun _ R s => Hy s.heap ∧
      R (.ok (.ret (.ref (s.heap.push o).objs.size))) { s with heap := (s.heap.push o).push { cls := .type "enumerate", data := .fields #[.none, .bool false, .ref s.heap.objs.size, rawInt 0, .none, .none] } }) := by
  refine .of_wp fun prog w A R s h => ?_
  obtain ⟨hp, g, d, tk, os⟩ := s
  obtain ⟨h1, h⟩ := h
  have hsub := sub_enumerate
  have q1 : ∀ {A' : Around} {E : Value → Shared → Prop} {Q : Value → Shared → Prop}, Q (.ref hp.objs.size) ⟨hp.push o, g, d, tk, os⟩ → wpAny (model prog w) A' (pyIter v) Q E ⟨hp, g, d, tk, os⟩ :=
    fun q => B.iter prog w _ _ ⟨hp, g, d, tk, os⟩ _ h1 q
  wp_walk using q1
  refine wpAny_stack_any fun st => wpAny_pure ?_
  split
  · rename_i c _ _ _ _ _
    cases (c == Value.type "enumerate") <;> (wp_walk using q1; exact ⟨_, rfl, h⟩)
  · wp_walk using q1
    exact ⟨_, rfl, h⟩
section
variable {prog : Program} {w : World} {A : Around} {E : Value → Shared → Prop} {s : Shared}
theorem call_enumerate_tup {l : Addr} {its : Array Value} {Q : Value → Shared → Prop} (hL : s.heap.IsTuple l its)
    (h : ∀ h', IsEnum h' (s.heap.objs.size + 1) s.heap.objs.size 0 .none → h'.IsTupleIter s.heap.objs.size l 0 →
      (∀ b o, s.heap.get? b = some o → h'.get? b = some o) → Q (.ref (s.heap.objs.size + 1)) { s with heap := h' }) :
    wpAny (model prog w) A (call (.type "enumerate") [.ref l]) Q E s := by
  refine callType_new F.called_enumerate (by decide) (F.typeCall_enumerate_1 _) (F.newCall_enumerate_1 _) (fun obj => F.args_object_init_2 obj _) F.entry_enumerate_new (meets_enum1 (begins_tuple l its)) ⟨hL, ?_⟩
  generalize ho : ({ cls := Value.type "tuple_iterator", data := Data.fields #[.ref l, .int 0 0] } : Obj) = o1
  generalize ho2 : ({ cls := Value.type "enumerate", data := Data.fields #[.none, .bool false, .ref s.heap.objs.size, rawInt 0, .none, .none] } : Obj) = o2
  have hz : (s.heap.push o1).objs.size = s.heap.objs.size + 1 := Heap.size_push ..
  have g2 : ((s.heap.push o1).push o2).get? (s.heap.objs.size + 1) = some o2 := by
    rw [← hz]
    exact Heap.get?_push_size _ (by rw [← ho2]; rfl)
  have g1 : ((s.heap.push o1).push o2).get? s.heap.objs.size = some o1 := Heap.get?_push_of_some _ (Heap.get?_push_size _ (by rw [← ho]; rfl))
  rw [hz]
  refine ⟨⟨o2, g2, by rw [← ho2]⟩, h _ ?_ ⟨o1, g1, by rw [← ho], by rw [← ho]; rfl⟩ fun b o x => Heap.get?_push_of_some _ (Heap.get?_push_of_some _ x)⟩
  show ((s.heap.push o1).push o2).get? (s.heap.objs.size + 1) = some _
  rw [g2, ← ho2]
end
section
variable {X : Cx} {W : WX} {e : Expr} {p pos tpos : Pos} {elts : List Expr} {kk : Nat} {f : FE}
def tEnum (K : PySem.W.Frag) (ta : TA) : TI := fun σ H R => ta σ H fun vs H1 => (∃ a xs, vs = [.ref a] ∧ SqL K H1 a xs ∧ R (Ite K a) H1) ∨ ∃ a xs, vs = [.ref a] ∧ SqT K H1 a xs ∧ R (IteT K a) H1
theorem pi_enumA {ta : TA} (hg : Gl X "enumerate") (hm : X.mg "enumerate" = none) (ha : PA X [e] ta) (hs : starEach [e] X.env = [(false, eval e X.env)] := by rfl) :
    PI X (.Tuple elts kk tpos) (.Call (.Name "enumerate" p) [e] [] pos) (tEnum X.K ta) := by
  refine ⟨fun pins s σ H R I h => ?_⟩
  refine Call_ (ld_blt I hg hm boot_enumerate (PyProof.Rows.callWith_type1 (thn (ha.run pos pins s σ H _ I h) ?_) hs rfl))
  rintro us s1 ⟨vs, H1, I1, r1, ⟨a, xs, rfl, hq, q⟩ | ⟨a, xs, rfl, hq, q⟩⟩
  · rw [Vals.ref1 r1]
    obtain ⟨its, _, pl, _⟩ := I1.list hq
    refine call_enumerate_list pl.isList fun h' he hit _ hk => wpAny_pyIter_enum he ⟨_, [s1.heap.objs.size + 1, s1.heap.objs.size], _, _, H1, rfl, I1.kept (t' := s1.toks) hk, turn_enum a _ _, ⟨⟨.none, he⟩, hit, Nat.succ_ne_self _⟩, fun b hb => ?_, q⟩
    have hle : s1.heap.objs.size ≤ b := by
      rcases List.mem_cons.mp hb with z | z
      · exact z ▸ Nat.le_succ _
      · exact List.mem_singleton.mp z ▸ Nat.le_refl _
    exact I1.fpOk hle (I1.hok.fresh hle)
  · rw [Vals.ref1 r1]
    obtain ⟨its, _, pl, _⟩ := I1.tuple hq
    refine call_enumerate_tup (show s1.heap.IsTuple a its.toArray from pl) fun h' he hit hk => wpAny_pyIter_enum he ⟨_, [s1.heap.objs.size + 1, s1.heap.objs.size], _, _, H1, rfl, I1.kept (t' := s1.toks) hk, turn_enumT a _ _, ⟨⟨.none, he⟩, hit, Nat.succ_ne_self _⟩, fun b hb => ?_, q⟩
    have hle : s1.heap.objs.size ≤ b := by
      rcases List.mem_cons.mp hb with z | z
      · exact z ▸ Nat.le_succ _
      · exact List.mem_singleton.mp z ▸ Nat.le_refl _
    exact I1.fpOk hle (I1.hok.fresh hle)
theorem pair_new {K : PySem.W.Frag} {β : Bag} {H : Hp} {M : Mem} {i : Nat} {t : T} {x : V} {p : Addr} (rm : RM K β H M) (r : RT K β H t x) (hp : H p = none) :
    Ext β H β (upd H p (.tup [.int (i : Nat), x])) ∧ RM K β (upd H p (.tup [.int (i : Nat), x])) M ∧ RT K β (upd H p (.tup [.int (i : Nat), x])) (.tup [.int (i : Nat), t]) (.ref p) :=
  ⟨.new rm hp, rm.new hp, new_tup rm hp (.cons (by simp only [RT]) (.cons r .nil))⟩
theorem jis_enumL {K : PySem.W.Frag} {β0 : Bag} {H0 : Hp} {us : List T} {a : Addr} {x : Src} (hx : x.us = enumT 0 us) (hq : ∀ β H M, Mon β0 H0 β H → RM K β H M → srcOk x M = true → ∃ vs, SqL K H a vs ∧ RTs K β H us vs) : JIs K β0 H0 x (Ite K a) := by
  intro β H M i e rm ok
  obtain ⟨vs, sq, rv⟩ := hq β H M e rm ok
  refine ⟨fun t ht => ?_, fun hi => ⟨vs, sq, Nat.le_of_eq (by rw [rv.length, hi, hx, enumT_length])⟩⟩
  rw [hx, enumT_get] at ht
  cases hu : us[i]? with
  | none => rw [hu] at ht; cases ht
  | some t0 =>
    rw [hu] at ht
    simp only [Option.map_some, Nat.zero_add, Option.some.injEq] at ht
    obtain ⟨v, h1, h2⟩ := rv.get hu
    refine ⟨⟨vs, v, sq, h1⟩, fun w H' y => ?_⟩
    obtain ⟨T0, x0, rfl, hT, rfl, y⟩ := y
    have : some v = some x0 := h1.symm.trans (y vs sq)
    cases this
    rw [← ht]
    exact pair_new rm h2 hT
theorem jis_enumT {K : PySem.W.Frag} {β0 : Bag} {H0 : Hp} {us : List T} {a : Addr} {vs : List V} {x : Src} (hx : x.us = enumT 0 us) (rv : RTs K β0 H0 us vs) (hq : ∀ β H, Mon β0 H0 β H → SqT K H a vs) : JIs K β0 H0 x (IteT K a) := by
  intro β H M i e rm ok
  have sq := hq β H e
  refine ⟨fun t ht => ?_, fun hi => ⟨vs, sq, by rw [rv.length, hi, hx, enumT_length]⟩⟩
  rw [hx, enumT_get] at ht
  cases hu : us[i]? with
  | none => rw [hu] at ht; cases ht
  | some t0 =>
    rw [hu] at ht
    simp only [Option.map_some, Nat.zero_add, Option.some.injEq] at ht
    obtain ⟨v, h1, h2⟩ := rv.get hu
    refine ⟨⟨vs, v, sq, h1⟩, fun w H' y => ?_⟩
    obtain ⟨T0, x0, rfl, hT, rfl, y⟩ := y
    have : some v = some x0 := h1.symm.trans (y vs sq)
    cases this
    rw [← ht]
    exact pair_new rm (RT.mono e _ _ h2) hT
theorem i_enum (hg : Gl X "enumerate") (hm : X.mg "enumerate" = none) (ha : PE X e (tE X.K W f)) (hs : starEach [e] X.env = [(false, eval e X.env)] := by rfl) :
    PI X (.Tuple elts kk tpos) (.Call (.Name "enumerate" p) [e] [] pos) (tI X.K W (iEnumF f)) := by
  have hs' : starEach [e] X.env = (false, eval e X.env) :: starEach [] X.env := hs
  refine piI (pi_enumA hg hm (a_cons ha a_nil hs') hs) fun σ H R h => ?_
  obtain ⟨β, s, M, rs, rm, h⟩ := h
  have h' : Sat X.K W σ (JIs X.K) β H (((aCons f aNil) s M).bind fun ts M1 => match ts with
    | [t] => enSrc t M1
    | _ => .stuck) R := by
    unfold iEnumF at h
    unfold aCons aNil
    cases hf : f s M with
    | ok t M1 => rw [hf] at h; exact h
    | ex c fs M1 => rw [hf] at h; exact h
    | stuck => rw [hf] at h; exact h
  refine ⟨β, s, M, rs, rm, Sat.bind h' ?_⟩
  · intro ts M1 β1 H1 xs e1 rm1 rx h1
    split at h1
    · rename_i t
      obtain ⟨v, q, rfl, h2, h3⟩ := rx.uncons
      have e := h3.nil_of
      subst e
      unfold enSrc at h1
      split at h1
      · rename_i us
        simp only [RT] at h2
        obtain ⟨a, vs, rfl, hq, rv⟩ := h2
        have stay : ∀ β H, Mon β1 H1 β H → SqT X.K H a vs := fun β H e => by
          rcases hq with ⟨n, z⟩ | z
          · exact .inl (e.rd n z).2
          · exact .inr z
        exact .inr ⟨a, vs, rfl, stay _ _ .refl, h1 β1 H1 _ .refl rm1 (jis_enumT rfl rv stay)⟩
      · rename_i us
        simp only [RT] at h2
        obtain ⟨a, vs, rfl, hn, hq, rv⟩ := h2
        exact .inl ⟨a, vs, rfl, SqL.of hq, h1 β1 H1 _ .refl rm1 (jis_enumL rfl fun β H M e _ _ => ⟨vs, SqL.of (e.old _ _ hn hq).2, RTs.mono e _ _ rv⟩)⟩
      · split at h1
        · rename_i us hM
          simp only [RT] at h2
          obtain ⟨a, rfl, hb⟩ := h2
          obtain ⟨vs, hq, rv⟩ := rm1.cell _ a _ hb hM
          refine .inl ⟨a, vs, rfl, SqL.of hq, h1 β1 H1 _ .refl rm1 (jis_enumL rfl fun β H M em rm ok => ?_)⟩
          simp only [srcOk] at ok
          split at ok
          · rename_i ts hts
            obtain ⟨ws, hw, rw'⟩ := rm.cell _ a _ (em.at_ hb) hts
            exact ⟨ws, SqL.of hw, by rw [← T.beqs_eq _ _ ok]; exact rw'⟩
          · cases ok
        · exact h1.elim
      · exact h1.elim
    · exact h1.elim
end

/-! ### targets -/
abbrev FG := T → Slots → Option Slots
def tG (K : PySem.W.Frag) (is : List Nat) (G : FG) : TG := fun v σ H Q => ∃ β s t s2, RS K β H s σ ∧ RT K β H t v ∧ G t s = some s2 ∧ ∀ σ2, RS K β H s2 σ2 → wipe σ2 is = wipe σ is → Q σ2 H
def gNm (i : Nat) : FG := fun t s => some (s.set i (some t))
/-- a tuple of names -/
def gNms (is : List Nat) : FG := fun t s => match t with
  | .tup ts => if ts.length = is.length then some ((is.zip ts).foldl (fun s p => s.set p.1 (some p.2)) s) else none
  | _ => none
theorem wipe_get (σ : L2.St) : ∀ (vs : List Nat) (i : Nat), (wipe σ vs)[i]? = if i ∈ vs then (if i < σ.length then some none else none) else σ[i]?
  | [], i => by simp [wipe]
  | v :: vs, i => by
    have ih := wipe_get σ vs i
    unfold wipe
    by_cases e : v = i
    · subst e
      rw [if_pos List.mem_cons_self]
      by_cases h : v < σ.length
      · rw [List.getElem?_set_self (by rw [wipe_length]; exact h), if_pos h]
      · rw [List.getElem?_eq_none (by rw [List.length_set, wipe_length]; omega), if_neg h]
    · rw [List.getElem?_set_ne e, ih]
      by_cases h : i ∈ vs
      · rw [if_pos h, if_pos (List.mem_cons_of_mem _ h)]
      · rw [if_neg h, if_neg (fun z => by rcases List.mem_cons.mp z with z | z; exact e z.symm; exact h z)]
theorem wipe_set {σ : L2.St} {vs : List Nat} {k : Nat} {x : Option V} (h : k ∈ vs) : wipe (σ.set k x) vs = wipe σ vs := by
  apply List.ext_getElem?
  intro i
  rw [wipe_get, wipe_get, List.length_set]
  by_cases hi : i ∈ vs
  · rw [if_pos hi, if_pos hi]
  · rw [if_neg hi, if_neg hi, List.getElem?_set_ne (fun (z : k = i) => hi (z ▸ h))]
section
variable {X : Cx} {pos : Pos}
theorem pgI {tg : Expr} {t t' : TG} (h : PG X tg t) (k : ∀ v σ H Q, t' v σ H Q → t v σ H Q) : PG X tg t' := ⟨fun pins s σ H v u Q I r q => h.run pins s σ H v u Q I r (k v σ H Q q)⟩
theorem t_name {i : Nat} {x : Str} {is : List Nat} (h : PG X (.Name x pos) (gName i)) (hi : i ∈ is) : PG X (.Name x pos) (tG X.K is (gNm i)) := by
  refine pgI h fun v σ H Q ⟨β, s, t, s2, rs, rt, e, k⟩ => ?_
  cases e
  exact k _ (rs.set rt) (wipe_set hi)
/-- the targets, one after another, at these slots -/
def gAll : List Nat → TGs
  | [] => gNil
  | i :: is => gCons (gName i) (gAll is)
theorem gAll_run : ∀ (js : List Nat) (vs : List V) (σ : L2.St) (H : Hp) (Q : L2.St → Hp → Prop), vs.length = js.length → Q ((js.zip vs).foldl (fun s p => s.set p.1 (some p.2)) σ) H → gAll js vs σ H Q
  | [], vs, σ, H, Q, hl, q => by
    have : vs = [] := List.eq_nil_of_length_eq_zero hl
    subst this
    exact ⟨rfl, q⟩
  | i :: js, [], σ, H, Q, hl, q => by simp at hl
  | i :: js, v :: vs, σ, H, Q, hl, q => ⟨v, vs, rfl, gAll_run js vs _ H Q (by simpa using hl) q⟩
theorem sets_rel {K : PySem.W.Frag} {β : Bag} {H : Hp} : ∀ {js : List Nat} {ts : List T} {vs : List V} {s : Slots} {σ : L2.St}, RTs K β H ts vs → RS K β H s σ →
    RS K β H ((js.zip ts).foldl (fun s p => s.set p.1 (some p.2)) s) ((js.zip vs).foldl (fun s p => s.set p.1 (some p.2)) σ)
  | [], ts, vs, s, σ, r, rs => rs
  | j :: js, [], vs, s, σ, r, rs => by
    rw [r.nil_of]
    exact rs
  | j :: js, t :: ts, vs, s, σ, r, rs => by
    obtain ⟨v, q, rfl, h2, h3⟩ := r.uncons
    have ih := sets_rel (js := js) (ts := ts) (vs := q) (s := s.set j (some t)) (σ := σ.set j (some v)) h3 (rs.set h2)
    exact ih
theorem sets_wipe {is : List Nat} : ∀ {js : List Nat} {vs : List V} {σ : L2.St}, (∀ j ∈ js, j ∈ is) → wipe ((js.zip vs).foldl (fun s p => s.set p.1 (some p.2)) σ) is = wipe σ is
  | [], vs, σ, h => rfl
  | j :: js, [], σ, h => rfl
  | j :: js, v :: vs, σ, h => by
    have e := sets_wipe (js := js) (vs := vs) (σ := σ.set j (some v)) fun k hk => h k (List.mem_cons_of_mem _ hk)
    exact e.trans (wipe_set (h j List.mem_cons_self))
theorem t_names {es : List Expr} {k : Nat} {js is : List Nat} (hc : X.calm = true) (h : PGs X es (gAll js)) (hi : ∀ j ∈ js, j ∈ is) (hn : (assignEach es X.env).length = js.length := by rfl) (hst : (assignEach es X.env).findIdx? (·.1) = none := by rfl) :
    PG X (.Tuple es k pos) (tG X.K is (gNms js)) := by
  refine pgI (pg_tup hc h hn hst) fun v σ H Q ⟨β, s, t, s2, rs, rt, e, q⟩ => ?_
  unfold gNms at e
  split at e
  · rename_i ts
    split at e
    · rename_i hl
      cases e
      simp only [RT] at rt
      obtain ⟨a, vs, rfl, hq, rv⟩ := rt
      refine ⟨a, vs, rfl, ?_, rv.length.trans hl, gAll_run js vs σ H Q (rv.length.trans hl) (q _ (sets_rel rv rs) (sets_wipe hi))⟩
      rcases hq with ⟨_, z⟩ | z
      · exact .inl z
      · exact .inr z
    · cases e
  · cases e
end
end Fl
set_option Elab.async false
set_option linter.all false
set_option maxRecDepth 100000
set_option maxHeartbeats 2000000
/-! Fl10: list comprehensions. -/
namespace Fl
open PySem PySem.Spec PyProof.Rows L2

/-- no exception leaves -/
def W0 : WX := fun _ _ _ _ => False
def Res.noex {α : Type} (r : Res α) : Res α := match r with
  | .ok a M => .ok a M
  | _ => .stuck
@[simp] theorem Res.noex_ok {α : Type} (a : α) (M : Mem) : (Res.ok a M).noex = .ok a M := rfl
theorem Res.bind_bind {α δ ε : Type} (r : Res α) (f : α → Mem → Res δ) (g : δ → Mem → Res ε) : (r.bind f).bind g = r.bind fun a M => (f a M).bind g := by cases r <;> rfl
theorem Sat.noex {α γ δ ε : Type} {K : PySem.W.Frag} {W : WX} {σ σ2 : L2.St} {R : Bag → Hp → α → γ → Prop} {R1 : Bag → Hp → δ → ε → Prop} {β β1 : Bag} {H H1 : Hp} {Q : γ → Hp → Prop} {Q1 : ε → Hp → Prop} {r : Res δ} {k : δ → Mem → Res α}
    (h : Sat K W σ R β1 H1 (r.noex.bind k) Q) (hk : ∀ a M2 β2 H2 x, Ext β H β2 H2 → RM K β2 H2 M2 → R1 β2 H2 a x → Sat K W σ R β1 H1 (k a M2) Q → Q1 x H2) : Sat K W0 σ2 R1 β H r Q1 := by
  cases r with
  | ok a M => exact fun β' H' x e rm rx => hk a M β' H' x e rm rx h
  | ex c fs M => exact h.elim
  | stuck => exact h
def wipeS (s : Slots) : List Nat → Slots
  | [] => s
  | v :: vs => (wipeS s vs).set v none
theorem wipeS_len (s : Slots) : ∀ vs : List Nat, (wipeS s vs).length = s.length
  | [] => rfl
  | v :: vs => by unfold wipeS; rw [List.length_set, wipeS_len s vs]
theorem RS.wipe {K : PySem.W.Frag} {β : Bag} {H : Hp} {s : Slots} {σ : L2.St} (r : RS K β H s σ) : ∀ vs : List Nat, RS K β H (wipeS s vs) (L2.wipe σ vs)
  | [] => r
  | v :: vs => by
    have ih := r.wipe vs
    unfold wipeS L2.wipe
    refine ⟨by simp [ih.len], fun i t h => ?_⟩
    by_cases e : v = i
    · subst e
      by_cases hv : v < (wipeS s vs).length
      · rw [List.getElem?_set_self hv] at h; cases h
      · rw [List.getElem?_eq_none (by simpa using hv)] at h; cases h
    · rw [List.getElem?_set_ne e] at h ⊢
      exact ih.val i t h

theorem wipe_idem (σ : L2.St) (vs : List Nat) : L2.wipe (L2.wipe σ vs) vs = L2.wipe σ vs := by
  apply List.ext_getElem?
  intro i
  rw [wipe_get, wipe_get, wipe_length]
  by_cases hi : i ∈ vs
  · rw [if_pos hi, if_pos hi]
  · rw [if_neg hi]
/-- the turns of [te for tg in .. if tt] -/
def lcLoop (x : Src) (G : FG) (tt : FT) (te : FE) (s : Slots) : List T → List T → Mem → Res (List T)
  | [], acc, M => if srcOk x M = true then .ok acc M else .stuck
  | y :: ys, acc, M => if srcOk x M = true then match G y s with
      | some s2 => (tt s2 M).noex.bind fun b M1 => if b = true then (te s2 M1).noex.bind fun z M2 => if acc.length < lim then lcLoop x G tt te s ys (acc ++ [z]) M2 else .stuck else lcLoop x G tt te s ys acc M1
      | none => .stuck
    else .stuck
/-- as a list that nobody changes; as a cell -/
def endL (cell : Bool) (ts : List T) (M : Mem) : Res T := if cell = true then .ok (.ref M.length) (M ++ [.lst ts]) else .ok (.lst ts) M
def fLcG (cell : Bool) (fi : FI) (G : FG) (tt : FT) (te : FE) (vs : List Nat) : FE := fun s M => (fi s M).bind fun x M1 => (lcLoop x G tt te (wipeS s vs) x.us [] M1).bind fun ts M2 => endL cell ts M2
abbrev fLc := fLcG false
abbrev fLcN := fLcG true
def gYes : FT := fun _ M => .ok true M

/-- within a list that is being made: D is ours -/
structure Mid (K : PySem.W.Frag) (β1 : Bag) (H1 : Hp) (D : Addr) (β : Bag) (H : Hp) (acc : List T) (M : Mem) : Prop where
  av : β.av = D :: β1.av
  mon : Mon β1 H1 β H
  keep : ∀ a ∈ β1.av, H a = H1 a
  rm : RM K β H M
  lst : ∃ vs, H D = some (.lst vs) ∧ RTs K β H acc vs
section
variable {K : PySem.W.Frag} {β1 β β' : Bag} {H1 H H' : Hp} {D : Addr} {acc : List T} {M M1 M' : Mem}
theorem Mid.start (rm : RM K β1 H1 M) (hD : H1 D = none) : Mid K β1 H1 D ⟨β1.hs, D :: β1.av⟩ (upd H1 D (.lst [])) [] M := by
  have nD := rm.fresh hD
  have mon : Mon β1 H1 ⟨β1.hs, D :: β1.av⟩ (upd H1 D (.lst [])) := by
    refine ⟨⟨[], by simp⟩, fun a u n e => ?_⟩
    have hne := ne_of_none e hD
    refine ⟨fun z => ?_, by rw [upd_ne hne]; exact e⟩
    rcases z with z | z
    · exact n (.inl z)
    · rcases List.mem_cons.mp z with z | z
      · exact hne z
      · exact n (.inr z)
  refine ⟨rfl, mon, fun a ha => upd_ne fun z => nD (.inr (z ▸ ha)), ⟨rm.len, rm.nd, fun n a c hb hc => (rm.cell n a c hb hc).mono mon (upd_ne fun z => nD (.inl (z ▸ List.mem_of_getElem? hb))), fun a ha => ?_⟩, ⟨[], upd_same, .nil⟩⟩
  rcases List.mem_cons.mp ha with z | ha
  · subst z
    exact ⟨fun z => nD (.inl z), _, upd_same⟩
  · obtain ⟨h1, u, h2⟩ := rm.avs a ha
    exact ⟨h1, u, by rw [upd_ne fun (z : a = D) => nD (.inr (z ▸ ha))]; exact h2⟩
/-- some code runs -/
theorem Mid.ext (m : Mid K β1 H1 D β H acc M) (e : Ext β H β' H') (rm : RM K β' H' M') : Mid K β1 H1 D β' H' acc M' := by
  obtain ⟨vs, h1, h2⟩ := m.lst
  refine ⟨e.av.trans m.av, m.mon.trans e.toMon, fun a ha => ?_, rm, ⟨vs, ?_, h2.up e⟩⟩
  · rw [e.keep a (by rw [m.av]; exact List.mem_cons_of_mem _ ha)]
    exact m.keep a ha
  · rw [e.keep D (by rw [m.av]; exact List.mem_cons_self)]
    exact h1
/-- one item more -/
theorem Mid.snoc (m : Mid K β1 H1 D β H acc M) {vs : List V} {t : T} {v : V} (h : H D = some (.lst vs)) (r : RTs K β H acc vs) (rt : RT K β H t v) (n1 : D ∉ β1.av) (n2 : H1 D = none) : Mid K β1 H1 D β (upd H D (.lst (vs ++ [v]))) (acc ++ [t]) M := by
  have own : D ∈ β.av := by rw [m.av]; exact List.mem_cons_self
  have mon : Mon β H β (upd H D (.lst (vs ++ [v]))) := ⟨⟨[], by simp⟩, fun a u n e => ⟨n, by rw [upd_ne fun (z : a = D) => n (.inr (z ▸ own))]; exact e⟩⟩
  have nD : D ∉ β.hs := (m.rm.avs D own).1
  refine ⟨m.av, m.mon.trans mon, fun a ha => by rw [upd_ne fun (z : a = D) => n1 (z ▸ ha)]; exact m.keep a ha, ⟨m.rm.len, m.rm.nd, fun n a c hb hc => (m.rm.cell n a c hb hc).mono mon (upd_ne fun (z : a = D) => nD (z ▸ List.mem_of_getElem? hb)), fun a ha => ?_⟩, ⟨_, upd_same, (RTs.mono mon _ _ r).snoc (RT.mono mon _ _ rt)⟩⟩
  obtain ⟨h1, u, h2⟩ := m.rm.avs a ha
  by_cases e : a = D
  · subst e
    exact ⟨h1, _, upd_same⟩
  · exact ⟨h1, u, by rw [upd_ne e]; exact h2⟩
theorem Mid.out (m : Mid K β1 H1 D β H acc M) : Mon β H ⟨β.hs, β1.av⟩ H := by
  refine ⟨⟨[], by simp⟩, fun a u n e => ⟨fun z => n ?_, e⟩⟩
  rcases z with z | z
  · exact .inl z
  · exact .inr (by rw [m.av]; exact List.mem_cons_of_mem _ z)
/-- it is done -/
theorem Mid.done (m : Mid K β1 H1 D β H acc M) (n1 : D ∉ β1.av) : Ext β1 H1 ⟨β.hs, β1.av⟩ H ∧ RM K ⟨β.hs, β1.av⟩ H M ∧ RT K ⟨β.hs, β1.av⟩ H (.lst acc) (.ref D) := by
  obtain ⟨vs, h1, h2⟩ := m.lst
  have out := m.out
  have own : D ∈ β.av := by rw [m.av]; exact List.mem_cons_self
  refine ⟨{ Mon.trans m.mon out with av := rfl, keep := m.keep }, ⟨m.rm.len, m.rm.nd, fun n a c hb hc => (m.rm.cell n a c hb hc).mono out rfl, fun a ha => ⟨(m.rm.avs a (by rw [m.av]; exact List.mem_cons_of_mem _ ha)).1, (m.rm.avs a (by rw [m.av]; exact List.mem_cons_of_mem _ ha)).2⟩⟩, ?_⟩
  simp only [RT]
  refine ⟨D, vs, rfl, fun z => ?_, h1, RTs.mono out _ _ h2⟩
  rcases z with z | z
  · exact (m.rm.avs D own).1 z
  · exact n1 z
/-- .. as a cell -/
theorem Mid.doneN (m : Mid K β1 H1 D β H acc M) (n1 : D ∉ β1.av) (n2 : H1 D = none) : Ext β1 H1 ⟨β.hs ++ [D], β1.av⟩ H ∧ RM K ⟨β.hs ++ [D], β1.av⟩ H (M ++ [.lst acc]) ∧ RT K ⟨β.hs ++ [D], β1.av⟩ H (.ref M.length) (.ref D) := by
  obtain ⟨vs, h1, h2⟩ := m.lst
  have own : D ∈ β.av := by rw [m.av]; exact List.mem_cons_self
  have nD : D ∉ β.hs := (m.rm.avs D own).1
  have mon : Mon β H ⟨β.hs ++ [D], β1.av⟩ H := by
    refine ⟨⟨[D], rfl⟩, fun a u n e => ⟨fun z => n ?_, e⟩⟩
    rcases z with z | z
    · rcases List.mem_append.mp z with z | z
      · exact .inl z
      · rw [List.mem_singleton.mp z]
        exact .inr own
    · exact .inr (by rw [m.av]; exact List.mem_cons_of_mem _ z)
  refine ⟨{ Mon.trans m.mon mon with av := rfl, keep := m.keep }, ⟨by simp [m.rm.len], ?_, fun n a c hb hc => ?_, fun a ha => ?_⟩, ?_⟩
  · show (β.hs ++ [D]).Nodup
    rw [List.nodup_append]
    refine ⟨m.rm.nd, by simp, fun a ha b hb e => ?_⟩
    rw [List.mem_singleton] at hb
    exact nD (by rw [← hb, ← e]; exact ha)
  · have hb : (β.hs ++ [D])[n]? = some a := hb
    by_cases hn : n < β.hs.length
    · rw [List.getElem?_append_left hn] at hb
      rw [List.getElem?_append_left (by rw [← m.rm.len]; exact hn)] at hc
      exact (m.rm.cell n a c hb hc).mono mon rfl
    · have hn' : n = β.hs.length := by
        obtain ⟨hl, _⟩ := List.getElem?_eq_some_iff.mp hb
        simp at hl; omega
      subst hn'
      rw [List.getElem?_append_right (Nat.le_refl _), Nat.sub_self] at hb
      rw [m.rm.len, List.getElem?_append_right (Nat.le_refl _), Nat.sub_self] at hc
      simp at hb hc
      subst hb; subst hc
      exact ⟨vs, h1, RTs.mono mon _ _ h2⟩
  · have hm : a ∈ β.av := by rw [m.av]; exact List.mem_cons_of_mem _ ha
    refine ⟨fun z => ?_, (m.rm.avs a hm).2⟩
    rcases List.mem_append.mp z with z | z
    · exact (m.rm.avs a hm).1 z
    · exact n1 (List.mem_singleton.mp z ▸ ha)
  · refine RT.adr_ ?_
    show (β.hs ++ [D])[M.length]? = some D
    rw [← m.rm.len]
    simp
end
theorem JIs.mono {K : PySem.W.Frag} {β0 β : Bag} {H0 H : Hp} {x : Src} {J : It} (h : JIs K β0 H0 x J) (e : Mon β0 H0 β H) : JIs K β H x J := fun β' H' M i e' => h β' H' M i (e.trans e')
theorem RS.mon {K : PySem.W.Frag} {β β' : Bag} {H H' : Hp} {s : Slots} {σ : L2.St} (r : RS K β H s σ) (e : Mon β H β' H') : RS K β' H' s σ := ⟨r.len, fun i t h => by
  obtain ⟨v, h1, h2⟩ := r.val i t h
  exact ⟨v, h1, RT.mono e _ _ h2⟩⟩
section
variable {K : PySem.W.Frag} {W : WX} {fi : FI} {G : FG} {tt : FT} {te : FE} {vs : List Nat} {cell : Bool}
/-- the turns of one for, within the list that stands at D -/
theorem turns_sound {α γ : Type} {R : Bag → Hp → α → γ → Prop} {σ σ2 : L2.St} {β1 β4 : Bag} {H1 H4 : Hp} {D : Addr} {x : Src} {J : It} {s2 : Slots} {acc0 : List T} {M4 : Mem} {F : List T → Mem → Res α} {Q : γ → Hp → Prop} {Nx : Hp → Prop}
    (mid : Mid K β1 H1 D β4 H4 acc0 M4) (n1 : D ∉ β1.av) (hD : H1 D = none) (rs : RS K β4 H4 s2 σ2) (hJ : JIs K β4 H4 x J)
    (sat : Sat K W σ R β1 H1 ((lcLoop x G tt te (wipeS s2 vs) x.us acc0 M4).bind F) Q)
    (fin : ∀ β H M acc, Mid K β1 H1 D β H acc M → Mon β4 H4 β H → Sat K W σ R β1 H1 (F acc M) Q → Nx H) :
    ∃ W1 : Nat → Nat → Hp → Prop, (∃ m, W1 0 m H4) ∧ ∀ i m H, W1 i m H → (J.stop i H ∧ Nx H) ∨ (J.go i H ∧ ∃ N1 : Hp → Prop, (∀ H', N1 H' → ∃ m', m' < m ∧ W1 (i + 1) m' H') ∧
      ∀ v H', J.yld i H v H' → tG K vs G v (L2.wipe σ2 vs) H' fun σ3 H5 => L2.wipe σ3 vs = L2.wipe σ2 vs ∧ tT K W0 tt σ3 H5 fun b H6 =>
        if b = true then tE K W0 te σ3 H6 fun y H7 => ∃ acc, H7 D = some (.lst acc) ∧ acc.length < sizeLine ∧ N1 (upd H7 D (.lst (acc ++ [y]))) else N1 H6) := by
  have rsW : RS K β4 H4 (wipeS s2 vs) (L2.wipe σ2 vs) := rs.wipe vs
  refine ⟨fun i m H => m = x.us.length - i ∧ i ≤ x.us.length ∧ ∃ β M acc, Mid K β1 H1 D β H acc M ∧ Mon β4 H4 β H ∧ Sat K W σ R β1 H1 ((lcLoop x G tt te (wipeS s2 vs) (x.us.drop i) acc M).bind F) Q,
    ⟨x.us.length, by simp, Nat.zero_le _, _, M4, acc0, mid, .refl, by simpa using sat⟩, ?_⟩
  rintro i m H ⟨rfl, hi, β, M, acc, mid, mon, sat⟩
  by_cases hlt : i < x.us.length
  · have hd : x.us.drop i = x.us[i] :: x.us.drop (i + 1) := List.drop_eq_getElem_cons hlt
    rw [hd] at sat
    unfold lcLoop at sat
    split at sat
    · rename_i ok
      obtain ⟨go, _⟩ := hJ β H M i mon mid.rm ok
      obtain ⟨g1, g2⟩ := go _ (List.getElem?_eq_getElem hlt)
      refine .inr ⟨g1, fun H' => ∃ β M acc, Mid K β1 H1 D β H' acc M ∧ Mon β4 H4 β H' ∧ Sat K W σ R β1 H1 ((lcLoop x G tt te (wipeS s2 vs) (x.us.drop (i + 1)) acc M).bind F) Q, fun H' w => ⟨_, by omega, rfl, hlt, w⟩, fun v H2 y => ?_⟩
      obtain ⟨e2, rm2, rt2⟩ := g2 v H2 y
      have mid2 := mid.ext e2 rm2
      have mon2 := mon.trans e2.toMon
      split at sat
      · rename_i s3 hs3
        refine ⟨β, wipeS s2 vs, _, s3, rsW.mon mon2, rt2, hs3, fun σ3 rs3 hw => ⟨hw.trans (wipe_idem σ2 vs), β, s3, M, rs3, rm2, ?_⟩⟩
        rw [Res.bind_bind] at sat
        refine Sat.noex sat ?_
        rintro b M3 β3 H3 b' e3 rm3 rfl sat3
        have mid3 := mid2.ext e3 rm3
        have mon3 := mon2.trans e3.toMon
        split at sat3
        · rename_i hb
          rw [if_pos hb]
          refine ⟨β3, s3, M3, rs3.mono e3, rm3, ?_⟩
          rw [Res.bind_bind] at sat3
          refine Sat.noex sat3 ?_
          intro z M4 β4 H4 w e4 rm4 rw4 sat4
          have mid4 := mid3.ext e4 rm4
          obtain ⟨us, l1, l2⟩ := mid4.lst
          split at sat4
          · rename_i hl
            have own : D ∈ β4.av := by rw [mid4.av]; exact List.mem_cons_self
            have step : Mon β4 H4 β4 (upd H4 D (.lst (us ++ [w]))) := ⟨⟨[], by simp⟩, fun a u n e => ⟨n, by rw [upd_ne fun (z : a = D) => n (.inr (z ▸ own))]; exact e⟩⟩
            exact ⟨us, l1, by rw [l2.length]; exact lim_lt (by omega), β4, M4, _, mid4.snoc l1 l2 rw4 n1 hD, (mon3.trans e4.toMon).trans step, sat4⟩
          · exact sat4.elim
        · rename_i hb
          rw [if_neg hb]
          exact ⟨β3, M3, acc, mid3, mon3, sat3⟩
      · exact sat.elim
    · exact sat.elim
  · have hie : i = x.us.length := by omega
    subst hie
    rw [List.drop_length] at sat
    unfold lcLoop at sat
    split at sat
    · rename_i ok
      obtain ⟨_, st⟩ := hJ β H M _ mon mid.rm ok
      exact .inl ⟨st rfl, fin β H M acc mid mon sat⟩
    · exact sat.elim
theorem end_sound {σ : L2.St} {β1 β : Bag} {H1 H : Hp} {D : Addr} {acc : List T} {M : Mem} {Q : VK} (mid : Mid K β1 H1 D β H acc M) (n1 : D ∉ β1.av) (hD : H1 D = none) (sat : Sat K W σ (RT K) β1 H1 (endL cell acc M) Q) : Q (.ref D) H := by
  unfold endL at sat
  split at sat
  · obtain ⟨a1, a2, a3⟩ := mid.doneN n1 hD
    exact sat _ H _ a1 a2 a3
  · obtain ⟨a1, a2, a3⟩ := mid.done n1
    exact sat _ H _ a1 a2 a3
theorem lc_sound {σ : L2.St} {H : Hp} {Q : VK} (h : tE K W (fLcG cell fi G tt te vs) σ H Q) : tLc (tI K W fi) (tG K vs G) (tT K W0 tt) (tE K W0 te) vs σ H Q := by
  obtain ⟨β, s, M, rs, rm, h⟩ := h
  refine ⟨β, s, M, rs, rm, Sat.bind h ?_⟩
  intro x M1 β1 H1 J e1 rm1 hJ h1 D hD
  have n1 : D ∉ β1.av := fun z => rm1.fresh hD (.inr z)
  have mid := Mid.start rm1 hD
  exact turns_sound mid n1 hD ((rs.mono e1).mon mid.mon) (hJ.mono mid.mon) h1 fun β H M acc m _ st => end_sound m n1 hD st

/-! ### two fors -/
def lc2Loop (x : Src) (G : FG) (tt : FT) (fi1 : FI) (G1 : FG) (tt1 : FT) (te : FE) (vs1 : List Nat) (s : Slots) : List T → List T → Mem → Res (List T)
  | [], acc, M => if srcOk x M = true then .ok acc M else .stuck
  | y :: ys, acc, M => if srcOk x M = true then match G y s with
      | some s2 => (tt s2 M).noex.bind fun b M1 => if b = true then (fi1 s2 M1).noex.bind fun x1 M2 => (lcLoop x1 G1 tt1 te (wipeS s2 vs1) x1.us acc M2).bind fun acc' M3 => lc2Loop x G tt fi1 G1 tt1 te vs1 s ys acc' M3
        else lc2Loop x G tt fi1 G1 tt1 te vs1 s ys acc M1
      | none => .stuck
    else .stuck
def fLc2G (cell : Bool) (fi : FI) (G : FG) (tt : FT) (fi1 : FI) (G1 : FG) (tt1 : FT) (te : FE) (vs vs1 : List Nat) : FE := fun s M => (fi s M).bind fun x M1 => (lc2Loop x G tt fi1 G1 tt1 te vs1 (wipeS s vs) x.us [] M1).bind fun ts M2 => endL cell ts M2
theorem lc2_sound {fi1 : FI} {G1 : FG} {tt1 : FT} {vs1 : List Nat} {σ : L2.St} {H : Hp} {Q : VK} (h : tE K W (fLc2G cell fi G tt fi1 G1 tt1 te vs vs1) σ H Q) :
    tLc2 (tI K W fi) (tG K vs G) (tT K W0 tt) (tI K W0 fi1) (tG K vs1 G1) (tT K W0 tt1) (tE K W0 te) vs vs1 σ H Q := by
  obtain ⟨β, s, M, rs, rm, h⟩ := h
  refine ⟨β, s, M, rs, rm, Sat.bind h ?_⟩
  intro x M1 β1 H1 J e1 rm1 hJ h1 D hD
  have n1 : D ∉ β1.av := fun z => rm1.fresh hD (.inr z)
  have mid0 := Mid.start rm1 hD
  have rsW : RS K β1 H1 (wipeS s vs) (L2.wipe σ vs) := (rs.mono e1).wipe vs
  refine ⟨fun i m H => m = x.us.length - i ∧ i ≤ x.us.length ∧ ∃ β M acc, Mid K β1 H1 D β H acc M ∧ Sat K W σ (RT K) β1 H1 ((lc2Loop x G tt fi1 G1 tt1 te vs1 (wipeS s vs) (x.us.drop i) acc M).bind fun ts M2 => endL cell ts M2) Q,
    ⟨x.us.length, by simp, Nat.zero_le _, _, M1, [], mid0, by simpa using h1⟩, ?_⟩
  rintro i m H ⟨rfl, hi, β, M, acc, mid, sat⟩
  by_cases hlt : i < x.us.length
  · have hd : x.us.drop i = x.us[i] :: x.us.drop (i + 1) := List.drop_eq_getElem_cons hlt
    rw [hd] at sat
    unfold lc2Loop at sat
    split at sat
    · rename_i ok
      obtain ⟨go, _⟩ := hJ β H M i mid.mon mid.rm ok
      obtain ⟨g1, g2⟩ := go _ (List.getElem?_eq_getElem hlt)
      refine .inr ⟨g1, fun H' => ∃ β M acc, Mid K β1 H1 D β H' acc M ∧ Sat K W σ (RT K) β1 H1 ((lc2Loop x G tt fi1 G1 tt1 te vs1 (wipeS s vs) (x.us.drop (i + 1)) acc M).bind fun ts M2 => endL cell ts M2) Q, fun H' w => ⟨_, by omega, rfl, hlt, w⟩, fun v H2 y => ?_⟩
      obtain ⟨e2, rm2, rt2⟩ := g2 v H2 y
      have mid2 := mid.ext e2 rm2
      split at sat
      · rename_i s3 hs3
        refine ⟨β, wipeS s vs, _, s3, rsW.mon mid2.mon, rt2, hs3, fun σ3 rs3 hw => ⟨hw.trans (wipe_idem σ vs), β, s3, M, rs3, rm2, ?_⟩⟩
        rw [Res.bind_bind] at sat
        refine Sat.noex sat ?_
        rintro b M3 β3 H3 b' e3 rm3 rfl sat3
        have mid3 := mid2.ext e3 rm3
        split at sat3
        · rename_i hb
          rw [if_pos hb]
          refine ⟨β3, s3, M3, rs3.mono e3, rm3, ?_⟩
          rw [Res.bind_bind] at sat3
          refine Sat.noex sat3 ?_
          intro x1 M4 β4 H4 J1 e4 rm4 hJ1 sat4
          have mid4 := mid3.ext e4 rm4
          rw [Res.bind_bind] at sat4
          exact turns_sound mid4 n1 hD ((rs3.mono e3).mono e4) hJ1 sat4 fun β H M acc m _ st => ⟨β, M, acc, m, st⟩
        · rename_i hb
          rw [if_neg hb]
          exact ⟨β3, M3, acc, mid3, sat3⟩
      · exact sat.elim
    · exact sat.elim
  · have hie : i = x.us.length := by omega
    subst hie
    rw [List.drop_length] at sat
    unfold lc2Loop at sat
    split at sat
    · rename_i ok
      obtain ⟨_, st⟩ := hJ β H M _ mid.mon mid.rm ok
      exact .inl ⟨st rfl, end_sound mid n1 hD sat⟩
    · exact sat.elim
end
section
variable {X : Cx} {W : WX} {elt tg iter : Expr} {ifs : List Expr} {scope : Scope} {own : List (Str × Nat)} {pos spos py : Pos} {fi : FI} {G : FG} {tt : FT} {te : FE} {cell : Bool}
theorem f_lcG (hc : X.calm = true) (hN : X.N.Nodup) (hi : PI X tg iter (tI X.K W fi)) (ok : BlkOk X.N X.env.scope scope own)
    (hg : ∀ (s : Shared) (H : Hp) (C : Addr) (cl : List (Str × Addr)) (fp : List Addr), PG (X.blk s H scope (compEnvC scope cl C X.env) fp) tg (tG X.K (own.map (·.2)) G))
    (ht : ∀ (s : Shared) (H : Hp) (C : Addr) (cl : List (Str × Addr)) (fp : List Addr), PTs (X.blk s H scope (compEnvC scope cl C X.env) fp) ifs (tT X.K W0 tt))
    (he : ∀ (s : Shared) (H : Hp) (C : Addr) (cl : List (Str × Addr)) (fp : List Addr), PE (X.blk s H scope (compEnvC scope cl C X.env) fp) elt (tE X.K W0 te)) (hs : ∀ x, foldedSetIterable iter X.env x = pure x := by intro _; rfl) :
    PE X (.ListComp elt [⟨tg, iter, ifs, 0⟩] scope pos) (tE X.K W (fLcG cell fi G tt te (own.map (·.2)))) :=
  peI (pe_lc hc hN hi ok hg ht he hs) fun σ H Q h => lc_sound h
theorem f_lc2G {tg1 iter1 : Expr} {ifs1 : List Expr} {vs1 : List Nat} {fi1 : FI} {G1 : FG} {tt1 : FT} (hc : X.calm = true) (hN : X.N.Nodup) (hi : PI X tg iter (tI X.K W fi)) (ok : BlkOk X.N X.env.scope scope own) (hv : ∀ i ∈ vs1, i ∈ own.map (·.2))
    (hg : ∀ (s : Shared) (H : Hp) (C : Addr) (cl : List (Str × Addr)) (fp : List Addr), PG (X.blk s H scope (compEnvC scope cl C X.env) fp) tg (tG X.K (own.map (·.2)) G))
    (ht : ∀ (s : Shared) (H : Hp) (C : Addr) (cl : List (Str × Addr)) (fp : List Addr), PTs (X.blk s H scope (compEnvC scope cl C X.env) fp) ifs (tT X.K W0 tt))
    (hi1 : ∀ (s : Shared) (H : Hp) (C : Addr) (cl : List (Str × Addr)) (fp : List Addr), PI (X.blk s H scope (compEnvC scope cl C X.env) fp) tg1 iter1 (tI X.K W0 fi1))
    (hg1 : ∀ (s : Shared) (H : Hp) (C : Addr) (cl : List (Str × Addr)) (fp : List Addr), PG (X.blk s H scope (compEnvC scope cl C X.env) fp) tg1 (tG X.K vs1 G1))
    (ht1 : ∀ (s : Shared) (H : Hp) (C : Addr) (cl : List (Str × Addr)) (fp : List Addr), PTs (X.blk s H scope (compEnvC scope cl C X.env) fp) ifs1 (tT X.K W0 tt1))
    (he : ∀ (s : Shared) (H : Hp) (C : Addr) (cl : List (Str × Addr)) (fp : List Addr), PE (X.blk s H scope (compEnvC scope cl C X.env) fp) elt (tE X.K W0 te)) (hs : ∀ x, foldedSetIterable iter X.env x = pure x := by intro _; rfl) (hs1 : ∀ env x, foldedSetIterable iter1 env x = pure x := by intro _ _; rfl) :
    PE X (.ListComp elt [⟨tg, iter, ifs, 0⟩, ⟨tg1, iter1, ifs1, 0⟩] scope pos) (tE X.K W (fLc2G cell fi G tt fi1 G1 tt1 te (own.map (·.2)) vs1)) :=
  peI (pe_lc2 hc hN hi ok hv hg ht hi1 hg1 ht1 he hs hs1) fun σ H Q h => lc2_sound h
theorem pts_none : PTs X [] (tT X.K W gYes) := ⟨fun pins s σ H Q I ⟨β, sl, M, rs, rm, h⟩ => pts_nil.run pins s σ H Q I (h β H true .refl rm rfl)⟩
theorem pts_if {c : Expr} {g : FT} (h : PT X c (tT X.K W g)) : PTs X [c] (tT X.K W g) := pts_one h
end
end Fl
set_option Elab.async false
set_option linter.all false
set_option maxRecDepth 100000
set_option maxHeartbeats 2000000
/-! Fl11: statements. -/
namespace Fl
open PySem PySem.Spec PyProof.Rows L2

def fNext : FS := fun s M => .nx s M
def fSeq (F G : FS) : FS := fun s M => (F s M).seq G
def fDrop (f : FE) : FS := fun s M => (f s M).st s fun _ M1 => .nx s M1
def fRet (f : FE) : FS := fun s M => (f s M).st s fun v M1 => .rt v M1
def fRetN : FS := fun _ M => .rt .non M
def fIfS (c : FT) (F G : FS) : FS := fun s M => (c s M).st s fun b M1 => if b = true then F s M1 else G s M1
def fAsg (f : FE) (G : FG) : FS := fun s M => (f s M).st s fun v M1 => match G v s with
  | some s2 => .nx s2 M1
  | none => .stuck
abbrev fSet (i : Nat) (f : FE) : FS := fAsg f (gNm i)
def fPar (i j : Nat) (g : FA) : FS := fun s M => (g s M).st s fun ts M1 => match ts with
  | [t, u] => .nx ((s.set i (some t)).set j (some u)) M1
  | _ => .stuck
def fBreak : FS := fun s M => .bk s M
def fCont : FS := fun s M => .ct s M
def fAug (i : Nat) (o : T → T → Mem → Res T) (f : FE) : FS := fun s M => match s[i]? with
  | some (some x) => ((f s M).bind fun y M1 => o x y M1).st s fun z M2 => .nx (s.set i (some z)) M2
  | _ => .stuck
/-- d[k] = v, xs[i] = v -/
def oPut (a b v : T) (M : Mem) : Res Unit := match a with
  | .ref n => match M[n]? with
    | some (.lst ts) => match b with
      | .int i => match ixN ts.length i with
        | some j => .ok () (M.set n (.lst (ts.set j v)))
        | none => .stuck
      | _ => .stuck
    | some (.dk kvs) => match keyT b with
      | some k => if kvs.length < lim then .ok () (M.set n (.dk (putT kvs k v))) else .stuck
      | none => .stuck
    | _ => .stuck
  | _ => .stuck
/-- the value ahead of the object, the object ahead of the key -/
def fPut (fo fk fv : FE) : FS := fun s M => ((fv s M).bind fun v M1 => (fo s M1).bind fun a M2 => (fk s M2).bind fun b M3 => oPut a b v M3).st s fun _ M4 => .nx s M4
/-- an end of a loop's turn -/
def SRes.turn (r : SRes) (k : Slots → Mem → SRes) : SRes := match r with
  | .nx s M => k s M
  | .ct s M => k s M
  | .bk s M => .nx s M
  | r => r
@[simp] theorem SRes.turn_nx (s : Slots) (M : Mem) (k : Slots → Mem → SRes) : (SRes.nx s M).turn k = k s M := rfl
@[simp] theorem SRes.turn_ct (s : Slots) (M : Mem) (k : Slots → Mem → SRes) : (SRes.ct s M).turn k = k s M := rfl
@[simp] theorem SRes.turn_bk (s : Slots) (M : Mem) (k : Slots → Mem → SRes) : (SRes.bk s M).turn k = .nx s M := rfl
@[simp] theorem SRes.turn_rt (v : T) (M : Mem) (k : Slots → Mem → SRes) : (SRes.rt v M).turn k = .rt v M := rfl
@[simp] theorem SRes.turn_ex (c : Value) (fs : List (Str × T)) (s : Slots) (M : Mem) (k : Slots → Mem → SRes) : (SRes.ex c fs s M).turn k = .ex c fs s M := rfl
@[simp] theorem SRes.turn_stuck (k : Slots → Mem → SRes) : (SRes.stuck).turn k = .stuck := rfl
def forL (x : Src) (G : FG) (B : FS) : List T → FS
  | [], s, M => if srcOk x M = true then .nx s M else .stuck
  | y :: ys, s, M => if srcOk x M = true then match G y s with
      | some s2 => (B s2 M).turn (forL x G B ys)
      | none => .stuck
    else .stuck
def fFor (fi : FI) (G : FG) (B : FS) : FS := fun s M => (fi s M).st s fun x M1 => forL x G B x.us s M1
def whileL (c : FT) (B : FS) : Nat → FS
  | 0, _, _ => .stuck
  | n + 1, s, M => (c s M).st s fun b M1 => if b = true then (B s M1).turn (whileL c B n) else .nx s M1
def fWhile (fu : Slots → Mem → Nat) (c : FT) (B : FS) : FS := fun s M => whileL c B (fu s M) s M

section
variable {X : Cx} {W : WX} {pos : Pos} {e : Expr} {f : FE} {st : Stmt} {rest : List Stmt} {F B : FS} {G : FS}
theorem s_nil : PSs X [] (tS X.K W fNext) := pssI pss_nil fun D σ H ⟨β, s, M, rs, rm, h⟩ => h β H σ .refl rm rs
theorem seq_sound {D : Ends} {σ : L2.St} {H : Hp} (h : tS X.K W (fSeq F G) D σ H) : tSeq (tS X.K W F) (tS X.K W G) D σ H := by
  obtain ⟨β, s, M, rs, rm, h⟩ := h
  exact ⟨β, s, M, rs, rm, SatS.seq h (fun _ _ q => q) (fun _ _ q => q) (fun _ _ q => q) fun s1 M1 β1 H1 σ1 e1 rm1 rs1 h1 => ⟨β1, s1, M1, rs1, rm1, h1⟩⟩
theorem s_cons (h1 : PS X st (tS X.K W F)) (h2 : PSs X rest (tS X.K W G)) : PSs X (st :: rest) (tS X.K W (fSeq F G)) := pssI (pss_cons h1 h2) fun D σ H h => seq_sound h
theorem s_one (h1 : PS X st (tS X.K W F)) : PSs X [st] (tS X.K W F) := pss_one h1
theorem s_pass : PS X (.Pass pos) (tS X.K W fNext) := psI ps_pass fun D σ H ⟨β, s, M, rs, rm, h⟩ => h β H σ .refl rm rs
theorem s_break : PS X (.Break pos) (tS X.K W fBreak) := psI ps_break fun D σ H ⟨β, s, M, rs, rm, h⟩ => h β H σ .refl rm rs
theorem s_cont : PS X (.Continue pos) (tS X.K W fCont) := psI ps_continue fun D σ H ⟨β, s, M, rs, rm, h⟩ => h β H σ .refl rm rs
theorem s_expr (he : PE X e (tE X.K W f)) (hs : swapsWith e none pos.line X.env = pure false := by rfl) : PS X (.Expr e pos) (tS X.K W (fDrop f)) := by
  refine psI (ps_expr he hs) fun D σ H ⟨β, s, M, rs, rm, h⟩ => ⟨β, s, M, rs, rm, Sat.st rs h ?_⟩
  intro a M1 β1 H1 x e1 rm1 rx h1
  exact h1 β1 H1 σ .refl rm1 (rs.mono e1)
theorem s_ret (he : PE X e (tE X.K W f)) : PS X (.Return (some e) pos) (tS X.K W (fRet f)) := by
  refine psI (ps_ret he) fun D σ H ⟨β, s, M, rs, rm, h⟩ => ⟨β, s, M, rs, rm, Sat.st rs h ?_⟩
  intro a M1 β1 H1 x e1 rm1 rx h1
  exact h1 β1 H1 x .refl rm1 rx
theorem s_retN : PS X (.Return none pos) (tS X.K W fRetN) := psI ps_retN fun D σ H ⟨β, s, M, rs, rm, h⟩ => h β H .non .refl rm (by simp only [RT])
theorem s_if {c : Expr} {a b : List Stmt} {gc : FT} (hc : PT X c (tT X.K W gc)) (ha : PSs X a (tS X.K W F)) (hb : PSs X b (tS X.K W G)) : PS X (.If c a b pos) (tS X.K W (fIfS gc F G)) := by
  refine psI (ps_if hc ha hb) fun D σ H ⟨β, s, M, rs, rm, h⟩ => ⟨β, s, M, rs, rm, Sat.st rs h ?_⟩
  rintro b M1 β1 H1 x e1 rm1 rfl h1
  split at h1
  · rename_i hb
    rw [if_pos hb]
    exact ⟨β1, s, M1, rs.mono e1, rm1, h1⟩
  · rename_i hb
    rw [if_neg hb]
    exact ⟨β1, s, M1, rs.mono e1, rm1, h1⟩
theorem asg_sound {K : PySem.W.Frag} {is : List Nat} {Gt : FG} {D : Ends} {σ : L2.St} {H : Hp} (h : tS K W (fAsg f Gt) D σ H) : tAsg (tE K W f) (tG K is Gt) D σ H := by
  obtain ⟨β, s, M, rs, rm, h⟩ := h
  refine ⟨β, s, M, rs, rm, Sat.st rs h ?_⟩
  intro v M1 β1 H1 x e1 rm1 rx h1
  split at h1
  · rename_i s2 hs2
    exact ⟨β1, s, v, s2, rs.mono e1, rx, hs2, fun σ2 rs2 _ => h1 β1 H1 σ2 .refl rm1 rs2⟩
  · exact h1.elim
theorem set_sound {K : PySem.W.Frag} {i : Nat} {D : Ends} {σ : L2.St} {H : Hp} (h : tS K W (fSet i f) D σ H) : tAsg (tE K W f) (L2.gName i) D σ H := by
  obtain ⟨β, s, M, rs, rm, h⟩ := h
  refine ⟨β, s, M, rs, rm, Sat.st rs h ?_⟩
  intro v M1 β1 H1 x e1 rm1 rx h1
  exact h1 β1 H1 _ .refl rm1 ((rs.mono e1).set rx)
/-- name = value -/
theorem s_set {i : Nat} {x : Str} {pos' : Pos} (hN : X.N.Nodup) (he : PE X e (tE X.K W f)) (hi : X.N[i]? = some x := by rfl) (hx : Loc X.env.scope x := by first | exact Or.inl rfl | exact Or.inr rfl) (hs : swapsWith e (some (.Name x pos')) pos.line X.env = pure false := by rfl) (hf : X.fn x = true ∨ X.env.scope.names.lookup x = some .local := by first | exact .inl rfl | exact .inr rfl | assumption) :
    PS X (.Assign [.Name x pos'] e pos) (tS X.K W (fSet i f)) := psI (ps_set hN hi hx he hs hf) fun D σ H h => set_sound h
/-- a, b = value -/
theorem s_asg {tg : Expr} {is : List Nat} {Gt : FG} (he : PE X e (tE X.K W f)) (hg : PG X tg (tG X.K is Gt)) (hs : swapsWithSole [tg] e pos.line X.env = pure false := by rfl) (hw : swappedStores [tg] e X.env = pure none := by rfl)
    (h1 : (assignEach [tg] X.env).map (·.2) = [assign tg X.env] := by rfl) : PS X (.Assign [tg] e pos) (tS X.K W (fAsg f Gt)) := psI (ps_asg he hg hs hw h1) fun D σ H h => asg_sound h
theorem s_par {i j : Nat} {x y : Str} {a b : Expr} {g : FA} {px py pt : Pos} {kt k2 pt2} (hc : X.calm = true) (hN : X.N.Nodup) (ha : PA X [a, b] (tA X.K W g)) (hij : i ≠ j) (hi : X.N[i]? = some x := by rfl) (hj : X.N[j]? = some y := by rfl)
    (hx : X.env.scope.names.lookup x = some .local := by rfl) (hy : X.env.scope.names.lookup y = some .local := by rfl)
    (hw : swappedStores [.Tuple [.Name x px, .Name y py] kt pt] (.Tuple [a, b] k2 pt2) X.env = pure (some [x, y]) := by rfl)
    (hs : swapsWithSole [.Tuple [.Name x px, .Name y py] kt pt] (.Tuple [a, b] k2 pt2) pos.line X.env = pure false := by rfl) :
    PS X (.Assign [.Tuple [.Name x px, .Name y py] kt pt] (.Tuple [a, b] k2 pt2) pos) (tS X.K W (fPar i j g)) := by
  refine psI (ps_par hc hN hi hj hij hx hy ha hw hs) fun D σ H ⟨β, s, M, rs, rm, h⟩ => ⟨β, s, M, rs, rm, Sat.st rs h ?_⟩
  intro ts M1 β1 H1 xs e1 rm1 rx h1
  split at h1
  · obtain ⟨v, q, rfl, h2, h3⟩ := rx.uncons
    obtain ⟨v', q', rfl, h4, h5⟩ := h3.uncons
    have e := h5.nil_of
    subst e
    exact ⟨v, v', rfl, h1 β1 H1 _ .refl rm1 (((rs.mono e1).set h2).set h4)⟩
  · exact h1.elim
/-- d[k] = v, xs[i] = v -/
def tPutA (o k v : TE) : TS := fun D σ H => v σ H fun z H1 => o σ H1 fun x H2 => k σ H2 fun y H3 => (∃ a H4, x = .ref a ∧ DPut H3 a y z H4 ∧ D.nx σ H4) ∨ rSetL x y z H3 fun H4 => D.nx σ H4
theorem ps_putA {o i value : Expr} {td ty tv : TE} {pos' : Pos} (hu : X.A.units + 1 < cLine) (ho : PE X o td) (hi : PE X i ty) (hv : PE X value tv) (hs : swapsWith value (some (.Subscript o i pos')) pos.line X.env = pure false) :
    PS X (.Assign [.Subscript o i pos'] value pos) (tPutA td ty tv) := by
  refine ⟨fun pins s σ H D I h => ?_⟩
  refine wpAny_Assign_Subscript (thn (hv.run pins s σ H _ I h) fun r s1 ⟨v, H1, I1, rv, q1⟩ => thn (ho.run pins s1 σ H1 _ I1 q1) fun u s2 ⟨x, H2, I2, rx, q2⟩ => thn (hi.run pins s2 σ H2 _ I2 q2) ?_) hs
  rintro iv s3 ⟨y, H3, I3, ry, ⟨a, H4, rfl, g, q3⟩ | q3⟩
  · cases rx
    exact d_setItem hu I3 g ry rv fun s4 I4 => ⟨σ, H4, I4, q3⟩
  · exact thn (set_list pins s3 σ H3 x y v u iv r _ I3 rx ry rv q3) fun _ s4 ⟨H4, I4, q4⟩ => ⟨σ, H4, I4, q4⟩
theorem s_put {o i value : Expr} {fo fk fv : FE} {pos' : Pos} (hu : X.A.units + 1 < cLine) (ho : PE X o (tE X.K W fo)) (hi : PE X i (tE X.K W fk)) (hv : PE X value (tE X.K W fv)) (hs : swapsWith value (some (.Subscript o i pos')) pos.line X.env = pure false := by rfl) :
    PS X (.Assign [.Subscript o i pos'] value pos) (tS X.K W (fPut fo fk fv)) := by
  refine psI (ps_putA hu ho hi hv hs) fun D σ H ⟨β, s, M, rs, rm, h⟩ => ?_
  have h0 : Sat X.K W σ (fun _ _ (_ : Unit) (_ : Unit) => True) β H ((fv s M).bind fun v M1 => (fo s M1).bind fun a M2 => (fk s M2).bind fun b M3 => oPut a b v M3) fun _ H' => D.nx σ H' :=
    Sat.st rs h fun _ M1 β1 H1 _ e1 rm1 _ h1 => h1 β1 H1 σ .refl rm1 (rs.mono e1)
  refine ⟨β, s, M, rs, rm, Sat.bind h0 ?_⟩
  intro v M1 β1 H1 z e1 rm1 rz h1
  refine ⟨β1, s, M1, rs.mono e1, rm1, Sat.bind h1 ?_⟩
  intro a M2 β2 H2 x e2 rm2 rx h2
  refine ⟨β2, s, M2, (rs.mono e1).mono e2, rm2, Sat.bind h2 ?_⟩
  intro b M3 β3 H3 y e3 rm3 ry h3
  have rx := rx.up e3
  have rz := (rz.up e2).up e3
  unfold oPut at h3
  split at h3
  · rename_i n
    simp only [RT] at rx
    obtain ⟨p, rfl, hb⟩ := rx
    have hm := List.mem_of_getElem? hb
    split at h3
    · rename_i ts hM
      obtain ⟨vs, g1, g2⟩ := rm3.cell _ p _ hb hM
      split at h3
      · rename_i i
        simp only [RT] at ry
        subst ry
        split at h3
        · rename_i j hj
          have ew := Ext.write (o := .lst (vs.set j z)) rm3 hm
          exact .inr ⟨p, vs, i, j, rfl, rfl, g1, by rw [g2.length]; exact hj, h3 β3 _ () ew (rm3.write hb ⟨_, upd_same, (RTs.set rz j g2).up ew⟩) trivial⟩
        · exact h3.elim
      · exact h3.elim
    · rename_i kvs hM
      obtain ⟨us, g1, g2, g3⟩ := rm3.cell _ p _ hb hM
      split at h3
      · rename_i k hk
        split at h3
        · rename_i hl
          have ek := key_rel hk ry
          subst ek
          have el : us.length = kvs.length := by simpa using congrArg List.length g2
          have ew := Ext.write (o := .dK (putK us k z)) rm3 hm
          obtain ⟨p1, p2⟩ := put_rel rz g2 g3 (k := k)
          exact .inl ⟨p, _, rfl, DPut.k g1 (by rw [el]; exact lim_lt (by omega)), h3 β3 _ () ew (rm3.write hb ⟨_, upd_same, p1, p2.up ew⟩) trivial⟩
        · exact h3.elim
      · exact h3.elim
    · exact h3.elim
  · exact h3.elim
/-- a op= b, by what the operator gives -/
def IpF (X : Cx) (op : Operator) (o : T → T → Mem → Res T) : Prop := ∃ r : TIp, PIp X op r ∧
  ∀ (W : WX) (σ : L2.St) (β : Bag) (M : Mem) (H : Hp) (x y : V) (a b : T) (Q : VK), RM X.K β H M → RT X.K β H a x → RT X.K β H b y → Sat X.K W σ (RT X.K) β H (o a b M) Q → r x y H Q
def oAddI (a b : T) (M : Mem) : Res T := match a, b with
  | .int i, .int j => .ok (.int (i + j)) M
  | _, _ => .stuck
theorem ip_addI : IpF X .Add oAddI := by
  refine ⟨_, ip_add, fun W σ β M H x y a b Q rm ra rb h => ?_⟩
  unfold oAddI at h
  split at h
  · simp only [RT] at ra rb
    exact ⟨_, _, ra, rb, h β H _ .refl rm (by simp only [RT])⟩
  · exact h.elim
theorem ip_subI : IpF X .Sub oSub := by
  refine ⟨_, ip_sub, fun W σ β M H x y a b Q rm ra rb h => ?_⟩
  unfold oSub at h
  split at h
  · simp only [RT] at ra rb
    exact ⟨_, _, ra, rb, h β H _ .refl rm (by simp only [RT])⟩
  · exact h.elim
theorem s_aug {i : Nat} {x : Str} {op : Operator} {o : T → T → Mem → Res T} {pos' : Pos} (hN : X.N.Nodup) (ho : IpF X op o) (he : PE X e (tE X.K W f)) (hi : X.N[i]? = some x := by rfl) (hx : Loc X.env.scope x := by first | exact Or.inl rfl | exact Or.inr rfl) (hf : X.fn x = true ∨ X.env.scope.names.lookup x = some .local := by first | exact .inl rfl | exact .inr rfl | assumption) :
    PS X (.AugAssign (.Name x pos') op e pos) (tS X.K W (fAug i o f)) := by
  obtain ⟨r, hr, hk⟩ := ho
  refine psI (ps_aug hN hi hx he hr hf) fun D σ H ⟨β, s, M, rs, rm, h⟩ => ?_
  unfold fAug at h
  split at h
  · rename_i a ha
    obtain ⟨v, k1, k2⟩ := rs.val i a ha
    have h0 : Sat X.K W σ (RT X.K) β H ((f s M).bind fun y M1 => o a y M1) fun z H' => D.nx (σ.set i (some z)) H' :=
      Sat.st rs h fun t M1 β1 H1 z e1 rm1 rz h1 => h1 β1 H1 _ .refl rm1 ((rs.mono e1).set rz)
    refine ⟨v, k1, β, s, M, rs, rm, Sat.bind h0 ?_⟩
    intro b M1 β1 H1 y e1 rm1 ry h1
    exact hk W σ β1 M1 H1 v y a b _ rm1 (k2.up e1) ry h1
  · exact h.elim
theorem s_for {tg iter : Expr} {body : List Stmt} {fi : FI} {Gt : FG} {is : List Nat} (hp : PassesOwn (model X.prog X.w) X.A X.env X.xe) (hc : X.calm = true) (hi : PI X tg iter (tI X.K W fi)) (hg : PG X tg (tG X.K is Gt)) (hb : PSs X body (tS X.K W B))
    (hs : ∀ x, foldedSetIterable iter X.env x = pure x := by intro _; rfl) : PS X (.For tg iter body [] pos) (tS X.K W (fFor fi Gt B)) := by
  refine psI (ps_for hp hc hi hg hb hs) fun D σ H ⟨β, s, M, rs, rm, h⟩ => ⟨β, s, M, rs, rm, Sat.st rs h ?_⟩
  intro x M1 β1 H1 J e1 rm1 hJ h1
  refine ⟨fun i m σ H => m = x.us.length - i ∧ i ≤ x.us.length ∧ ∃ β s M, Ext β1 H1 β H ∧ RM X.K β H M ∧ RS X.K β H s σ ∧ SatS X.K W D β H (forL x Gt B (x.us.drop i) s M),
    ⟨x.us.length, by simp, Nat.zero_le _, β1, s, M1, .refl, rm1, rs.mono e1, by simpa using h1⟩, ?_⟩
  rintro i m σ H ⟨rfl, hi, β, s, M, ex, rm, rs, sat⟩
  by_cases hlt : i < x.us.length
  · have hd : x.us.drop i = x.us[i] :: x.us.drop (i + 1) := List.drop_eq_getElem_cons hlt
    rw [hd] at sat
    unfold forL at sat
    split at sat
    · rename_i ok
      obtain ⟨go, _⟩ := hJ β H M i ex.toMon rm ok
      obtain ⟨g1, g2⟩ := go _ (List.getElem?_eq_getElem hlt)
      refine .inr ⟨g1, fun σ' H' => ∃ β s M, Ext β1 H1 β H' ∧ RM X.K β H' M ∧ RS X.K β H' s σ' ∧ SatS X.K W D β H' (forL x Gt B (x.us.drop (i + 1)) s M), fun σ' H' w => ⟨_, by omega, rfl, hlt, w⟩, fun v H2 y => ?_⟩
      obtain ⟨e2, rm2, rt2⟩ := g2 v H2 y
      split at sat
      · rename_i s2 hs2
        refine ⟨β, s, _, s2, rs.mono e2, rt2, hs2, fun σ2 rs2 _ => ⟨β, s2, M, rs2, rm2, ?_⟩⟩
        have sat := SatS.mono sat e2
        cases hB : B s2 M with
        | nx s3 M3 =>
          rw [hB] at sat
          exact fun β' H' σ' e' rm' rs' => ⟨β', s3, M3, (ex.trans e2).trans e', rm', rs', SatS.mono sat e'⟩
        | ct s3 M3 =>
          rw [hB] at sat
          exact fun β' H' σ' e' rm' rs' => ⟨β', s3, M3, (ex.trans e2).trans e', rm', rs', SatS.mono sat e'⟩
        | bk s3 M3 => rw [hB] at sat; exact sat
        | rt v M3 => rw [hB] at sat; exact sat
        | ex c fs s3 M3 => rw [hB] at sat; exact sat
        | stuck => rw [hB] at sat; exact sat
      · exact sat.elim
    · exact sat.elim
  · have hie : i = x.us.length := by omega
    subst hie
    rw [List.drop_length] at sat
    unfold forL at sat
    split at sat
    · rename_i ok
      obtain ⟨_, st⟩ := hJ β H M _ ex.toMon rm ok
      exact .inl ⟨st rfl, sat β H σ .refl rm rs⟩
    · exact sat.elim
theorem s_while {c : Expr} {body : List Stmt} {gc : FT} (fu : Slots → Mem → Nat) (hp : PassesOwn (model X.prog X.w) X.A X.env X.xe) (hc : PT X c (tT X.K W gc)) (hb : PSs X body (tS X.K W B)) : PS X (.While c body [] pos) (tS X.K W (fWhile fu gc B)) := by
  refine psI (ps_while hp hc hb) fun D σ H ⟨β, s, M, rs, rm, h⟩ => ?_
  refine ⟨fun m σ H => ∃ β s M, RM X.K β H M ∧ RS X.K β H s σ ∧ SatS X.K W D β H (whileL gc B m s M), ⟨fu s M, β, s, M, rm, rs, h⟩, ?_⟩
  rintro m σ H ⟨β, s, M, rm, rs, sat⟩
  cases m with
  | zero => exact sat.elim
  | succ m =>
    unfold whileL at sat
    refine ⟨β, s, M, rs, rm, Sat.st rs sat ?_⟩
    rintro b M1 β1 H1 b' e1 rm1 rfl h1
    split at h1
    · rename_i hb
      rw [if_pos hb]
      refine ⟨fun σ' H' => ∃ β s M, RM X.K β H' M ∧ RS X.K β H' s σ' ∧ SatS X.K W D β H' (whileL gc B m s M), fun σ' H' w => ⟨m, Nat.lt_succ_self m, w⟩, β1, s, M1, rs.mono e1, rm1, ?_⟩
      cases hB : B s M1 with
      | nx s3 M3 =>
        rw [hB] at h1
        exact fun β' H' σ' e' rm' rs' => ⟨β', s3, M3, rm', rs', SatS.mono h1 e'⟩
      | ct s3 M3 =>
        rw [hB] at h1
        exact fun β' H' σ' e' rm' rs' => ⟨β', s3, M3, rm', rs', SatS.mono h1 e'⟩
      | bk s3 M3 => rw [hB] at h1; exact h1
      | rt v M3 => rw [hB] at h1; exact h1
      | ex c fs s3 M3 => rw [hB] at h1; exact h1
      | stuck => rw [hB] at h1; exact h1
    · rename_i hb
      rw [if_neg hb]
      exact h1 β1 H1 σ .refl rm1 (rs.mono e1)
end
section
variable {X : Cx} {W : WX} {elt tg iter : Expr} {ifs : List Expr} {scope : Scope} {own : List (Str × Nat)} {pos spos py : Pos} {fi : FI} {G : FG} {tt : FT} {te : FE} {cell : Bool}
/-- name = [..], on one line, the name a local -/
theorem s_lc {i : Nat} {y : Str} (hc : X.calm = true) (hN : X.N.Nodup) (hi : PI X tg iter (tI X.K W fi)) (ok : BlkOk X.N X.env.scope scope own)
    (hg : ∀ (s : Shared) (H : Hp) (C : Addr) (cl : List (Str × Addr)) (fp : List Addr), PG (X.blk s H scope (compEnvC scope cl C X.env) fp) tg (tG X.K (own.map (·.2)) G))
    (ht : ∀ (s : Shared) (H : Hp) (C : Addr) (cl : List (Str × Addr)) (fp : List Addr), PTs (X.blk s H scope (compEnvC scope cl C X.env) fp) ifs (tT X.K W0 tt))
    (he : ∀ (s : Shared) (H : Hp) (C : Addr) (cl : List (Str × Addr)) (fp : List Addr), PE (X.blk s H scope (compEnvC scope cl C X.env) fp) elt (tE X.K W0 te))
    (hsw : swapsWith (.ListComp elt [⟨tg, iter, ifs, 0⟩] scope pos) (some (.Name y py)) spos.line X.env = pure true := by exact sw_true rfl rfl rfl (by decide +kernel))
    (hy : X.N[i]? = some y := by rfl) (hyl : X.env.scope.names.lookup y = some .local := by rfl) (hs : ∀ x, foldedSetIterable iter X.env x = pure x := by intro _; rfl) :
    PS X (.Assign [.Name y py] (.ListComp elt [⟨tg, iter, ifs, 0⟩] scope pos) spos) (tS X.K W (fSet i (fLcG cell fi G tt te (own.map (·.2))))) := by
  refine psI (ps_setLc hc hN hy hyl hsw hi ok hg ht he hs) fun D σ H h => ?_
  obtain ⟨β, s, M, rs, rm, h⟩ := h
  refine lc_sound (K := X.K) (W := W) (cell := cell) ⟨β, s, M, rs, rm, Sat.st rs h ?_⟩
  intro v M1 β1 H1 x e1 rm1 rx h1
  exact h1 β1 H1 _ .refl rm1 ((rs.mono e1).set rx)
end
end Fl
set_option Elab.async false
set_option linter.all false
set_option maxRecDepth 100000
set_option maxHeartbeats 2000000
/-! Fl12: defs, calls, the law's end. -/
namespace Fl
open PySem PySem.Spec PyProof.Rows L2

/-- a def computes g, called where nothing is being shown by repr -/
structure FnG (P : Program) (w : World) (K : PySem.W.Frag) (mg : Str → Option Value) (base : Heap) (k : Nat) (f : Addr) (fd : FuncData) (ps : List Str) (g : List T → Mem → Res T) : Prop where
  run : ∀ (A : Around) (outer : List Env) (s : Shared) (H : Hp) (args : Args) (us : List Value) (vs : List V) (ts : List T) (β : Bag) (M : Mem) (Q : VK) (E : XK), Room k A → A.guards = some [] → Env0 P w K mg base A outer s H →
    BindsTo s fd args (ps.zip us) → Vals vs us → RTs K β H ts vs → ts.length = ps.length → RM K β H M → Sat K (fun c d _ H => E c d H) [] (RT K) β H (g ts M) Q → codeAny (model P w) A (.call (.ref f) args) (CR (L2.CX P w) outer P w H s Q E) s
def startS (N : List Str) (ts : List T) : Slots := ts.map some ++ List.replicate (N.length - ts.length) none
def SRes.res : SRes → Res T
  | .rt v M => .ok v M
  | .nx _ M => .ok .non M
  | .ex c fs _ M => .ex c fs M
  | _ => .stuck
def fnRes (N : List Str) (B : FS) (ts : List T) (M : Mem) : Res T := (B (startS N ts) M).res
section
variable {K : PySem.W.Frag} {β : Bag} {H : Hp}
theorem start_rel {N : List Str} {ts : List T} {vs : List V} (r : RTs K β H ts vs) : RS K β H (startS N ts) (L2.start N vs) := by
  unfold startS L2.start
  refine ⟨by simp [r.length], fun i t h => ?_⟩
  by_cases hi : i < ts.length
  · rw [List.getElem?_append_left (by simpa using hi), List.getElem?_map] at h
    cases q : ts[i]? with
    | none => rw [q] at h; cases h
    | some t' =>
      rw [q] at h
      simp only [Option.map_some, Option.some.injEq] at h
      subst h
      obtain ⟨v, h1, h2⟩ := r.get q
      refine ⟨v, ?_, h2⟩
      rw [List.getElem?_append_left (by rw [List.length_map, r.length]; exact hi), List.getElem?_map, h1]
      rfl
  · rw [List.getElem?_append_right (by simpa using hi), List.getElem?_replicate] at h
    split at h <;> cases h
end
section
variable {P : Program} {w : World} {K : PySem.W.Frag} {mg : Str → Option Value} {base : Heap} {k : Nat}
theorem FnG.mono {j : Nat} {f : Addr} {fd : FuncData} {ps : List Str} {g : List T → Mem → Res T} (F : FnG P w K mg base j f fd ps g) (h : j ≤ k) : FnG P w K mg base k f fd ps g :=
  ⟨fun A outer s H args us vs ts β M Q E hr => F.run A outer s H args us vs ts β M Q E (hr.mono h)⟩
/-- where g2 is not stuck g1 is the same: then g2 will do -/
theorem FnG.imp {f : Addr} {fd : FuncData} {ps : List Str} {g1 g2 : List T → Mem → Res T} (F : FnG P w K mg base k f fd ps g1) (h : ∀ ts M, ts.length = ps.length → g2 ts M = .stuck ∨ g1 ts M = g2 ts M) : FnG P w K mg base k f fd ps g2 :=
  ⟨fun A outer s H args us vs ts β M Q E hr hg e0 hb rv rt hl rm sat => F.run A outer s H args us vs ts β M Q E hr hg e0 hb rv rt hl rm (by
    rcases h ts M hl with e | e
    · rw [e] at sat; exact sat.elim
    · rw [e]; exact sat)⟩
theorem FnG.of_body {f : Addr} {name qual : Str} {params : Arguments} {body : List Stmt} {scope : Scope} {dV kV doc pm cdv ct oc : Value} {an od : Option Addr} {osl : Array (Option Value)} {N ps : List Str} {B : FS}
    (lk : K.lookup f = some ⟨oc, od, .func (PySem.W.fnOf name qual params body scope dV kV doc pm an cdv ct), osl⟩) (hcd : PySem.W.codeIn K cdv qual = true) (S : FnScope N ps scope)
    (hbody : ∀ (A : Around) (outer : List Env) (s : Shared) (H : Hp) (E : XK), Room k (A.deeper (envOfC qual scope s.heap.objs.size f cdv)) → A.guards = some [] →
      PSs (cxOf (L2.CX P w) P w K mg base N qual scope f cdv A outer s H E) body (tS K (fun c d _ H => E c d H) B)) :
    FnG P w K mg base (k + 1) f (PySem.W.fnOf name qual params body scope dV kV doc pm an cdv ct) ps (fnRes N B) := by
  refine ⟨fun A outer s H args us vs ts β M Q E hr hg e0 hb rv rt hl rm sat => ?_⟩
  have hlv : vs.length = ps.length := rt.length.trans hl
  have up := fun b o e => (e0.bs b o e).1
  have KX : K.In s.heap := e0.mod.kin.keeps up
  have bound : ∀ y ∈ ps.zip us, scope.names.lookup y.1 = some .local ∨ (scope.names.lookup y.1 = some .cell ∧ ((cellsFrom (s.heap.objs.size + 1) scope.names []).lookup y.1).isSome = true) := by
    intro y hy
    exact (S.par y.1 (List.of_mem_zip hy).1).imp id fun q => ⟨q, PySem.W.cellsFrom_some _ _ _ (.inl q)⟩
  refine codeAny_call_function hr.depth (KX _ _ lk) rfl S.co S.gen rfl (PySem.W.codeRec_of KX hcd) (hb _ _ _ _ (wpAny_newFunctionEnv_cells S.kind bound ?_))
  rintro env rfl s1 x
  refine ⟨(e0.mod.nolimit.keeps up).keeps x.toInCall.keep, codeAny_func ?_⟩
  have I := inv_start (CX := L2.CX P w) (E := E) S hr.hd e0 hlv rv x
  have hq : tS K (fun c d _ H => E c d H) B { nx := fun _ H' => Q .non H', rt := Q } (L2.start N vs) H := by
    refine ⟨β, startS N ts, M, start_rel rt, rm, ?_⟩
    unfold fnRes at sat
    cases hB : B (startS N ts) M with
    | nx s2 M2 =>
      rw [hB] at sat
      exact fun β' H' σ' e' rm' _ => sat β' H' .non e' rm' (by simp only [RT])
    | rt v M2 => rw [hB] at sat; exact sat
    | ex c fs s2 M2 =>
      rw [hB] at sat
      exact fun β' H' σ' d e' rm' _ rx => sat β' H' d e' rm' rx
    | bk s2 M2 => rw [hB] at sat; exact sat.elim
    | ct s2 M2 => rw [hB] at sat; exact sat.elim
    | stuck => rw [hB] at sat; exact sat.elim
  refine wpAny_mono ((hbody A outer s H E (hr.deeper _) hg).run [] s1 _ H _ I hq) (fun fl s' hs => ?_) fun _ _ hs => hs
  cases fl with
  | ret u =>
    obtain ⟨v, σ', H', J, rv', q⟩ := hs
    exact ⟨v, H', J.os, J.bare, J.base, J.hok, rv', q⟩
  | next =>
    obtain ⟨σ', H', J, q⟩ := hs
    exact ⟨.non, H', J.os, J.bare, J.base, J.hok, rfl, q⟩
  | brk => exact hs.elim fun _ h => h.elim fun _ h => h.2.elim
  | cont => exact hs.elim fun _ h => h.elim fun _ h => h.2.elim
/-- a def of the text -/
theorem fun_G {x qual : Str} {st : Stmt} {f : Addr} {fd : FuncData} {N ps : List Str} {B : FS} (F : Fun K x qual st f fd) (S : FnScope N ps (defScope st))
    (hbody : ∀ (cdv : Value) (A : Around) (outer : List Env) (s : Shared) (H : Hp) (E : XK), Room k (A.deeper (envOfC qual (defScope st) s.heap.objs.size f cdv)) → A.guards = some [] →
      PSs (cxOf (L2.CX P w) P w K mg base N qual (defScope st) f cdv A outer s H E) (defBody st) (tS K (fun c d _ H => E c d H) B)) : FnG P w K mg base (k + 1) f fd ps (fnRes N B) := by
  obtain ⟨oc, od, kV, doc, pm, an, cdv, ct, osl, rfl, lk, hcd⟩ := F.ex
  exact FnG.of_body lk hcd S fun A outer s H E hr hg => hbody cdv A outer s H E hr hg
end

/-! ### calls -/
def fCall (g : List T → Mem → Res T) (dts : List T) (n : Nat) (ga : FA) : FE := fun s M => (ga s M).bind fun ts M1 => if ts.length + dts.length = n then g (ts ++ dts) M1 else .stuck
section
variable {X : Cx} {W : WX} {k : Nat} {f : Addr} {fd : FuncData} {ps : List Str} {g : List T → Mem → Res T} {dvs : List V} {ds : List Value} {dts : List T} {x : Str} {p pos : Pos} {e : Expr} {es : List Expr} {ga : FA} {n : Nat}
theorem sat_at {K : PySem.W.Frag} {σ σ' : L2.St} {β : Bag} {H : Hp} {r : Res T} {Q : VK} (h : Sat K W σ (RT K) β H r Q) : Sat K (fun c d _ H => W c d σ H) σ' (RT K) β H r Q := by
  cases r with
  | ok a M => exact h
  | ex c fs M => exact h
  | stuck => exact h
theorem run_G {pins : List (Addr × Obj)} {σ : L2.St} {H : Hp} {s : Shared} {Q : VK} {us : List Value} {vs : List V} {ts : List T} {β : Bag} {M : Mem} (F : FnG X.prog X.w X.K X.mg X.base k f fd ps g) (hr : Room k X.A) (hgd : X.A.guards = some []) (hb : Binds X.K fd ps ds) (hd : Vals dvs ds)
    (hT : ∀ β H, RTs X.K β H dts dvs) (tk : Takes X W) (I : Inv X pins σ H s) (r : Vals vs us) (rt : RTs X.K β H ts vs) (hl : ts.length + dts.length = ps.length) (rm : RM X.K β H M) (h : Sat X.K W σ (RT X.K) β H (g (ts ++ dts) M) Q) :
    wpAny (model X.prog X.w) X.A (call (.ref f) us) (EP X pins σ Q) X.xe s := by
  have r2 : Vals (vs ++ dvs) (us ++ ds) := r.append hd
  have t2 : RTs X.K β H (ts ++ dts) (vs ++ dvs) := rt.append (hT β H)
  have l2 : (ts ++ dts).length = ps.length := by rw [List.length_append]; exact hl
  have l3 : (us ++ ds).length = ps.length := by rw [← r2.length, t2.length, l2]
  refine wpAny_call (codeAny_mono (F.run X.A X.stack s H ⟨us, []⟩ (us ++ ds) (vs ++ dvs) (ts ++ dts) β M Q (fun c d H => W c d σ H) hr hgd I.env0 (hb s us I.kIn l3) r2 t2 l2 rm (sat_at h)) fun r s' hq => ?_)
  cases r with
  | error e => exact tk e s' (XE.of_call I (fun _ _ _ z => z) hq)
  | ok fl =>
    cases fl with
    | ret u => exact I.after hq
    | next => exact False.elim hq
    | brk => exact False.elim hq
    | cont => exact False.elim hq
theorem f_callD (F : FnG X.prog X.w X.K X.mg X.base k f fd ps g) (hr : Room k X.A) (hgd : X.A.guards = some []) (hm : X.mg x = some (.ref f)) (hk : PySem.W.keepIn X.K (.ref f) = true) (hb : Binds X.K fd ps ds) (hd : Vals dvs ds) (hT : ∀ β H, RTs X.K β H dts dvs) (tk : Takes X W)
    (ha : PA X (e :: es) (tA X.K W ga)) (hn : ps.length = n := by rfl) (hg : Gl X x := by rfl) (hdb : (x == ("__debug__" : Str)) = false := by decide) (he : starEach (e :: es) X.env = (false, eval e X.env) :: starEach es X.env := by rfl) (hpl : (backTo pos (starEach es X.env)).any (·.1) = false := by rfl) :
    PE X (.Call (.Name x p) (e :: es) [] pos) (tE X.K W (fCall g dts n ga)) := by
  refine ⟨fun pins s σ H Q I ⟨β, sl, M, rs, rm, h⟩ => ?_⟩
  have q0 : tA X.K W ga σ H fun vs H1 => ∃ β ts M, RTs X.K β H1 ts vs ∧ RM X.K β H1 M ∧ ts.length + dts.length = ps.length ∧ Sat X.K W σ (RT X.K) β H1 (g (ts ++ dts) M) Q := by
    refine ⟨β, sl, M, rs, rm, Sat.bind h ?_⟩
    intro ts M1 β1 H1 xs e1 rm1 rx h1
    split at h1
    · rename_i hl
      exact ⟨β1, ts, M1, rx, rm1, hl.trans hn.symm, h1⟩
    · exact h1.elim
  refine wpAny_Call_Name_kw (ld_glob I hg hm (PySem.W.callWith_K (h₀ := X.base) I.ok.mod.kin hk (thn (ha.run pos pins s σ H _ I q0) ?_) he hpl) hdb)
  rintro us s1 ⟨vs, H1, I1, r, β1, ts, M1, rt, rm1, hl, h1⟩
  exact ⟨I1.kIn, run_G F hr hgd hb hd hT tk I1 r rt hl rm1 h1⟩
/-- f(e, ..), every argument written -/
theorem f_call (F : FnG X.prog X.w X.K X.mg X.base k f fd ps g) (hr : Room k X.A) (hgd : X.A.guards = some []) (hm : X.mg x = some (.ref f)) (hk : PySem.W.keepIn X.K (.ref f) = true) (hb : Binds X.K fd ps []) (tk : Takes X W)
    (ha : PA X (e :: es) (tA X.K W ga)) (hn : ps.length = n := by rfl) (hg : Gl X x := by rfl) (hdb : (x == ("__debug__" : Str)) = false := by decide) (he : starEach (e :: es) X.env = (false, eval e X.env) :: starEach es X.env := by rfl) (hpl : (backTo pos (starEach es X.env)).any (·.1) = false := by rfl) :
    PE X (.Call (.Name x p) (e :: es) [] pos) (tE X.K W (fCall g [] n ga)) :=
  f_callD F hr hgd hm hk hb .nil (fun _ _ => .nil) tk ha hn hg hdb he hpl
/-- f() -/
theorem f_call0 (F : FnG X.prog X.w X.K X.mg X.base k f fd [] g) (hr : Room k X.A) (hgd : X.A.guards = some []) (hm : X.mg x = some (.ref f)) (hk : PySem.W.keepIn X.K (.ref f) = true) (hb : Binds X.K fd [] []) (tk : Takes X W)
    (hg : Gl X x := by rfl) (hdb : (x == ("__debug__" : Str)) = false := by decide) : PE X (.Call (.Name x p) [] [] pos) (tE X.K W (fCall g [] 0 aNil)) := by
  refine ⟨fun pins s σ H Q I ⟨β, sl, M, rs, rm, h⟩ => ?_⟩
  refine wpAny_Call_Name_kw (ld_glob I hg hm (PySem.W.callWith_K0 I.kIn hk ?_) hdb)
  exact run_G (us := []) (vs := []) (ts := []) F hr hgd hb .nil (fun _ _ => .nil) tk I .nil .nil rfl rm h
end

/-! ### the law's end -/
theorem law_G {P : Program} {w : World} {K : PySem.W.Frag} {mg mb : Str → Option Value} {k n : Nat} {fa a : Addr} {x : Str} {g : List T → Mem → Res T} {s₁ : Shared} {vs : List Value} {ns : List Int}
    (KX : K.In s₁.heap) (hns : s₁.heap.Ns mainGlobals mg) (hb : s₁.heap.Ns builtinsNs mb) (hbb : ∀ x : Str, x ≠ "__name__" → mb x = bootBuiltins x) (hlim : s₁.heap.NoLimit) (hgen : s₁.gens = #[])
    (ha : s₁.heap.get? a = some { cls := .type "list", data := .seq vs.toArray }) (hi : IntsAre vs ns) (hl : ns.length ≤ sizeLine) (hln : ns.length ≤ n) (hr : Room k callerA)
    (F : ∀ base : Heap, K.In base → base.Ns mainGlobals mg → ∃ fd : FuncData, Binds K fd [x] [] ∧ FnG P w K mg base k fa fd [x] g)
    (law : ∀ ns : List Int, ns.length ≤ n → ∃ M, g [.scr (ns.map T.int)] [] = .ok (.bl true) M) :
    codeAny (model P w) callerA (.call (.ref fa) ⟨[.ref a], []⟩) (fun r s' => r = .ok (.ret (.bool true)) ∧ OldK s₁.heap s'.heap ∧ s'.os = s₁.os ∧ AllBare s'.gens) s₁ := by
  have rv := vals_ints hi
  -- the script alone is tracked, if it isn't one of the module's objects
  obtain ⟨H, only, sq, hok, own, fre⟩ : ∃ H : Hp, (∀ b, H b = none ∨ ∃ o xs, H b = some (.frz o (.lst xs))) ∧ SqL K H a (ns.map V.int) ∧ HOk P w H s₁.heap ∧ (∀ b, H b ≠ none → b = a) ∧ (H a ≠ none → K.lookup a = none) := by
    cases hk : K.lookup a with
    | some o =>
      have e := KX a o hk
      rw [ha] at e
      cases e
      refine ⟨fun _ => none, fun _ => .inl rfl, .inr ⟨_, vs.toArray, _, hk, rfl, rfl, rfl, ?_, by simpa using rv⟩, fun b u z => (nomatch z), fun b z => absurd rfl z, fun z => absurd rfl z⟩
      rw [List.size_toArray, hi.length]
      exact hl
    | none =>
      have at_ : (upd (fun _ => none) a (.frz { cls := .type "list", data := .seq vs.toArray } (.lst (ns.map V.int)))) a = some (.frz { cls := .type "list", data := .seq vs.toArray } (.lst (ns.map V.int))) := upd_same
      refine ⟨upd (fun _ => none) a (.frz { cls := .type "list", data := .seq vs.toArray } (.lst (ns.map V.int))), fun b => ?_, .inl (.inr ⟨_, at_⟩), fun b u z => ?_, fun b z => ?_, fun _ => rfl⟩
      · by_cases e : b = a
        · exact .inr ⟨_, _, (congrArg _ e).trans at_⟩
        · exact .inl (upd_ne e)
      · by_cases e : b = a
        · subst e
          rw [at_] at z
          cases z
          exact ⟨ha, by rw [List.length_map]; exact hl, vs, _, rv, ha⟩
        · rw [upd_ne e] at z
          cases z
      · by_cases e : b = a
        · exact e
        · exact absurd (upd_ne e) z
  have keep : ∀ {b : Addr} {o : Obj} {es : Array DictEntry} {ep : Nat}, s₁.heap.get? b = some o → o.data = .dict es ep → (hidT s₁.heap H).get? b = some o := by
    intro b o es ep e d
    refine hidT_get e (Classical.byContradiction fun z => ?_)
    have e' := own b z
    subst e'
    rw [ha] at e
    cases e
    cases (show Data.seq vs.toArray _ = Data.dict es ep from d)
  have nsK : ∀ {b : Addr} {m : Str → Option Value}, s₁.heap.Ns b m → (hidT s₁.heap H).Ns b m := fun ⟨o, es, ep, e, d, r⟩ => ⟨o, es, ep, keep e d, d, r⟩
  have hKb : K.In (hidT s₁.heap H) := fun b o e => hidT_get (KX b o e) (Classical.byContradiction fun z => by
    have e' := own b z
    subst e'
    rw [fre z] at e
    cases e)
  have md : Mod K mg (hidT s₁.heap H) := ⟨hKb, nsK hns, ⟨mb, nsK hb, hbb⟩, hlim.imp fun mc h => ⟨nsK h.1, h.2⟩⟩
  have e0 : Env0 P w K mg (hidT s₁.heap H) callerA [] s₁ H := ⟨rfl, md, fun b o e => of_hidT e, Nat.le_of_eq (hidT_size _ _), trivial, fun b hb => (nomatch hb), hok, .of_eq hgen⟩
  have rt : RT K ⟨[], []⟩ H (.scr (ns.map T.int)) (.ref a) := by
    simp only [RT]
    refine ⟨a, _, rfl, ?_, RTs.ints⟩
    rcases sq with z | z
    · exact .inl ⟨fun y => y.elim (fun q => nomatch q) (fun q => nomatch q), z⟩
    · exact .inr z
  have rm : RM K ⟨[], []⟩ H [] := ⟨rfl, List.nodup_nil, fun n a c h => (by simp at h), fun a h => nomatch h⟩
  obtain ⟨M, hM⟩ := law ns hln
  obtain ⟨fd, hbind, FG⟩ := F _ hKb (nsK hns)
  have hbs : BindsTo s₁ fd ⟨[.ref a], []⟩ [(x, .ref a)] := hbind s₁ [.ref a] KX rfl
  refine codeAny_mono (FG.run callerA [] s₁ H ⟨[.ref a], []⟩ [.ref a] [.ref a] [.scr (ns.map T.int)] ⟨[], []⟩ [] (fun v _ => v = .bl true) (fun _ _ _ => False) hr rfl e0 hbs (.cons rfl .nil) (.cons rt .nil) rfl rm ?_) fun r s' h => ?_
  · rw [hM]
    intro β' H' v _ _ q
    simpa only [RT] using q
  · cases r with
    | error e =>
      obtain ⟨_, _, _, _, _, _, _, _, _, _, _, _, z⟩ := h
      exact z.elim
    | ok fl =>
      cases fl with
      | next => exact h.elim
      | brk => exact h.elim
      | cont => exact h.elim
      | ret u =>
        obtain ⟨v, H', os, bare, un, hok', r', rfl⟩ := h
        obtain rfl : u = Value.bool true := r'
        refine ⟨rfl, OldK.of_keep fun b o e => ?_, os, bare⟩
        rcases only b with z | ⟨ob, xs, z⟩
        · exact un.keep b o e z (fun q => nomatch q) fun q => nomatch q
        · have e1 := (hok b _ z).1
          rw [e] at e1
          cases e1
          exact (hok' b _ (un.frzs b _ _ z)).1
end Fl
set_option Elab.async false
set_option linter.all false
set_option maxRecDepth 100000
set_option maxHeartbeats 2000000
/-! Fl13: chains, minus, three stores, reversed copies, dict displays, dicts with nested keys. -/
namespace Fl
open PySem PySem.Spec PyProof.Rows L2

section
variable {X : Cx} {W : WX} {pos : Pos} {a b c e : Expr} {fa fb fc f : FE} {o o' : T → T → Mem → Res T}
theorem chain_sound {r r' : R2} (hk : ∀ (W : WX) (σ : L2.St) (β : Bag) (M : Mem) (H : Hp) (x y : V) (a b : T) (Q : VK), RM X.K β H M → RT X.K β H a x → RT X.K β H b y → Sat X.K W σ (RT X.K) β H (o a b M) Q → r x y H Q)
    (hk' : ∀ (W : WX) (σ : L2.St) (β : Bag) (M : Mem) (H : Hp) (x y : V) (a b : T) (Q : VK), RM X.K β H M → RT X.K β H a x → RT X.K β H b y → Sat X.K W σ (RT X.K) β H (o' a b M) Q → r' x y H Q)
    {σ : L2.St} {H : Hp} {Q : VK} (h : tE X.K W (fChain o o' fa fb fc) σ H Q) : tChain r r' (tE X.K W fa) (tE X.K W fb) (tE X.K W fc) σ H Q := by
  obtain ⟨β, s, M, rs, rm, h⟩ := h
  refine ⟨β, s, M, rs, rm, Sat.bind h ?_⟩
  intro a M1 β1 H1 x e1 rm1 rx h1
  refine ⟨β1, s, M1, rs.mono e1, rm1, Sat.bind h1 ?_⟩
  intro b M2 β2 H2 y e2 rm2 ry h2
  have rs2 := (rs.mono e1).mono e2
  refine hk W σ β2 M2 H2 x y a b _ rm2 (rx.up e2) ry (Sat.bind h2 ?_)
  intro t M3 β3 H3 z e3 rm3 rz h3
  cases t with
  | bl k =>
    simp only [RT] at rz
    refine ⟨k, rz, ?_⟩
    cases k with
    | false =>
      rw [if_neg (by decide)]
      exact h3 β3 H3 _ .refl rm3 (by simp only [RT])
    | true =>
      rw [if_pos rfl]
      refine ⟨β3, s, M3, rs2.mono e3, rm3, Sat.bind h3 ?_⟩
      intro d M4 β4 H4 w e4 rm4 rw_ h4
      exact hk' W σ β4 M4 H4 y w b d Q rm4 ((ry.up e3).up e4) rw_ h4
  | _ => exact h3.elim
theorem f_chain {op op' : CmpOp} (ho : BinF X (compareOp op) o) (ho' : BinF X (compareOp op') o') (ha : PE X a (tE X.K W fa)) (hb : PE X b (tE X.K W fb)) (hc : PE X c (tE X.K W fc))
    (hm : lastMarks [op, op'] [b, c] = false := by with_unfolding_all rfl) : PE X (.Compare a [op, op'] [b, c] pos) (tE X.K W (fChain o o' fa fb fc)) := by
  obtain ⟨r, hr, hk⟩ := ho
  obtain ⟨r', hr', hk'⟩ := ho'
  exact peI (pe_chain hr hr' ha hb hc hm) fun σ H Q h => chain_sound hk hk' h
theorem g_chain {op op' : CmpOp} (ho : BinF X (compareOp op) o) (ho' : BinF X (compareOp op') o') (ha : PE X a (tE X.K W fa)) (hb : PE X b (tE X.K W fb)) (hc : PE X c (tE X.K W fc))
    (hm : lastMarks [op, op'] [b, c] = false := by with_unfolding_all rfl) : PT X (.Compare a [op, op'] [b, c] pos) (tT X.K W (fB (fChain o o' fa fb fc))) := by
  obtain ⟨r, hr, hk⟩ := ho
  obtain ⟨r', hr', hk'⟩ := ho'
  exact ptI (pt_chain hr hr' ha hb hc hm) fun σ H Q h => chain_sound hk hk' (fB_sound h)
/-- -e -/
def fNeg (f : FE) : FE := fun s M => (f s M).bind fun t M1 => match t with
  | .int i => .ok (.int (-i)) M1
  | _ => .stuck
theorem f_neg (ha : PE X a (tE X.K W fa)) : PE X (.UnaryOp .USub a pos) (tE X.K W (fNeg fa)) := by
  refine peI (pe_un un_neg ha) fun σ H Q ⟨β, s, M, rs, rm, h⟩ => ⟨β, s, M, rs, rm, Sat.bind h ?_⟩
  intro t M1 β1 H1 x e1 rm1 rx h1
  cases t with
  | int i =>
    simp only [RT] at rx
    exact ⟨i, rx, h1 β1 H1 _ .refl rm1 (by simp only [RT])⟩
  | _ => exact h1.elim

/-- a, b, c = x, y, z -/
def fPar3 (i j l : Nat) (g : FA) : FS := fun s M => (g s M).st s fun ts M1 => match ts with
  | [t, u, v] => .nx (((s.set i (some t)).set j (some u)).set l (some v)) M1
  | _ => .stuck
theorem s_par3 {i j l : Nat} {x y z : Str} {a b c : Expr} {g : FA} {px py pz pt : Pos} {kt k2 pt2} (hc : X.calm = true) (hN : X.N.Nodup) (ha : PA X [a, b, c] (tA X.K W g)) (hij : i ≠ j) (hil : i ≠ l) (hjl : j ≠ l) (hi : X.N[i]? = some x := by rfl) (hj : X.N[j]? = some y := by rfl) (hl : X.N[l]? = some z := by rfl)
    (hx : X.env.scope.names.lookup x = some .local := by rfl) (hy : X.env.scope.names.lookup y = some .local := by rfl) (hz : X.env.scope.names.lookup z = some .local := by rfl)
    (hw : swappedStores [.Tuple [.Name x px, .Name y py, .Name z pz] kt pt] (.Tuple [a, b, c] k2 pt2) X.env = pure (some [x, y, z]) := by rfl)
    (hs : swapsWithSole [.Tuple [.Name x px, .Name y py, .Name z pz] kt pt] (.Tuple [a, b, c] k2 pt2) pos.line X.env = pure false := by rfl) :
    PS X (.Assign [.Tuple [.Name x px, .Name y py, .Name z pz] kt pt] (.Tuple [a, b, c] k2 pt2) pos) (tS X.K W (fPar3 i j l g)) := by
  refine psI (ps_par3 hc hN hi hj hl hij hil hjl hx hy hz ha hw hs) fun D σ H ⟨β, s, M, rs, rm, h⟩ => ⟨β, s, M, rs, rm, Sat.st rs h ?_⟩
  intro ts M1 β1 H1 xs e1 rm1 rx h1
  split at h1
  · obtain ⟨v, q, rfl, h2, h3⟩ := rx.uncons
    obtain ⟨v', q', rfl, h4, h5⟩ := h3.uncons
    obtain ⟨v'', q'', rfl, h6, h7⟩ := h5.uncons
    have e := h7.nil_of
    subst e
    exact ⟨v, v', v'', rfl, h1 β1 H1 _ .refl rm1 ((((rs.mono e1).set h2).set h4).set h6)⟩
  · exact h1.elim

/-- xs[::-1] of a list -/
def fRevL (cell : Bool) (f : FE) : FE := fun s M => (f s M).bind fun t M1 => match lstOf M1 t with
  | some us => endL cell us.reverse M1
  | none => .stuck
theorem f_revL (cell : Bool) {k : Nat} {p1 p2 p3 : Pos} (he : PE X e (tE X.K W f)) : PE X (.Subscript e (.Slice none none (some (.UnaryOp .USub (.Constant (.int 1) k p1) p2)) p3) pos) (tE X.K W (fRevL cell f)) := by
  refine peI (pe_revL he) fun σ H Q ⟨β, s, M, rs, rm, h⟩ => ⟨β, s, M, rs, rm, Sat.bind h ?_⟩
  intro t M1 β1 H1 x e1 rm1 rx h1
  split at h1
  · rename_i us hus
    obtain ⟨a, vs, rfl, hq, rv⟩ := lst_at rm1 hus rx
    refine ⟨a, vs, rfl, SqL.of hq, fun p hp => ?_⟩
    cases cell with
    | false =>
      exact h1 β1 _ _ (.new rm1 hp) (rm1.new hp) (new_lst rm1 hp rv.reverse)
    | true =>
      obtain ⟨n1, n2⟩ := new_cell rm1 hp rv.reverse
      exact h1 _ _ _ (.cell rm1 hp) n1 n2
  · exact h1.elim

end

/-! ### dicts of texts and ints, written out -/
/-- pairs of a display -/
def fPairs : List (FE × FE) → Slots → Mem → Res (List (T × T))
  | [], _, M => .ok [] M
  | f :: r, s, M => (f.1 s M).bind fun k M1 => (f.2 s M1).bind fun v M2 => (fPairs r s M2).bind fun ps M3 => .ok ((k, v) :: ps) M3
def keysOf : List (T × T) → Option (List (Key × T))
  | [] => some []
  | q :: r => match keyT q.1, keysOf r with
    | some k, some l => some ((k, q.2) :: l)
    | _, _ => none
def mergeT (kvs more : List (Key × T)) : List (Key × T) := more.foldl (fun acc kv => putT acc kv.1 kv.2) kvs
/-- {k: v, ..}: a new cell, empty while the pairs are made -/
def fDisp (ps : List (FE × FE)) : FE := fun s M => (fPairs ps s (M ++ [.dk []])).bind fun qs M1 => match M1[M.length]? with
  | some (.dk []) => match keysOf qs with
    | some kvs => if kvs.length ≤ 15 then .ok (.ref M.length) (M1.set M.length (.dk (mergeT [] kvs))) else .stuck
    | none => .stuck
  | _ => .stuck
/-- {} -/
def fDk0 : FE := fun _ M => .ok (.ref M.length) (M ++ [.dk []])
def RPs (K : PySem.W.Frag) (β : Bag) (H : Hp) (qs : List (T × T)) (ps : List (V × V)) : Prop := RTs K β H (qs.map (·.1)) (ps.map (·.1)) ∧ RTs K β H (qs.map (·.2)) (ps.map (·.2))
section
variable {K : PySem.W.Frag} {W : WX}
theorem pairs_sound : ∀ (fs : List (FE × FE)) {β : Bag} {s : Slots} {M : Mem} {σ : L2.St} {H : Hp} {Q : List (V × V) → Hp → Prop}, RS K β H s σ → RM K β H M → Sat K W σ (RPs K) β H (fPairs fs s M) Q →
    tPairs (fs.map fun f => (tE K W f.1, tE K W f.2)) σ H Q
  | [], β, s, M, σ, H, Q, rs, rm, h => h β H [] .refl rm ⟨.nil, .nil⟩
  | f :: r, β, s, M, σ, H, Q, rs, rm, h => by
    refine ⟨β, s, M, rs, rm, Sat.bind h ?_⟩
    intro k M1 β1 H1 x e1 rm1 rx h1
    refine ⟨β1, s, M1, rs.mono e1, rm1, Sat.bind h1 ?_⟩
    intro v M2 β2 H2 y e2 rm2 ry h2
    refine pairs_sound r ((rs.mono e1).mono e2) rm2 (Sat.bind h2 ?_)
    intro ps M3 β3 H3 qs e3 rm3 rqs h3
    refine h3 β3 H3 _ .refl rm3 ⟨?_, ?_⟩
    · exact .cons ((rx.up e2).up e3) rqs.1
    · exact .cons (ry.up e3) rqs.2
theorem keysOf_rel {β : Bag} {H : Hp} : ∀ {qs : List (T × T)} {ps : List (V × V)} {kvs : List (Key × T)}, keysOf qs = some kvs → RPs K β H qs ps →
    ∃ us : List (Key × V), ps = us.map (fun kv => (kV kv.1, kv.2)) ∧ us.map (·.1) = kvs.map (·.1) ∧ RTs K β H (kvs.map (·.2)) (us.map (·.2))
  | [], ps, kvs, hk, h => by
    simp only [keysOf, Option.some.injEq] at hk
    subst hk
    have := h.1.nil_of
    have : ps = [] := by simpa using this
    subst this
    exact ⟨[], rfl, rfl, .nil⟩
  | q :: r, [], kvs, hk, h => by
    obtain ⟨v, l, e, _⟩ := RTs.uncons (by simpa only [List.map_cons] using h.1)
    simp at e
  | q :: r, p :: ps, kvs, hk, h => by
    simp only [keysOf] at hk
    split at hk
    · rename_i k l h1 h2
      cases hk
      obtain ⟨v, l1, e, r1, r2⟩ := RTs.uncons (by simpa only [List.map_cons] using h.1)
      simp only [List.map_cons, List.cons.injEq] at e
      obtain ⟨rfl, rfl⟩ := e
      obtain ⟨v', l2, e, r3, r4⟩ := RTs.uncons (by simpa only [List.map_cons] using h.2)
      simp only [List.map_cons, List.cons.injEq] at e
      obtain ⟨rfl, rfl⟩ := e
      obtain ⟨us, e1, e2, e3⟩ := keysOf_rel h2 ⟨r2, r4⟩
      refine ⟨(k, p.2) :: us, ?_, ?_, ?_⟩
      · rw [e1, List.map_cons, ← key_rel h1 r1]
      · rw [List.map_cons, List.map_cons, e2]
      · exact .cons r3 e3
    · cases hk
theorem merge_rel {β : Bag} {H : Hp} : ∀ {more : List (Key × T)} {mus : List (Key × V)} {kvs : List (Key × T)} {us : List (Key × V)}, mus.map (·.1) = more.map (·.1) → RTs K β H (more.map (·.2)) (mus.map (·.2)) →
    us.map (·.1) = kvs.map (·.1) → RTs K β H (kvs.map (·.2)) (us.map (·.2)) → (mergeK us mus).map (·.1) = (mergeT kvs more).map (·.1) ∧ RTs K β H ((mergeT kvs more).map (·.2)) ((mergeK us mus).map (·.2))
  | [], mus, kvs, us, hk, hr, h1, h2 => by
    have : mus = [] := by simpa using hk
    subst this
    exact ⟨h1, h2⟩
  | (k, t) :: more, [], kvs, us, hk, hr, h1, h2 => by simp at hk
  | (k, t) :: more, (k', v) :: mus, kvs, us, hk, hr, h1, h2 => by
    simp only [List.map_cons, List.cons.injEq] at hk
    obtain ⟨rfl, hk⟩ := hk
    obtain ⟨v', l2, e, r3, r4⟩ := RTs.uncons (by simpa only [List.map_cons] using hr)
    simp only [List.map_cons, List.cons.injEq] at e
    obtain ⟨rfl, rfl⟩ := e
    obtain ⟨p1, p2⟩ := put_rel r3 h1 h2 (k := k')
    exact merge_rel (more := more) (mus := mus) (kvs := putT kvs k' t) (us := putK us k' v) hk r4 p1 p2
end
section
variable {X : Cx} {W : WX} {pos : Pos}
theorem p_nil : PPs X pos [] [] (([] : List (FE × FE)).map fun f => (tE X.K W f.1, tE X.K W f.2)) := pps_nil
theorem p_cons {k v : Expr} {ks : List (Option Expr)} {vs : List Expr} {fk fv : FE} {fs : List (FE × FE)} (hk : PE X k (tE X.K W fk)) (hv : PE X v (tE X.K W fv)) (hr : PPs X pos ks vs (fs.map fun f => (tE X.K W f.1, tE X.K W f.2))) :
    PPs X pos (some k :: ks) (v :: vs) (((fk, fv) :: fs).map fun f => (tE X.K W f.1, tE X.K W f.2)) := pps_cons hk hv hr
theorem f_disp {keys : List (Option Expr)} {values : List Expr} {fs : List (FE × FE)} (h : PPs X pos keys values (fs.map fun f => (tE X.K W f.1, tE X.K W f.2))) (hall : keys.all (·.isSome) = true := by rfl) (hl : keys.length = values.length := by rfl) (h0 : keys ≠ [] := by exact List.cons_ne_nil _ _)
    (h15 : keys.length ≤ 15 := by decide) : PE X (.Dict keys values pos) (tE X.K W (fDisp fs)) := by
  refine peI (pe_disp h hall hl h0 h15) fun σ H Q ⟨β, s, M, rs, rm, h⟩ p hp => ?_
  have e0 : Ext β H (β.push p) (upd H p (.dK [])) := Ext.cell rm hp
  have rm0 : RM X.K (β.push p) (upd H p (.dK [])) (M ++ [.dk []]) := rm.push hp ⟨[], upd_same, rfl, .nil⟩
  refine pairs_sound fs (rs.mono e0) rm0 (Sat.bind (h.mono e0) ?_)
  intro qs M1 β1 H1 ps e1 rm1 rq h1
  have hb0 : (β.push p).hs[M.length]? = some p := by
    show (β.hs ++ [p])[M.length]? = some p
    rw [← rm.len]; simp
  have hb : β1.hs[M.length]? = some p := e1.toMon.at_ hb0
  split at h1
  · rename_i hM
    obtain ⟨us0, g1, g2, _⟩ := rm1.cell _ p _ hb hM
    have : us0 = [] := by simpa using g2
    subst this
    refine ⟨g1, ?_⟩
    split at h1
    · rename_i kvs hk
      split at h1
      · rename_i hl
        obtain ⟨us, q1, q2, q3⟩ := keysOf_rel hk rq
        have hlen : us.length = kvs.length := by simpa using congrArg List.length q2
        refine ⟨us, q1, by rw [hlen]; exact hl, ?_⟩
        have ew := Ext.write (o := .dK (mergeK [] us)) rm1 (List.mem_of_getElem? hb)
        obtain ⟨m1, m2⟩ := merge_rel (kvs := []) (us := []) q2 q3 rfl .nil
        exact h1 β1 _ _ ew (rm1.write hb ⟨_, upd_same, m1, m2.up ew⟩) (RT.adr_ hb)
      · exact h1.elim
    · exact h1.elim
  · exact h1.elim
theorem f_dk0 : PE X (.Dict [] [] pos) (tE X.K W fDk0) := by
  refine peI pe_dnewK fun σ H Q ⟨β, s, M, rs, rm, h⟩ p hp => ?_
  refine h (β.push p) _ _ (Ext.cell rm hp) (rm.push hp ⟨[], upd_same, rfl, .nil⟩) (RT.adr_ ?_)
  show (β.hs ++ [p])[M.length]? = some p
  rw [← rm.len]; simp
end
end Fl
set_option Elab.async false
set_option linter.all false
set_option maxRecDepth 100000
set_option maxHeartbeats 2000000
/-! Fl14: dicts whose keys are nested tuples. -/
namespace Fl
open PySem PySem.Spec PyProof.Rows L2

def lookN (kvs : List (NestedKey × T)) (k : NestedKey) : Option T := (kvs.find? fun kv => decide (kv.1 = k)).map (·.2)
/-- {} for keys that are nested tuples -/
def fDn (P : Program) (w : World) : FE := fun _ M => .ok (.ref M.length) (M ++ [.dn P w []])
def isTupT : T → Bool
  | .tup _ => true
  | _ => false
open Classical in
noncomputable def oSetDef (P : Program) (w : World) (a k v : T) (M : Mem) : Res T := match a with
  | .ref n => match M[n]? with
    | some (.dn P' w' kvs) => if P' = P ∧ w' = w then match T.nk k with
        | some kk => if isTupT k = true ∧ kk.depth ≤ 8 ∧ kvs.length < lim then match lookN kvs kk with
            | some t => .ok t M
            | none => .ok v (M.set n (.dn P w (kvs ++ [(kk, v)])))
          else .stuck
        | none => .stuck
      else .stuck
    | _ => .stuck
  | _ => .stuck
/-- d.setdefault(k, v) -/
noncomputable def fSetDef (P : Program) (w : World) (fo fk fv : FE) : FE := fun s M => (fo s M).bind fun a M1 => match a with
  | .ref n => match M1[n]? with
    | some (.dn P' w' _) => (fk s M1).bind fun k M2 => (fv s M2).bind fun v M3 => oSetDef P w a k v M3
    | _ => .stuck
  | _ => .stuck
section
variable {K : PySem.W.Frag} {β : Bag} {H : Hp} {M : Mem}
theorem dn_rel {k : NestedKey} : ∀ {kvs : List (NestedKey × T)} {xs : List (NestedKey × Addr × Value)} {vs : List V}, xs.map (·.1) = kvs.map (·.1) → Vals vs (xs.map fun x => x.2.2) → RTs K β H (kvs.map (·.2)) vs →
    (∀ t, lookN kvs k = some t → ∃ p v, atKey xs k = some p ∧ RelV v p.2 ∧ RT K β H t v) ∧ (lookN kvs k = none → atKey xs k = none)
  | [], xs, vs, hk, hv, hr => by
    have : xs = [] := by simpa using hk
    subst this
    exact ⟨fun t h => by simp [lookN] at h, fun _ => rfl⟩
  | (k0, t0) :: kvs, [], vs, hk, hv, hr => by simp at hk
  | (k0, t0) :: kvs, (k1, a1, u1) :: xs, vs, hk, hv, hr => by
    simp only [List.map_cons, List.cons.injEq] at hk
    obtain ⟨rfl, hk⟩ := hk
    obtain ⟨v, r, rfl, h2, h3⟩ := RTs.uncons (by simpa only [List.map_cons] using hr)
    rw [List.map_cons] at hv
    cases hv with
    | cons hv1 hv2 =>
      obtain ⟨ih1, ih2⟩ := dn_rel (k := k) hk hv2 h3
      by_cases e : k1 = k
      · subst e
        refine ⟨fun t h => ?_, fun h => ?_⟩
        · simp [lookN] at h
          subst h
          exact ⟨(a1, u1), v, by simp [atKey], hv1, h2⟩
        · simp [lookN] at h
      · refine ⟨fun t h => ?_, fun h => ?_⟩
        · have h' : lookN kvs k = some t := by simpa [lookN, e] using h
          obtain ⟨p, w, h4, h5⟩ := ih1 t h'
          exact ⟨p, w, by simpa [atKey, e] using h4, h5⟩
        · have h' : lookN kvs k = none := by simpa [lookN, e] using h
          simpa [atKey, e] using ih2 h'
end
theorem dn_ok {P : Program} {w : World} (h : Heap) (hb : sysModules < h.objs.size) {H : Hp} : ObjOk P w H (h.push { cls := .type "dict", data := .dict #[] }) h.objs.size (DnO P w h.objs.size []) := by
  have g : (h.push { cls := .type "dict", data := .dict #[] }).get? h.objs.size = some { cls := .type "dict", data := .dict #[] } := Heap.get?_push_size _ rfl
  refine ⟨⟨_, #[], 0, g, ⟨rfl, rfl, rfl⟩, rfl, rfl, List.nodup_nil, beq_eq_false_iff_ne.mpr (Ne.symm (Nat.ne_of_lt hb))⟩, ⟨_, g⟩, ?_⟩
  rintro h1 h2 ⟨o, es, ep, e1, e2⟩ k
  exact ⟨o, es, ep, k o e1, e2⟩
theorem dn_stays {P : Program} {w : World} {a : Addr} {xs : List (NestedKey × Addr × Value)} : ∀ h1 h2 : Heap, RawN P w a xs h1 → (∀ o, h1.get? a = some o → h2.get? a = some o) → RawN P w a xs h2 := by
  rintro h1 h2 ⟨o, es, ep, e1, e2⟩ k
  exact ⟨o, es, ep, k o e1, e2⟩
section
variable {X : Cx} {W : WX} {pos : Pos}
theorem f_dn : PE X (.Dict [] [] pos) (tE X.K W (fDn X.prog X.w)) := by
  refine ⟨fun pins s σ H Q I ⟨β, sl, M, rs, rm, h⟩ => ?_⟩
  have hn := I.hok.fresh (Nat.le_refl s.heap.objs.size)
  refine wpAny_Dict_empty ⟨.ref s.heap.objs.size, _, I.laid (a := s.heap.objs.size) (o := DnO X.prog X.w s.heap.objs.size []) (t' := s.toks) (fun _ _ q => Heap.get?_push_of_some _ q) (Nat.le_refl _) (dn_ok s.heap I.big), rfl, ?_⟩
  refine h (β.push s.heap.objs.size) _ _ (Ext.cell rm hn) (rm.push hn ⟨[], [], upd_same, rfl, .nil, .nil, fun x hx => nomatch hx⟩) (RT.adr_ ?_)
  show (β.hs ++ [s.heap.objs.size])[M.length]? = some s.heap.objs.size
  rw [← rm.len]; simp
mutual
theorem nk_is {pins : List (Addr × Obj)} {σ : L2.St} {H : Hp} {s : Shared} {β : Bag} (I : Inv X pins σ H s) : ∀ (t : T) (v : V) (u : Value) (k : NestedKey), T.nk t = some k → RT X.K β H t v → RelV v u → NestedIs s.heap k u
  | .non, v, u, k, h, r, q => by
    simp only [T.nk, Option.some.injEq] at h
    simp only [RT] at r
    subst h r
    cases (show u = Value.none from q)
    exact .none
  | .int i, v, u, k, h, r, q => by
    simp only [T.nk, Option.some.injEq] at h
    simp only [RT] at r
    subst h r
    obtain ⟨t, rfl⟩ := q
    exact .int _ _
  | .str i, v, u, k, h, r, q => by
    simp only [T.nk, Option.some.injEq] at h
    simp only [RT] at r
    subst h r
    obtain ⟨t, rfl⟩ := q
    exact .text _ _
  | .tup ts, v, u, k, h, r, q => by
    simp only [T.nk, Option.map_eq_some_iff] at h
    obtain ⟨ks, h1, rfl⟩ := h
    simp only [RT] at r
    obtain ⟨a, vs, rfl, h2, h3⟩ := r
    cases (show u = Value.ref a from q)
    obtain ⟨its, rv, ⟨o, e1, e2, n, e3⟩, _⟩ := I.tuple (a := a) (xs := vs) (by
      rcases h2 with ⟨_, z⟩ | z
      · exact .inl z
      · exact .inr z)
    exact .tup e1 e2 e3 (by simpa using nks_is I ts vs its ks h1 h3 rv)
  | .bl _, _, _, _, h, _, _ => by simp [T.nk] at h
  | .lst _, _, _, _, h, _, _ => by simp [T.nk] at h
  | .scr _, _, _, _, h, _, _ => by simp [T.nk] at h
  | .iset _, _, _, _, h, _, _ => by simp [T.nk] at h
  | .rng _ _, _, _, _, h, _, _ => by simp [T.nk] at h
  | .ref _, _, _, _, h, _, _ => by simp [T.nk] at h
  | .adr _, _, _, _, h, _, _ => by simp [T.nk] at h
  | .ty _, _, _, _, h, _, _ => by simp [T.nk] at h
theorem nks_is {pins : List (Addr × Obj)} {σ : L2.St} {H : Hp} {s : Shared} {β : Bag} (I : Inv X pins σ H s) : ∀ (ts : List T) (vs : List V) (us : List Value) (ks : List NestedKey), T.nks ts = some ks → RTs X.K β H ts vs → Vals vs us → NestedAll s.heap ks us
  | [], vs, us, ks, h, r, q => by
    simp only [T.nks, Option.some.injEq] at h
    subst h
    have := r.nil_of
    subst this
    cases q
    exact .nil
  | t :: ts, vs, us, ks, h, r, q => by
    simp only [T.nks, Option.bind_eq_some_iff, Option.map_eq_some_iff] at h
    obtain ⟨k, h1, ks', h2, rfl⟩ := h
    obtain ⟨v, vs', rfl, r1, r2⟩ := r.uncons
    cases q with
    | cons q1 q2 => exact .cons (nk_is I t v _ k h1 r1 q1) (nks_is I ts vs' _ ks' h2 r2 q2)
end
theorem Vals.app {vs ws : List V} {us zs : List Value} (h : Vals vs us) (g : Vals ws zs) : Vals (vs ++ ws) (us ++ zs) := h.append g
theorem f_setdef {ob ek ev : Expr} {apos cpos : Pos} {fo fk fv : FE} (hu : X.A.units + 9 < cLine) (ho : PE X ob (tE X.K W fo)) (hk : PE X ek (tE X.K W fk)) (hv : PE X ev (tE X.K W fv))
    (hbase : attributeBase ob "setdefault" X.env (eval ob X.env) = eval ob X.env := by rfl)
    (hfew : ((backTo cpos (starEach [ek, ev] X.env)).all (fun x => !x.1) && (backToKw cpos (keywordEach [] X.env)).all (fun x => x.1.isSome)
      && decide ([ek, ev].length + ([] : List Keyword).length + (if ([] : List Keyword).isEmpty then 0 else 1) < 30)) = true := by rfl)
    (hline : (apos.endLine == cpos.line) = true := by rfl) (hs : starEach [ek, ev] X.env = (false, eval ek X.env) :: starEach [ev] X.env := by rfl) (hs1 : starEach [ev] X.env = (false, eval ev X.env) :: starEach [] X.env := by rfl) (hplain : (backTo cpos (starEach [ev] X.env)).any (·.1) = false := by rfl) :
    PE X (.Call (.Attribute ob "setdefault" apos) [ek, ev] [] cpos) (tE X.K W (fSetDef X.prog X.w fo fk fv)) := by
  refine ⟨fun pins s σ H Q I ⟨β, sl, M, rs, rm, h⟩ => ?_⟩
  have q0 : tE X.K W fo σ H fun x H1 => ∃ β1 M1 n a P' w' kvs, RS X.K β1 H1 sl σ ∧ RM X.K β1 H1 M1 ∧ β1.hs[n]? = some a ∧ x = .ref a ∧ M1[n]? = some (.dn P' w' kvs) ∧
      Sat X.K W σ (RT X.K) β1 H1 ((fk sl M1).bind fun k M2 => (fv sl M2).bind fun v M3 => oSetDef X.prog X.w (.ref n) k v M3) Q := by
    refine ⟨β, sl, M, rs, rm, Sat.bind h ?_⟩
    intro t M1 β1 H1 x e1 rm1 rx h1
    split at h1
    · rename_i n
      split at h1
      · rename_i P' w' kvs hM
        simp only [RT] at rx
        obtain ⟨a, rfl, hb⟩ := rx
        exact ⟨β1, M1, n, a, P', w', kvs, rs.mono e1, rm1, hb, rfl, hM, h1⟩
      · exact h1.elim
    · exact h1.elim
  refine wpAny_Call_method_late hbase hfew hline rfl (thn (ho.run pins s σ H _ I q0) ?_)
  rintro v s1 ⟨x, H1, I1, r1, β1, M1, n, a, P', w', kvs, rs1, rm1, hb, rfl, hM, h1⟩
  cases r1
  obtain ⟨xs, vs, g1, g2, g3, g4, g5⟩ := rm1.cell _ a _ hb hM
  obtain ⟨⟨o, es, ep, o1, o2, o3⟩, _⟩ := I1.hok a _ g1
  refine ⟨"dict", "dict.setdefault", PySem.F.plainAttrs_dict, PySem.F.slot_dict_setdefault, PySem.F.type_dict_setdefault, ⟨o, o1, o2.1⟩, fun b e => by cases e; exact ⟨o, o1, o2.2.1⟩, ?_⟩
  have q1 : tA X.K W (aCons fk (aCons fv aNil)) σ H1 fun ys H2 => ∃ β2 M2 k v, RM X.K β2 H2 M2 ∧ β2.hs[n]? = some a ∧ RTs X.K β2 H2 [k, v] ys ∧ Sat X.K W σ (RT X.K) β2 H2 (oSetDef X.prog X.w (.ref n) k v M2) Q := by
    refine ⟨β1, sl, M1, rs1, rm1, ?_⟩
    have h2 : Sat X.K W σ (RT X.K) β1 H1 ((aCons fk (aCons fv aNil) sl M1).bind fun ts M3 => match ts with
        | [k, v] => oSetDef X.prog X.w (.ref n) k v M3
        | _ => .stuck) Q := by
      refine cast ?_ h1
      congr 1
      unfold aCons aNil
      simp only [Res.bind_bind, Res.bind_ok]
    refine Sat.bind h2 ?_
    intro ts M2 β2 H2 ys e2 rm2 ry h3
    split at h3
    · exact ⟨β2, M2, _, _, rm2, e2.toMon.at_ hb, ry, h3⟩
    · exact h3.elim
  have hA := (a_cons hk (a_cons hv a_nil hs1) hs).run cpos pins s1 σ H1 _ I1 q1
  rw [hs] at hA ⊢
  refine Calls.callWith_builtin (by show (false || (backTo cpos (starEach [ev] X.env)).any (·.1)) = false; rw [hplain] <;> rfl) (Calls.evalArgs_plain ?_)
  refine thn hA ?_
  rintro us s2 ⟨ys, H2, I2, r2, β2, M2, k, v, rm2, hb2, ry, h2⟩
  obtain ⟨yk, q, rfl, ryk, ry'⟩ := ry.uncons
  obtain ⟨yv, q', rfl, ryv, ry''⟩ := ry'.uncons
  have e := ry''.nil_of
  subst e
  obtain ⟨uk, uv, rfl, ruk, ruv⟩ := Vals.two r2
  unfold oSetDef at h2
  simp only at h2
  split at h2
  · rename_i P2 w2 kvs2 hM2
    split at h2
    · rename_i hPw
      obtain ⟨rfl, rfl⟩ := hPw
      split at h2
      · rename_i kk hkk
        split at h2
        · rename_i hcond
          obtain ⟨c1, c2, c3⟩ := hcond
          obtain ⟨xs, vs, g1, g2, g3, g4, g5⟩ := rm2.cell _ a _ hb2 hM2
          obtain ⟨⟨o, es, ep, o1, o2, o3, o4, o5, o6⟩, _⟩ := I2.hok a _ g1
          obtain ⟨kts, rfl⟩ : ∃ kts, k = .tup kts := by
            cases k with
            | tup kts => exact ⟨kts, rfl⟩
            | _ => simp [isTupT] at c1
          obtain ⟨ka, rfl⟩ : ∃ ka, yk = .ref ka := by
            simp only [RT] at ryk
            obtain ⟨ka, _, e, _⟩ := ryk
            exact ⟨ka, e⟩
          cases ruk
          have kis : (nestedKind X.prog X.w).is s2.heap kk ka := ⟨nk_is I2 _ _ _ _ hkk ryk rfl, c2⟩
          have dd : s2.heap.DictOfH (nestedKind X.prog X.w) a xs := ⟨o, es, ep, o1, o2, o3, o4, fun x hx => by
            obtain ⟨t, t1, t2, t3⟩ := g5 x hx
            exact ⟨nk_is I2 _ _ _ _ t1 t3 rfl, t2⟩, o5⟩
          have hlen : xs.length = kvs2.length := by simpa using congrArg List.length g2
          obtain ⟨d1, d2⟩ := dn_rel (k := kk) g2 g3 g4
          refine call_setdefault_heap (knd := nestedKind X.prog X.w) (k := kk) (by show X.A.in1.units + 8 < cLine; rw [Around.in1_units]; omega) kis o6 dd (fun p hp => ?_) (fun hn h' dd' hs' => ?_) (by rw [hlen]; exact lim_ok (by omega))
          · split at h2
            · rename_i t ht
              obtain ⟨p', w', f1, f2, f3⟩ := d1 t ht
              rw [hp] at f1
              cases f1
              exact ⟨w', H2, I2.tok _, f2, h2 β2 H2 _ .refl rm2 f3⟩
            · rename_i hno
              have := d2 hno
              rw [hp] at this
              cases this
          · split at h2
            · rename_i t ht
              obtain ⟨p', w', f1, f2, f3⟩ := d1 t ht
              rw [hn] at f1
              cases f1
            · rw [storedH_new hn] at dd'
              obtain ⟨o', es', ep', z1, z2, z3, z4, z5, z6⟩ := dd'
              have new : ObjOk X.prog X.w (upd H2 a (DnO X.prog X.w a (xs ++ [(kk, ka, uv)]))) h' a (DnO X.prog X.w a (xs ++ [(kk, ka, uv)])) :=
                ⟨⟨o', es', ep', z1, z2, z3, z4, z6, o6⟩, ⟨_, z1⟩, dn_stays⟩
              have I3 := d_write (t' := s2.toks + (nestedKind X.prog X.w).draws kk) I2 (by rw [g1]; exact True.intro) hs' ⟨_, z1⟩ new
              have ew := Ext.write (o := DnO X.prog X.w a (xs ++ [(kk, ka, uv)])) rm2 (List.mem_of_getElem? hb2)
              refine ⟨yv, _, I3, ruv, h2 β2 _ _ ew (rm2.write hb2 ⟨xs ++ [(kk, ka, uv)], vs ++ [yv], upd_same, ?_, ?_, ?_, ?_⟩) (ryv.up ew)⟩
              · rw [List.map_append, List.map_append, g2]; rfl
              · rw [List.map_append]; exact Vals.app g3 (.cons ruv .nil)
              · rw [List.map_append]; exact (g4.up ew).snoc (ryv.up ew)
              · intro x hx
                rcases List.mem_append.mp hx with hx | hx
                · obtain ⟨t, t1, t2, t3⟩ := g5 x hx
                  exact ⟨t, t1, t2, t3.up ew⟩
                · rw [List.mem_singleton] at hx
                  subst hx
                  exact ⟨_, hkk, c2, ryk.up ew⟩
        · exact h2.elim
      · exact h2.elim
    · exact h2.elim
  · exact h2.elim
end
open Classical in
/-- len of such a dict -/
noncomputable def oLenN (P : Program) (w : World) : List T → Mem → Res T := o1 fun t M => match t with
  | .ref n => match M[n]? with
    | some (.dn P' w' kvs) => if P' = P ∧ w' = w ∧ kvs.length ≤ lim then .ok (.int (kvs.length : Nat)) M else .stuck
    | _ => .stuck
  | _ => .stuck
def rLenN (K : PySem.W.Frag) (P : Program) (w : World) : List V → Hp → VK → Prop := fun xs H Q => ∃ p xs', xs = [.ref p] ∧ H p = some (DnO P w p xs') ∧ xs'.length ≤ lim ∧
  (∀ x ∈ xs', ∃ (β : Bag) (t : T), T.nk t = some x.1 ∧ x.1.depth ≤ 8 ∧ RT K β H t (.ref x.2.1)) ∧ Q (.int ((xs'.length : Nat) : Int)) H
section
variable {X : Cx}
theorem call_lenN : CallR X (.builtin "len") (rLenN X.K X.prog X.w) := by
  intro pins s σ H xs us Q I r h
  obtain ⟨p, xs', rfl, hp, hl, hk, q⟩ := h
  obtain ⟨u, rfl, rx⟩ := vals1 r
  obtain rfl : u = .ref p := rx
  obtain ⟨⟨o, es, ep, o1, o2, o3, o4, o5, o6⟩, _⟩ := I.hok p _ hp
  have dd : s.heap.DictOfH (nestedKind X.prog X.w) p xs' := ⟨o, es, ep, o1, o2, o3, o4, fun x hx => by
    obtain ⟨β, t, t1, t2, t3⟩ := hk x hx
    exact ⟨nk_is I _ _ _ _ t1 t3 rfl, t2⟩, o5⟩
  refine call_len_dictH o6 dd (by unfold lim at hl; omega) ?_
  exact ⟨.int ((xs'.length : Nat) : Int), H, I.tok _, ⟨_, rfl⟩, q⟩
theorem c_lenN : CallF X (.builtin "len") (oLenN X.prog X.w) := by
  refine ⟨_, call_lenN, fun W σ β M H xs ts Q rm rx h => o1_sound rx h fun t x ex r h => ?_⟩
  subst ex
  split at h
  · rename_i n
    split at h
    · rename_i P' w' kvs hM
      split at h
      · rename_i hc
        obtain ⟨rfl, rfl, hl⟩ := hc
        simp only [RT] at r
        obtain ⟨a, rfl, hb⟩ := r
        obtain ⟨xs, vs, g1, g2, g3, g4, g5⟩ := rm.cell _ a _ hb hM
        have hlen : xs.length = kvs.length := by simpa using congrArg List.length g2
        refine ⟨a, xs, rfl, g1, by rw [hlen]; exact hl, fun x hx => ?_, ?_⟩
        · obtain ⟨t, t1, t2, t3⟩ := g5 x hx
          exact ⟨β, t, t1, t2, t3⟩
        · rw [hlen]
          exact h β H _ .refl rm (by simp only [RT])
      · exact h.elim
    · exact h.elim
  · exact h.elim
end
end Fl
set_option Elab.async false
set_option linter.all false
set_option maxRecDepth 100000
set_option maxHeartbeats 2000000
/-! Fl15: functions by name, junk cells forgotten, room. -/
namespace Fl
open PySem PySem.Spec PyProof.Rows L2

/-- the module's function x computes g -/
structure FnT (P : Program) (w : World) (K : PySem.W.Frag) (mg : Str → Option Value) (base : Heap) (k : Nat) (x : Str) (ps : List Str) (g : List T → Mem → Res T) : Prop where
  ex : ∃ (f : Addr) (fd : FuncData), mg x = some (.ref f) ∧ PySem.W.keepIn K (.ref f) = true ∧ Binds K fd ps [] ∧ FnG P w K mg base k f fd ps g
/-- a def of the text, named x -/
structure DefT (K : PySem.W.Frag) (mg : Str → Option Value) (x : Str) (st : Stmt) (ps : List Str) : Prop where
  ex : ∃ (f : Addr) (fd : FuncData), Fun K x x st f fd ∧ mg x = some (.ref f) ∧ Binds K fd ps []
section
variable {P : Program} {w : World} {K : PySem.W.Frag} {mg : Str → Option Value} {base : Heap} {k : Nat} {x : Str} {ps : List Str} {g g1 g2 : List T → Mem → Res T}
theorem FnT.mono {j : Nat} (F : FnT P w K mg base j x ps g) (h : j ≤ k) : FnT P w K mg base k x ps g :=
  let ⟨f, fd, a, b, c, d⟩ := F.ex; ⟨f, fd, a, b, c, d.mono h⟩
theorem FnT.imp (F : FnT P w K mg base k x ps g1) (h : ∀ ts M, ts.length = ps.length → g2 ts M = .stuck ∨ g1 ts M = g2 ts M) : FnT P w K mg base k x ps g2 :=
  let ⟨f, fd, a, b, c, d⟩ := F.ex; ⟨f, fd, a, b, c, d.imp h⟩
theorem FnT.stuck {st : Stmt} (D : DefT K mg x st ps) : FnT P w K mg base k x ps (fun _ _ => .stuck) :=
  let ⟨f, fd, a, b, c⟩ := D.ex; ⟨f, fd, b, a.kp, c, ⟨fun A outer s H args us vs ts β M Q E hr hg e0 hb rv rt hl rm sat => sat.elim⟩⟩
theorem DefT.mk' {st : Stmt} {f : Addr} {fd : FuncData} (F : Fun K x x st f fd) (hm : mg x = some (.ref f)) (hb : Binds K fd ps []) : DefT K mg x st ps := ⟨f, fd, F, hm, hb⟩
theorem defT {st : Stmt} {N : List Str} {B : FS} (D : DefT K mg x st ps) (S : FnScope N ps (defScope st))
    (hbody : ∀ (f : Addr) (cdv : Value) (A : Around) (outer : List Env) (s : Shared) (H : Hp) (E : XK), Room k (A.deeper (envOfC x (defScope st) s.heap.objs.size f cdv)) → (A.deeper (envOfC x (defScope st) s.heap.objs.size f cdv)).guards = some [] →
      PSs (cxOf (L2.CX P w) P w K mg base N x (defScope st) f cdv A outer s H E) (defBody st) (tS K (fun c d _ H => E c d H) B)) : FnT P w K mg base (k + 1) x ps (fnRes N B) := by
  obtain ⟨f, fd, F, hm, hb⟩ := D.ex
  exact ⟨f, fd, hm, F.kp, hb, fun_G F S fun cdv A outer s H E hr hg => hbody f cdv A outer s H E hr hg⟩
end
section
variable {X : Cx} {W : WX} {k j : Nat} {ps : List Str} {g : List T → Mem → Res T} {x : Str} {p pos : Pos} {e : Expr} {es : List Expr} {ga : FA} {n : Nat}
theorem f_callT (F : FnT X.prog X.w X.K X.mg X.base j x ps g) (hjk : j ≤ k) (hr : Room k X.A) (hgd : X.A.guards = some []) (tk : Takes X W)
    (ha : PA X (e :: es) (tA X.K W ga)) (hn : ps.length = n := by rfl) (hg : Gl X x := by rfl) (hdb : (x == ("__debug__" : Str)) = false := by decide) (he : starEach (e :: es) X.env = (false, eval e X.env) :: starEach es X.env := by rfl) (hpl : (backTo pos (starEach es X.env)).any (·.1) = false := by rfl) :
    PE X (.Call (.Name x p) (e :: es) [] pos) (tE X.K W (fCall g [] n ga)) := by
  obtain ⟨f, fd, hm, hk, hb, F⟩ := F.ex
  exact f_call (F.mono hjk) hr hgd hm hk hb tk ha hn hg hdb he hpl
theorem f_callT0 (F : FnT X.prog X.w X.K X.mg X.base j x [] g) (hjk : j ≤ k) (hr : Room k X.A) (hgd : X.A.guards = some []) (tk : Takes X W)
    (hg : Gl X x := by rfl) (hdb : (x == ("__debug__" : Str)) = false := by decide) : PE X (.Call (.Name x p) [] [] pos) (tE X.K W (fCall g [] 0 aNil)) := by
  obtain ⟨f, fd, hm, hk, hb, F⟩ := F.ex
  exact f_call0 (F.mono hjk) hr hgd hm hk hb tk hg hdb
end
theorem rU1 {k : Nat} {A : Around} (r : Room k A) : A.units + 1 < cLine := by have := r.un; omega
theorem rU9 {k : Nat} {A : Around} (r : Room k A) : A.units + 9 < cLine := by have := r.un; omega
theorem rU64 {k : Nat} {A : Around} (r : Room k A) : A.units + 64 < cLine := by have := r.un; omega
theorem rU65 {k : Nat} {A : Around} (r : Room k A) : A.units + 65 < cLine := by have := r.un; omega
theorem rU66 {k : Nat} {A : Around} (r : Room k A) : A.units + 66 < cLine := by have := r.un; omega

/-! ### junk forgotten -/
mutual
def T.clo (n : Nat) : T → Prop
  | .ref m => m < n
  | .tup ts => T.clos n ts
  | .lst ts => T.clos n ts
  | .scr ts => T.clos n ts
  | _ => True
def T.clos (n : Nat) : List T → Prop
  | [] => True
  | t :: ts => T.clo n t ∧ T.clos n ts
end
theorem T.clos_iff (n : Nat) : ∀ ts : List T, T.clos n ts ↔ ∀ t ∈ ts, T.clo n t
  | [] => by simp [T.clos]
  | t :: ts => by simp [T.clos, T.clos_iff n ts]
def Cell.clo (n : Nat) : Cell → Prop
  | .lst ts => T.clos n ts
  | .dk kvs => T.clos n (kvs.map (·.2))
  | .dn _ _ _ => False
section
variable {K : PySem.W.Frag} {β β1 : Bag} {H : Hp}
theorem Own.sub (h : ∃ l, β1.hs = β.hs ++ l) (ha : β1.av = β.av) {a : Addr} (o : Own β a) : Own β1 a := by
  obtain ⟨l, e⟩ := h
  rcases o with o | o
  · exact .inl (by rw [e]; exact List.mem_append_left _ o)
  · exact .inr (by rw [ha]; exact o)
mutual
theorem RT.shrink (h : ∃ l, β1.hs = β.hs ++ l) (ha : β1.av = β.av) : ∀ (t : T) (v : V), T.clo β.hs.length t → RT K β1 H t v → RT K β H t v
  | .non, v, _, h => by simpa only [RT] using h
  | .bl b, v, _, h => by simpa only [RT] using h
  | .int i, v, _, h => by simpa only [RT] using h
  | .str x, v, _, h => by simpa only [RT] using h
  | .ty n, v, _, h => by simpa only [RT] using h
  | .adr a, v, _, h => by simpa only [RT] using h
  | .ref n, v, hb, r => by
    simp only [RT] at r ⊢
    simp only [T.clo] at hb
    obtain ⟨a, h1, h2⟩ := r
    obtain ⟨l, e⟩ := h
    refine ⟨a, h1, ?_⟩
    rw [e, List.getElem?_append_left hb] at h2
    exact h2
  | .tup ts, v, hb, r => by
    simp only [RT] at r ⊢
    simp only [T.clo] at hb
    obtain ⟨a, vs, h1, h2, h3⟩ := r
    exact ⟨a, vs, h1, h2.imp (fun z => ⟨fun o => z.1 (Own.sub h ha o), z.2⟩) id, RTs.shrink h ha ts vs hb h3⟩
  | .lst ts, v, hb, r => by
    simp only [RT] at r ⊢
    simp only [T.clo] at hb
    obtain ⟨a, vs, h1, n, h2, h3⟩ := r
    exact ⟨a, vs, h1, fun o => n (Own.sub h ha o), h2, RTs.shrink h ha ts vs hb h3⟩
  | .scr ts, v, hb, r => by
    simp only [RT] at r ⊢
    simp only [T.clo] at hb
    obtain ⟨a, vs, h1, h2, h3⟩ := r
    exact ⟨a, vs, h1, h2.imp (fun z => ⟨fun o => z.1 (Own.sub h ha o), z.2⟩) id, RTs.shrink h ha ts vs hb h3⟩
  | .iset ns, v, _, r => by
    simp only [RT] at r ⊢
    obtain ⟨a, h1, n, h2⟩ := r
    exact ⟨a, h1, fun o => n (Own.sub h ha o), h2⟩
  | .rng lo hi, v, _, r => by
    simp only [RT] at r ⊢
    obtain ⟨a, h1, n, h2⟩ := r
    exact ⟨a, h1, fun o => n (Own.sub h ha o), h2⟩
theorem RTs.shrink (h : ∃ l, β1.hs = β.hs ++ l) (ha : β1.av = β.av) : ∀ (ts : List T) (vs : List V), T.clos β.hs.length ts → RTs K β1 H ts vs → RTs K β H ts vs
  | [], vs, _, r => by simpa only [RTs] using r
  | t :: ts, vs, hb, r => by
    simp only [RTs] at r ⊢
    simp only [T.clos] at hb
    obtain ⟨v, q, h1, h2, h3⟩ := r
    exact ⟨v, q, h1, RT.shrink h ha t v hb.1 h2, RTs.shrink h ha ts q hb.2 h3⟩
end
mutual
theorem RT.belowI : ∀ (t : T) (v : V), RT K β H t v → T.clo β.hs.length t
  | .non, v, h => trivial
  | .bl b, v, h => trivial
  | .int i, v, h => trivial
  | .str x, v, h => trivial
  | .ty n, v, h => trivial
  | .adr a, v, h => trivial
  | .ref n, v, h => by
    simp only [RT] at h
    obtain ⟨a, _, h2⟩ := h
    exact (List.getElem?_eq_some_iff.mp h2).1
  | .tup ts, v, h => by
    simp only [RT] at h
    obtain ⟨a, vs, _, _, h3⟩ := h
    exact RTs.belowI ts vs h3
  | .lst ts, v, h => by
    simp only [RT] at h
    obtain ⟨a, vs, _, _, _, h3⟩ := h
    exact RTs.belowI ts vs h3
  | .scr ts, v, h => by
    simp only [RT] at h
    obtain ⟨a, vs, _, _, h3⟩ := h
    exact RTs.belowI ts vs h3
  | .iset ns, v, h => trivial
  | .rng lo hi, v, h => trivial
theorem RTs.belowI : ∀ (ts : List T) (vs : List V), RTs K β H ts vs → T.clos β.hs.length ts
  | [], vs, _ => trivial
  | t :: ts, vs, h => by
    obtain ⟨v, q, _, h2, h3⟩ := h.uncons
    exact ⟨RT.belowI t v h2, RTs.belowI ts q h3⟩
end
theorem RC.shrink (h : ∃ l, β1.hs = β.hs ++ l) (ha : β1.av = β.av) {a : Addr} : ∀ {c : Cell}, Cell.clo β.hs.length c → RC K β1 H a c → RC K β H a c
  | .lst ts, hb, ⟨vs, h1, h2⟩ => ⟨vs, h1, RTs.shrink h ha ts vs hb h2⟩
  | .dk kvs, hb, ⟨us, h1, h2, h3⟩ => ⟨us, h1, h2, RTs.shrink h ha _ _ hb h3⟩
  | .dn _ _ _, hb, _ => hb.elim
theorem RM.belowI {M : Mem} (rm : RM K β H M) : ∀ c ∈ M, Cell.clo M.length c ∨ ∃ P w kvs, c = .dn P w kvs := by
  intro c hc
  obtain ⟨n, hn, e⟩ := List.mem_iff_getElem.mp hc
  have hn' : n < β.hs.length := by rw [rm.len]; exact hn
  have := rm.cell n β.hs[n] c (List.getElem?_eq_getElem hn') (by rw [List.getElem?_eq_getElem hn, e])
  rw [← rm.len]
  cases c with
  | lst ts => obtain ⟨vs, _, h2⟩ := this; exact .inl (RTs.belowI _ _ h2)
  | dk kvs => obtain ⟨us, _, _, h2⟩ := this; exact .inl (RTs.belowI _ _ h2)
  | dn P w kvs => exact .inr ⟨P, w, kvs, rfl⟩
end
/-- what the caller sees of v: a list made within is as good as one that nobody changes -/
inductive Out (n : Nat) (M : Mem) : T → T → Prop
  | same {v : T} : T.clo n v → Out n M v v
  | lst {m : Nat} {us : List T} : n ≤ m → M[m]? = some (.lst us) → T.clos n us → Out n M (.ref m) (.lst us)
section
variable {P : Program} {w : World} {K : PySem.W.Frag} {mg : Str → Option Value} {base : Heap} {k : Nat} {x : Str} {ps : List Str} {g1 g2 : List T → Mem → Res T}
theorem FnT.forget (F : FnT P w K mg base k x ps g1) (h : ∀ ts M, ts.length = ps.length → T.clos M.length ts → (∀ c ∈ M, Cell.clo M.length c ∨ ∃ P w kvs, c = .dn P w kvs) →
      g2 ts M = .stuck ∨ ∃ v v' M0 J, g1 ts M = .ok v (M0 ++ J) ∧ g2 ts M = .ok v' M0 ∧ M0.length = M.length ∧ (∀ c ∈ M0, Cell.clo M.length c) ∧ Out M.length (M0 ++ J) v v') : FnT P w K mg base k x ps g2 := by
  obtain ⟨f, fd, a, b, c, d⟩ := F.ex
  refine ⟨f, fd, a, b, c, ⟨fun A outer s H args us vs ts β M Q E hr hg e0 hb rv rt hl rm sat => d.run A outer s H args us vs ts β M Q E hr hg e0 hb rv rt hl rm ?_⟩⟩
  rcases h ts M hl (by rw [← rm.len]; exact RTs.belowI _ _ rt) rm.belowI with e | ⟨v, v', M0, J, e1, e2, l0, c0, out⟩
  · rw [e] at sat; exact sat.elim
  rw [e2] at sat
  rw [e1]
  intro β1 H1 x ext rm1 rx
  obtain ⟨l, hpre⟩ := ext.pre
  have e' : Ext β H β H1 :=
    { pre := ⟨[], by simp⟩, old := fun a u n q => ⟨n, (ext.old a u n q).2⟩, av := rfl, keep := ext.keep }
  have hb : β.hs.length = M.length := rm.len
  have rm' : RM K β H1 M0 := by
    refine ⟨by rw [hb, l0], rm.nd, fun n a c h1 h2 => ?_, fun a ha => ⟨(rm.avs a ha).1, (rm1.avs a (by rw [ext.av]; exact ha)).2⟩⟩
    obtain ⟨hn, _⟩ := List.getElem?_eq_some_iff.mp h1
    have h1' : β1.hs[n]? = some a := ext.toMon.at_ h1
    have h2' : (M0 ++ J)[n]? = some c := by rw [List.getElem?_append_left (by rw [l0, ← hb]; exact hn)]; exact h2
    exact RC.shrink ⟨l, hpre⟩ ext.av (by rw [hb]; exact c0 c (List.mem_of_getElem? h2)) (rm1.cell n a c h1' h2')
  refine sat β H1 x e' rm' ?_
  cases out with
  | same hv => exact RT.shrink ⟨l, hpre⟩ ext.av _ _ (by rw [hb]; exact hv) rx
  | @lst m us hm hM hus =>
    simp only [RT] at rx ⊢
    obtain ⟨p, e, hp⟩ := rx
    obtain ⟨vs', q1, q2⟩ := rm1.cell m p _ hp hM
    refine ⟨p, vs', e, fun o => ?_, q1, RTs.shrink ⟨l, hpre⟩ ext.av _ _ (by rw [hb]; exact hus) q2⟩
    rcases o with o | o
    · obtain ⟨n, hn, en⟩ := List.mem_iff_getElem.mp o
      have h3 : β1.hs[n]? = some p := ext.toMon.at_ (by rw [List.getElem?_eq_getElem hn, en])
      obtain ⟨z1, z2⟩ := List.getElem?_eq_some_iff.mp h3
      obtain ⟨z3, z4⟩ := List.getElem?_eq_some_iff.mp hp
      have : n = m := (List.getElem_inj rm1.nd).mp (z2.trans z4.symm)
      omega
    · exact (rm1.avs p (by rw [ext.av]; exact o)).1 (List.mem_of_getElem? hp)
end
section
variable {X : Cx} {W : WX} {elt tg iter : Expr} {ifs : List Expr} {scope : Scope} {own : List (Str × Nat)} {pos spos py : Pos} {fi : FI} {G : FG} {tt : FT} {te : FE} {cell : Bool}
theorem s_lc2 {i : Nat} {y : Str} {tg1 iter1 : Expr} {ifs1 : List Expr} {vs1 : List Nat} {fi1 : FI} {G1 : FG} {tt1 : FT} (hc : X.calm = true) (hN : X.N.Nodup) (hi : PI X tg iter (tI X.K W fi)) (ok : BlkOk X.N X.env.scope scope own) (hv : ∀ i ∈ vs1, i ∈ own.map (·.2))
    (hg : ∀ (s : Shared) (H : Hp) (C : Addr) (cl : List (Str × Addr)) (fp : List Addr), PG (X.blk s H scope (compEnvC scope cl C X.env) fp) tg (tG X.K (own.map (·.2)) G))
    (ht : ∀ (s : Shared) (H : Hp) (C : Addr) (cl : List (Str × Addr)) (fp : List Addr), PTs (X.blk s H scope (compEnvC scope cl C X.env) fp) ifs (tT X.K W0 tt))
    (hi1 : ∀ (s : Shared) (H : Hp) (C : Addr) (cl : List (Str × Addr)) (fp : List Addr), PI (X.blk s H scope (compEnvC scope cl C X.env) fp) tg1 iter1 (tI X.K W0 fi1))
    (hg1 : ∀ (s : Shared) (H : Hp) (C : Addr) (cl : List (Str × Addr)) (fp : List Addr), PG (X.blk s H scope (compEnvC scope cl C X.env) fp) tg1 (tG X.K vs1 G1))
    (ht1 : ∀ (s : Shared) (H : Hp) (C : Addr) (cl : List (Str × Addr)) (fp : List Addr), PTs (X.blk s H scope (compEnvC scope cl C X.env) fp) ifs1 (tT X.K W0 tt1))
    (he : ∀ (s : Shared) (H : Hp) (C : Addr) (cl : List (Str × Addr)) (fp : List Addr), PE (X.blk s H scope (compEnvC scope cl C X.env) fp) elt (tE X.K W0 te))
    (hsw : swapsWith (.ListComp elt [⟨tg, iter, ifs, 0⟩, ⟨tg1, iter1, ifs1, 0⟩] scope pos) (some (.Name y py)) spos.line X.env = pure true := by exact sw_true rfl rfl rfl (by decide +kernel))
    (hy : X.N[i]? = some y := by rfl) (hyl : X.env.scope.names.lookup y = some .local := by rfl) (hs : ∀ x, foldedSetIterable iter X.env x = pure x := by intro _; rfl) (hs1 : ∀ env x, foldedSetIterable iter1 env x = pure x := by intro _ _; rfl) :
    PS X (.Assign [.Name y py] (.ListComp elt [⟨tg, iter, ifs, 0⟩, ⟨tg1, iter1, ifs1, 0⟩] scope pos) spos) (tS X.K W (fSet i (fLc2G cell fi G tt fi1 G1 tt1 te (own.map (·.2)) vs1))) := by
  refine psI (ps_setLc2 hc hN hy hyl hsw hi ok hv hg ht hi1 hg1 ht1 he hs hs1) fun D σ H h => ?_
  obtain ⟨β, s, M, rs, rm, h⟩ := h
  refine lc2_sound (K := X.K) (W := W) (cell := cell) ⟨β, s, M, rs, rm, Sat.st rs h ?_⟩
  intro v M1 β1 H1 x e1 rm1 rx h1
  exact h1 β1 H1 _ .refl rm1 ((rs.mono e1).set rx)
end
/-- a function's junk cells forgotten -/
theorem Out.det {n : Nat} {M : Mem} {v a b : T} (h : Out n M v a) (h' : Out n M v b) : a = b := by
  cases h with
  | same h1 =>
    cases h' with
    | same _ => rfl
    | lst h2 _ _ => simp only [T.clo] at h1; omega
  | lst h1 h2 h3 =>
    cases h' with
    | same h4 => simp only [T.clo] at h4; omega
    | lst _ h5 _ =>
      rw [h2] at h5
      cases h5
      rfl
open Classical in
noncomputable def cln (g : List T → Mem → Res T) : List T → Mem → Res T := fun ts M => match g ts M with
  | .ok v M1 => if h : ∃ v', Out M.length M1 v v' ∧ M.length ≤ M1.length ∧ ∀ c ∈ M1.take M.length, Cell.clo M.length c then .ok h.choose (M1.take M.length) else .stuck
  | _ => .stuck
theorem cln_ok {g : List T → Mem → Res T} {ts : List T} {M M0 J : Mem} {v v' : T} (h : g ts M = .ok v (M0 ++ J)) (hl : M0.length = M.length) (ho : Out M.length (M0 ++ J) v v') (hc : ∀ c ∈ M0, Cell.clo M.length c) : cln g ts M = .ok v' M0 := by
  have e : (M0 ++ J).take M.length = M0 := by rw [← hl, List.take_left']; rfl
  have hx : ∃ v', Out M.length (M0 ++ J) v v' ∧ M.length ≤ (M0 ++ J).length ∧ ∀ c ∈ (M0 ++ J).take M.length, Cell.clo M.length c := ⟨v', ho, by simp [hl], by rw [e]; exact hc⟩
  unfold cln
  rw [h]
  simp only
  rw [dif_pos hx, Out.det hx.choose_spec.1 ho]
  exact congrArg _ e
theorem FnT.cln {P : Program} {w : World} {K : PySem.W.Frag} {mg : Str → Option Value} {base : Heap} {k : Nat} {x : Str} {ps : List Str} {g : List T → Mem → Res T} (F : FnT P w K mg base k x ps g) : FnT P w K mg base k x ps (Fl.cln g) := by
  refine F.forget fun ts M _ _ _ => ?_
  unfold Fl.cln
  cases hg : g ts M with
  | ok v M1 =>
    simp only
    split
    · rename_i h
      obtain ⟨a, b, c⟩ := h.choose_spec
      refine .inr ⟨v, _, M1.take M.length, M1.drop M.length, by rw [List.take_append_drop], rfl, by rw [List.length_take]; omega, c, ?_⟩
      rw [List.take_append_drop]
      exact a
    · exact .inl rfl
  | ex c fs M1 => exact .inl rfl
  | stuck => exact .inl rfl
/-- the goal that k_head leaves, from the law's own function -/
theorem walk_T {l : PySem.W.OpenLaw} {n k : Nat} {q : Program} {loose : List Str} {XP : (Str → Option Value) → Heap → Prop} {YP : World → Heap → Prop} {d : DefRec} {K : Params → PySem.W.Frag} {x : Str} {g : World → List T → Mem → Res T}
    (hn : l.most = some n) (hn2 : n ≤ sizeLine) (hdf : d.params.defaults = []) (hr : Room k callerA) (hY : ∀ (w : World) (h : Heap), YP w h → (K w.params).In h)
    (F : ∀ (w : World) (mg : Str → Option Value) (fa : Addr) (h : Heap), (K w.params).In h → h.Ns mainGlobals mg → mg d.name = some (.ref fa) → ∀ base : Heap, FnT l.prog w (K w.params) mg base k d.name [x] (g w))
    (law : ∀ (w : World) (ns : List Int), ns.length ≤ n → ∃ M, g w [.scr (ns.map T.int)] [] = .ok (.bl true) M) :
    PySem.W.WalkO q loose XP YP l.row.toRowW d [] (fun f vs => PySem.call f vs) := by
  refine Att.attach_call hn hdf fun w s₀ s₁ mg mb fa o pm cd doc a vs ns G Y _ _ _ hmg hobj hints hlen hgen => ?_
  refine law_G (x := x) (hY w _ Y) G.T.g G.T.b G.T.builtins G.T.nolimit hgen hobj hints (Nat.le_trans hlen hn2) hlen hr (fun base _ _ => ?_) (law w)
  obtain ⟨f, fd, hm, _, hb, hF⟩ := (F w mg fa _ (hY w _ Y) G.T.g hmg base).ex
  rw [hmg] at hm
  cases hm
  exact ⟨fd, hb, hF⟩
end Fl
set_option Elab.async false
set_option linter.all false
set_option maxRecDepth 100000
set_option maxHeartbeats 4000000
namespace Fl
open PySem PySem.Spec PyProof.Rows L2
/-! made by gen.py -/
abbrev GT := List T → Mem → Res T
def topS (i : Nat) : Stmt := PySem.Challenge.pw_tickworks_k86_least_tables_and_parting_r.main.body.getD i (.Pass ⟨0, 0, 0, 0⟩)
-- is_number level 1 params 1
-- is_word level 1 params 1
-- is_told level 8 params 1
-- is_entry level 9 params 3
-- widths level 1 params 1
-- is_table level 10 params 1
-- grouped level 1 params 1
-- least_table level 2 params 1
-- tables_parted level 1 params 2
-- _law_open_cells level 1 params 1
-- _law_pick level 1 params 2
-- _law_any_order level 2 params 2
-- _law_like level 1 params 2
-- _law_draw_entry level 2 params 3
-- _law_draw_lines level 3 params 4
-- _law_parting level 1 params 4
-- _law_least_of level 2 params 1
-- _law_shuffled level 3 params 2
-- _law_known_right level 11 params 0
-- law level 12 params 1
structure Top (K : PySem.W.Frag) (mg : Str → Option Value) : Prop where
  d_is_number : DefT K mg "is_number" (topS 4) ["value"]
  d_is_word : DefT K mg "is_word" (topS 5) ["value"]
  d_is_told : DefT K mg "is_told" (topS 8) ["value"]
  d_is_entry : DefT K mg "is_entry" (topS 9) ["value", "lines", "wide"]
  d_widths : DefT K mg "widths" (topS 10) ["value"]
  d_is_table : DefT K mg "is_table" (topS 11) ["value"]
  d_grouped : DefT K mg "grouped" (topS 12) ["table"]
  d_least_table : DefT K mg "least_table" (topS 13) ["table"]
  d_tables_parted : DefT K mg "tables_parted" (topS 14) ["one", "other"]
  d__law_open_cells : DefT K mg "_law_open_cells" (topS 16) ["_law_script"]
  d__law_pick : DefT K mg "_law_pick" (topS 17) ["_law_source", "_law_most"]
  d__law_any_order : DefT K mg "_law_any_order" (topS 18) ["_law_source", "_law_things"]
  d__law_like : DefT K mg "_law_like" (topS 19) ["_law_found", "_law_due"]
  d__law_draw_entry : DefT K mg "_law_draw_entry" (topS 20) ["_law_source", "_law_lines", "_law_wide"]
  d__law_draw_lines : DefT K mg "_law_draw_lines" (topS 21) ["_law_source", "_law_lines", "_law_long", "_law_wide"]
  d__law_parting : DefT K mg "_law_parting" (topS 22) ["_law_one", "_law_k", "_law_other", "_law_j"]
  d__law_least_of : DefT K mg "_law_least_of" (topS 23) ["_law_table"]
  d__law_shuffled : DefT K mg "_law_shuffled" (topS 24) ["_law_source", "_law_table"]
  d__law_known_right : DefT K mg "_law_known_right" (topS 25) []
  d_law : DefT K mg "law" (topS 26) ["_law_script"]
  mn_abs : mg "abs" = none
  mn_all : mg "all" = none
  mn_bool : mg "bool" = none
  mn_enumerate : mg "enumerate" = none
  mn_int : mg "int" = none
  mn_isinstance : mg "isinstance" = none
  mn_len : mg "len" = none
  mn_list : mg "list" = none
  mn_range : mg "range" = none
  mn_repr : mg "repr" = none
  mn_set : mg "set" = none
  mn_str : mg "str" = none
  mn_tuple : mg "tuple" = none
  gl_BAD_WORDS : ∃ a, mg "BAD_WORDS" = some (.ref a) ∧ StT K a [(.str "clash"), (.str "stuck")]
  gl_LETTERS : ∃ t, mg "LETTERS" = some (.str "abcdefghijklmnopqrstuvwxyz" t)
  gl_MOST_COUNT : ∃ t, mg "MOST_COUNT" = some (.int 6 t)
  gl_MOST_LETTERS : ∃ t, mg "MOST_LETTERS" = some (.int 8 t)
theorem sta_BAD_WORDS {K : PySem.W.Frag} {a : Addr} {β : Bag} {H : Hp} (h : StT K a [(.str "clash"), (.str "stuck")]) : RT K β H (.tup [(.str "clash"), (.str "stuck")]) (.ref a) := by
  simp only [RT]
  exact ⟨a, _, rfl, .inr h, .cons (by simp only [RT]) (.cons (by simp only [RT]) (.nil))⟩
def fu (s : Slots) (M : Mem) : Nat := 1000
section
variable {P : Program} {w : World} {K : PySem.W.Frag} {mg : Str → Option Value} {base : Heap}
abbrev s_is_number : Stmt := topS 4
abbrev N_is_number : List Str := ["value"]
theorem sc_is_number : FnScope N_is_number ["value"] (defScope s_is_number) := ⟨rfl, rfl, rfl, by decide +kernel, rfl, by decide +kernel, by decide +kernel⟩
def F_is_number : FS :=
  (fRet (fAndV (fCB oIsi (aCons (fVar 0) (aCons (fC (.ty "int")) aNil))) (fNotV (fCB oIsi (aCons (fVar 0) (aCons (fC (.ty "bool")) aNil))))))
def g_is_number : GT := fnRes N_is_number (F_is_number)
theorem ok_is_number (tp : Top K mg) : FnT P w K mg base 1 "is_number" ["value"] (g_is_number) := by
  refine defT (k := 0) (B := F_is_number) tp.d_is_number sc_is_number fun f cdv A outer s H E hr hg => ?_
  exact (s_one (s_ret (f_and (f_cb c_isi rfl tp.mn_isinstance boot_isinstance (a_cons (f_var 0) (a_cons (f_blt (v := .ty "int") rfl tp.mn_int boot_int rfl (fun _ _ => by simp only [RT])) a_nil))) (f_one (f_not (f_cb c_isi rfl tp.mn_isinstance boot_isinstance (a_cons (f_var 0) (a_cons (f_blt (v := .ty "bool") rfl tp.mn_bool boot_bool rfl (fun _ _ => by simp only [RT])) a_nil))))))))
abbrev s_is_word : Stmt := topS 5
abbrev N_is_word : List Str := ["value", "letter"]
theorem sc_is_word : FnScope N_is_word ["value"] (defScope s_is_word) := ⟨rfl, rfl, rfl, by decide +kernel, rfl, by decide +kernel, by decide +kernel⟩
def e1_is_word : FE :=
  (fOp oIn (fVar 1) (fC (.str "abcdefghijklmnopqrstuvwxyz")))
def F_is_word : FS :=
  (fSeq (fIfS (fOr (fNot (fB (fCB oIsi (aCons (fVar 0) (aCons (fC (.ty "str")) aNil))))) (fNot (fB (fChain oLe oLe (fC (.int 1)) (fCB oLen (aCons (fVar 0) aNil)) (fC (.int 8))))))
  (fRet (fC (.bl false)))
  fNext)
  (fRet (fCB oAll (aCons (fLcG false (iSeq (fVar 0)) (gNm 1) gYes e1_is_word [1]) aNil))))
def g_is_word : GT := fnRes N_is_word (F_is_word)
theorem ok_is_word (tp : Top K mg) : FnT P w K mg base 1 "is_word" ["value"] (g_is_word) := by
  obtain ⟨tc_LETTERS, hc_LETTERS⟩ := tp.gl_LETTERS
  obtain ⟨tc_MOST_LETTERS, hc_MOST_LETTERS⟩ := tp.gl_MOST_LETTERS
  refine defT (k := 0) (B := F_is_word) tp.d_is_word sc_is_word fun f cdv A outer s H E hr hg => ?_
  exact (s_cons (s_if (PW.pt (w_or (g_not (g_val (f_cb c_isi rfl tp.mn_isinstance boot_isinstance (a_cons (f_var 0) (a_cons (f_blt (v := .ty "str") rfl tp.mn_str boot_str rfl (fun _ _ => by simp only [RT])) a_nil))))) (w_one (g_not (g_chain b_le b_le f_int (f_cb c_len rfl tp.mn_len boot_len (a_cons (f_var 0) a_nil)) (f_glob (v := (.int 8)) rfl hc_MOST_LETTERS ⟨_, rfl⟩ (fun _ _ => by simp only [RT])))))))
  (s_one (s_ret f_bl))
  s_nil)
  (s_one (s_ret (f_cb (c_all rfl) rfl tp.mn_all boot_all (a_cons (f_lcG (cell := false) (own := [("letter", 1)]) rfl sc_is_word.nd (i_seq (f_var 0)) (by refine (show BlkOk N_is_word (defScope s_is_word) _ [("letter", 1)] from ⟨rfl, by decide +kernel, by decide +kernel, by decide +kernel, by decide +kernel⟩)) (fun _ _ _ _ _ => (t_name (pg_name (i := 1) sc_is_word.nd rfl (Or.inl rfl)) (by decide))) (fun _ _ _ _ _ => pts_none) (fun _ _ _ _ _ => (f_cmp (b_in (rU65 hr)) (f_var 1) (f_glob (v := (.str "abcdefghijklmnopqrstuvwxyz")) rfl hc_LETTERS ⟨_, rfl⟩ (fun _ _ => by simp only [RT]))))) a_nil)))))
abbrev s_is_told : Stmt := topS 8
abbrev N_is_told : List Str := ["value"]
theorem sc_is_told : FnScope N_is_told ["value"] (defScope s_is_told) := ⟨rfl, rfl, rfl, by decide +kernel, rfl, by decide +kernel, by decide +kernel⟩
def F_is_told (m_is_word : GT) (m_is_number : GT) (rec : GT) : FS :=
  (fSeq (fIfS (fB (fCB oIsi (aCons (fVar 0) (aCons (fC (.ty "tuple")) aNil))))
  (fRet (fAndV (fOp oEq (fCB oLen (aCons (fVar 0) aNil)) (fC (.int 2))) (fAndV (fOp oNotIn (fC .non) (fVar 0)) (fAndV (fCall rec [] 1 (aCons (fIx (fVar 0) (fC (.int 0))) aNil)) (fCall rec [] 1 (aCons (fIx (fVar 0) (fC (.int 1))) aNil))))))
  fNext)
  (fRet (fOrV (fOp oIs (fVar 0) (fC .non)) (fOrV (fCall m_is_word [] 1 (aCons (fVar 0) aNil)) (fAndV (fCall m_is_number [] 1 (aCons (fVar 0) aNil)) (fChain oLe oLt (fC (.int 0)) (fVar 0) (fC (.int 6))))))))
def gr_is_told (m_is_word : GT) (m_is_number : GT) : Nat → GT
  | 0 => fun _ _ => .stuck
  | m + 1 => fnRes N_is_told (F_is_told m_is_word m_is_number (gr_is_told m_is_word m_is_number m))
abbrev g_is_told (m_is_word : GT) (m_is_number : GT) : GT := gr_is_told m_is_word m_is_number 6
theorem okr_is_told (tp : Top K mg) {m_is_word : GT} {m_is_number : GT} (hF_is_word : FnT P w K mg base 1 "is_word" ["value"] m_is_word) (hF_is_number : FnT P w K mg base 1 "is_number" ["value"] m_is_number) : ∀ m, FnT P w K mg base (m + 1) "is_told" ["value"] (gr_is_told m_is_word m_is_number m)
  | 0 => FnT.stuck tp.d_is_told
  | m + 1 => by
    have hF_is_told := okr_is_told tp hF_is_word hF_is_number m
    obtain ⟨tc_MOST_COUNT, hc_MOST_COUNT⟩ := tp.gl_MOST_COUNT
    refine (defT (k := m + 1) (B := F_is_told m_is_word m_is_number (gr_is_told m_is_word m_is_number m)) tp.d_is_told sc_is_told fun f cdv A outer s H E hr hg => ?_).mono (by omega)
    exact (s_cons (s_if (g_val (f_cb c_isi rfl tp.mn_isinstance boot_isinstance (a_cons (f_var 0) (a_cons (f_blt (v := .ty "tuple") rfl tp.mn_tuple boot_tuple rfl (fun _ _ => by simp only [RT])) a_nil))))
  (s_one (s_ret (f_and (f_cmp (b_eq (rU64 hr)) (f_cb c_len rfl tp.mn_len boot_len (a_cons (f_var 0) a_nil)) f_int) (f_and (f_cmp (b_notin (rU65 hr)) f_non (f_var 0)) (f_and (f_callT hF_is_told (by omega) hr hg (takes_of rfl rfl rfl rfl) (a_cons (f_ix (rU1 hr) (f_var 0) f_int) a_nil)) (f_one (f_callT hF_is_told (by omega) hr hg (takes_of rfl rfl rfl rfl) (a_cons (f_ix (rU1 hr) (f_var 0) f_int) a_nil))))))))
  s_nil)
  (s_one (s_ret (f_or (f_cmp b_is (f_var 0) f_non) (f_or (f_callT hF_is_word (by omega) hr hg (takes_of rfl rfl rfl rfl) (a_cons (f_var 0) a_nil)) (f_one (f_and (f_callT hF_is_number (by omega) hr hg (takes_of rfl rfl rfl rfl) (a_cons (f_var 0) a_nil)) (f_one (f_chain b_le b_lt f_int (f_var 0) (f_glob (v := (.int 6)) rfl hc_MOST_COUNT ⟨_, rfl⟩ (fun _ _ => by simp only [RT])))))))))))
theorem ok_is_told (tp : Top K mg) {m_is_word : GT} {m_is_number : GT} (hF_is_word : FnT P w K mg base 1 "is_word" ["value"] m_is_word) (hF_is_number : FnT P w K mg base 1 "is_number" ["value"] m_is_number) : FnT P w K mg base 8 "is_told" ["value"] (g_is_told m_is_word m_is_number) := (okr_is_told tp hF_is_word hF_is_number 6).mono (by decide)
abbrev s_is_entry : Stmt := topS 9
abbrev N_is_entry : List Str := ["value", "lines", "wide", "one"]
theorem sc_is_entry : FnScope N_is_entry ["value", "lines", "wide"] (defScope s_is_entry) := ⟨rfl, rfl, rfl, by decide +kernel, rfl, by decide +kernel, by decide +kernel⟩
def e1_is_entry (m_is_number : GT) (m_is_told : GT) : FE :=
  (fCall m_is_told [] 1 (aCons (fVar 3) aNil))
def F_is_entry (m_is_number : GT) (m_is_told : GT) : FS :=
  (fSeq (fIfS (fOr (fNot (fB (fCB oIsi (aCons (fVar 0) (aCons (fC (.ty "tuple")) aNil))))) (fOr (fB (fOp oEq (fVar 0) (fTup aNil))) (fNot (fB (fCB oIsi (aCons (fIx (fVar 0) (fC (.int 0))) (aCons (fC (.ty "str")) aNil)))))))
  (fRet (fC (.bl false)))
  fNext)
  (fSeq (fIfS (fB (fOp oEq (fCB oLen (aCons (fVar 0) aNil)) (fC (.int 1))))
  (fRet (fOp oIn (fIx (fVar 0) (fC (.int 0))) (fC (.tup [(.str "clash"), (.str "stuck")]))))
  fNext)
  (fSeq (fIfS (fOr (fB (fOp oNe (fCB oLen (aCons (fVar 0) aNil)) (fC (.int 3)))) (fOr (fB (fOp oNe (fIx (fVar 0) (fC (.int 0))) (fC (.str "good")))) (fOr (fNot (fB (fCB oIsi (aCons (fIx (fVar 0) (fC (.int 1))) (aCons (fC (.ty "tuple")) aNil))))) (fB (fOp oNe (fCB oLen (aCons (fIx (fVar 0) (fC (.int 1))) aNil)) (fVar 2))))))
  (fRet (fC (.bl false)))
  fNext)
  (fRet (fAndV (fCB oAll (aCons (fLcG false (iSeq (fIx (fVar 0) (fC (.int 1)))) (gNm 3) gYes (e1_is_entry m_is_number m_is_told) [3]) aNil)) (fAndV (fCall m_is_number [] 1 (aCons (fIx (fVar 0) (fC (.int 2))) aNil)) (fChain oLe oLt (fC (.int 0)) (fIx (fVar 0) (fC (.int 2))) (fVar 1))))))))
def g_is_entry (m_is_number : GT) (m_is_told : GT) : GT := fnRes N_is_entry (F_is_entry m_is_number m_is_told)
theorem ok_is_entry (tp : Top K mg) {m_is_number : GT} {m_is_told : GT} (hF_is_number : FnT P w K mg base 1 "is_number" ["value"] m_is_number) (hF_is_told : FnT P w K mg base 8 "is_told" ["value"] m_is_told) : FnT P w K mg base 9 "is_entry" ["value", "lines", "wide"] (g_is_entry m_is_number m_is_told) := by
  obtain ⟨ac_BAD_WORDS, hc_BAD_WORDS, kc_BAD_WORDS⟩ := tp.gl_BAD_WORDS
  refine defT (k := 8) (B := F_is_entry m_is_number m_is_told) tp.d_is_entry sc_is_entry fun f cdv A outer s H E hr hg => ?_
  exact (s_cons (s_if (PW.pt (w_or (g_not (g_val (f_cb c_isi rfl tp.mn_isinstance boot_isinstance (a_cons (f_var 0) (a_cons (f_blt (v := .ty "tuple") rfl tp.mn_tuple boot_tuple rfl (fun _ _ => by simp only [RT])) a_nil))))) (w_or (g_cmp (b_eq (rU64 hr)) (f_var 0) (f_tup a_nil)) (w_one (g_not (g_val (f_cb c_isi rfl tp.mn_isinstance boot_isinstance (a_cons (f_ix (rU1 hr) (f_var 0) f_int) (a_cons (f_blt (v := .ty "str") rfl tp.mn_str boot_str rfl (fun _ _ => by simp only [RT])) a_nil)))))))))
  (s_one (s_ret f_bl))
  s_nil)
  (s_cons (s_if (g_cmp (b_eq (rU64 hr)) (f_cb c_len rfl tp.mn_len boot_len (a_cons (f_var 0) a_nil)) f_int)
  (s_one (s_ret (f_cmp (b_in (rU65 hr)) (f_ix (rU1 hr) (f_var 0) f_int) (f_glob (v := .ref ac_BAD_WORDS) rfl hc_BAD_WORDS rfl (fun _ _ => sta_BAD_WORDS kc_BAD_WORDS)))))
  s_nil)
  (s_cons (s_if (PW.pt (w_or (g_cmp (b_ne (rU64 hr)) (f_cb c_len rfl tp.mn_len boot_len (a_cons (f_var 0) a_nil)) f_int) (w_or (g_cmp (b_ne (rU64 hr)) (f_ix (rU1 hr) (f_var 0) f_int) f_str) (w_or (g_not (g_val (f_cb c_isi rfl tp.mn_isinstance boot_isinstance (a_cons (f_ix (rU1 hr) (f_var 0) f_int) (a_cons (f_blt (v := .ty "tuple") rfl tp.mn_tuple boot_tuple rfl (fun _ _ => by simp only [RT])) a_nil))))) (w_one (g_cmp (b_ne (rU64 hr)) (f_cb c_len rfl tp.mn_len boot_len (a_cons (f_ix (rU1 hr) (f_var 0) f_int) a_nil)) (f_var 2)))))))
  (s_one (s_ret f_bl))
  s_nil)
  (s_one (s_ret (f_and (f_cb (c_all rfl) rfl tp.mn_all boot_all (a_cons (f_lcG (cell := false) (own := [("one", 3)]) rfl sc_is_entry.nd (i_seq (f_ix (rU1 hr) (f_var 0) f_int)) (by refine (show BlkOk N_is_entry (defScope s_is_entry) _ [("one", 3)] from ⟨rfl, by decide +kernel, by decide +kernel, by decide +kernel, by decide +kernel⟩)) (fun _ _ _ _ _ => (t_name (pg_name (i := 3) sc_is_entry.nd rfl (Or.inl rfl)) (by decide))) (fun _ _ _ _ _ => pts_none) (fun _ _ _ _ _ => (f_callT hF_is_told (by omega) hr hg takes0 (a_cons (f_var 3) a_nil)))) a_nil)) (f_and (f_callT hF_is_number (by omega) hr hg (takes_of rfl rfl rfl rfl) (a_cons (f_ix (rU1 hr) (f_var 0) f_int) a_nil)) (f_one (f_chain b_le b_lt f_int (f_ix (rU1 hr) (f_var 0) f_int) (f_var 1))))))))))
abbrev s_widths : Stmt := topS 10
abbrev N_widths : List Str := ["value", "entries", "line", "entry"]
theorem sc_widths : FnScope N_widths ["value"] (defScope s_widths) := ⟨rfl, rfl, rfl, by decide +kernel, rfl, by decide +kernel, by decide +kernel⟩
def t1_widths : FT :=
  (fAnd (fB (fCB oIsi (aCons (fVar 3) (aCons (fC (.ty "tuple")) aNil)))) (fB (fOp oEq (fCB oLen (aCons (fVar 3) aNil)) (fC (.int 3)))))
def e1_widths : FE :=
  (fVar 3)
def t2_widths : FT :=
  (fB (fCB oIsi (aCons (fIx (fVar 3) (fC (.int 1))) (aCons (fC (.ty "tuple")) aNil))))
def e2_widths : FE :=
  (fCB oLen (aCons (fIx (fVar 3) (fC (.int 1))) aNil))
def F_widths : FS :=
  (fSeq (fSet 1 (fLc2G false (iSeq (fVar 0)) (gNm 2) gYes (iSeq (fVar 2)) (gNm 3) t1_widths e1_widths [2, 3] [3]))
  (fRet (fLcG false (iSeq (fVar 1)) (gNm 3) t2_widths e2_widths [3])))
def g_widths : GT := fnRes N_widths (F_widths)
theorem ok_widths (tp : Top K mg) : FnT P w K mg base 1 "widths" ["value"] (g_widths) := by
  refine defT (k := 0) (B := F_widths) tp.d_widths sc_widths fun f cdv A outer s H E hr hg => ?_
  exact (s_cons (s_lc2 (cell := false) (own := [("line", 2), ("entry", 3)]) (vs1 := [3]) rfl sc_widths.nd (i_seq (f_var 0)) (by refine (show BlkOk N_widths (defScope s_widths) _ [("line", 2), ("entry", 3)] from ⟨rfl, by decide +kernel, by decide +kernel, by decide +kernel, by decide +kernel⟩)) (by decide) (fun _ _ _ _ _ => (t_name (pg_name (i := 2) sc_widths.nd rfl (Or.inl rfl)) (by decide))) (fun _ _ _ _ _ => pts_none) (fun _ _ _ _ _ => (i_seq (f_var 2))) (fun _ _ _ _ _ => (t_name (pg_name (i := 3) sc_widths.nd rfl (Or.inl rfl)) (by decide))) (fun _ _ _ _ _ => (pts_if (PW.pt (w_and (g_val (f_cb c_isi rfl tp.mn_isinstance boot_isinstance (a_cons (f_var 3) (a_cons (f_blt (v := .ty "tuple") rfl tp.mn_tuple boot_tuple rfl (fun _ _ => by simp only [RT])) a_nil)))) (w_one (g_cmp (b_eq (rU64 hr)) (f_cb c_len rfl tp.mn_len boot_len (a_cons (f_var 3) a_nil)) f_int)))))) (fun _ _ _ _ _ => (f_var 3)))
  (s_one (s_ret (f_lcG (cell := false) (own := [("entry", 3)]) rfl sc_widths.nd (i_seq (f_var 1)) (by refine (show BlkOk N_widths (defScope s_widths) _ [("entry", 3)] from ⟨rfl, by decide +kernel, by decide +kernel, by decide +kernel, by decide +kernel⟩)) (fun _ _ _ _ _ => (t_name (pg_name (i := 3) sc_widths.nd rfl (Or.inl rfl)) (by decide))) (fun _ _ _ _ _ => (pts_if (g_val (f_cb c_isi rfl tp.mn_isinstance boot_isinstance (a_cons (f_ix (rU1 hr) (f_var 3) f_int) (a_cons (f_blt (v := .ty "tuple") rfl tp.mn_tuple boot_tuple rfl (fun _ _ => by simp only [RT])) a_nil)))))) (fun _ _ _ _ _ => (f_cb c_len rfl tp.mn_len boot_len (a_cons (f_ix (rU1 hr) (f_var 3) f_int) a_nil)))))))
abbrev s_is_table : Stmt := topS 11
abbrev N_is_table : List Str := ["value", "wide", "line", "entry"]
theorem sc_is_table : FnScope N_is_table ["value"] (defScope s_is_table) := ⟨rfl, rfl, rfl, by decide +kernel, rfl, by decide +kernel, by decide +kernel⟩
def e1_is_table (m_widths : GT) (m_is_entry : GT) : FE :=
  (fCB oIsi (aCons (fVar 2) (aCons (fC (.ty "tuple")) aNil)))
def e2_is_table (m_widths : GT) (m_is_entry : GT) : FE :=
  (fOp oEq (fCB oLen (aCons (fVar 2) aNil)) (fCB oLen (aCons (fIx (fVar 0) (fC (.int 0))) aNil)))
def e3_is_table (m_widths : GT) (m_is_entry : GT) : FE :=
  (fCall m_is_entry [] 3 (aCons (fVar 3) (aCons (fCB oLen (aCons (fVar 0) aNil)) (aCons (fVar 1) aNil))))
def F_is_table (m_widths : GT) (m_is_entry : GT) : FS :=
  (fSeq (fIfS (fOr (fNot (fB (fCB oIsi (aCons (fVar 0) (aCons (fC (.ty "tuple")) aNil))))) (fOr (fB (fOp oEq (fVar 0) (fTup aNil))) (fNot (fB (fCB oAll (aCons (fLcG false (iSeq (fVar 0)) (gNm 2) gYes (e1_is_table m_widths m_is_entry) [2]) aNil))))))
  (fRet (fC (.bl false)))
  fNext)
  (fSeq (fIfS (fOr (fB (fOp oEq (fIx (fVar 0) (fC (.int 0))) (fTup aNil))) (fNot (fB (fCB oAll (aCons (fLcG false (iSeq (fVar 0)) (gNm 2) gYes (e2_is_table m_widths m_is_entry) [2]) aNil)))))
  (fRet (fC (.bl false)))
  fNext)
  (fSeq (fSet 1 (fIx (fOp oAdd (fCall m_widths [] 1 (aCons (fVar 0) aNil)) (fLst (aCons (fC (.int 0)) aNil))) (fC (.int 0))))
  (fRet (fCB oAll (aCons (fLc2G false (iSeq (fVar 0)) (gNm 2) gYes (iSeq (fVar 2)) (gNm 3) gYes (e3_is_table m_widths m_is_entry) [2, 3] [3]) aNil))))))
def g_is_table (m_widths : GT) (m_is_entry : GT) : GT := fnRes N_is_table (F_is_table m_widths m_is_entry)
theorem ok_is_table (tp : Top K mg) {m_widths : GT} {m_is_entry : GT} (hF_widths : FnT P w K mg base 1 "widths" ["value"] m_widths) (hF_is_entry : FnT P w K mg base 9 "is_entry" ["value", "lines", "wide"] m_is_entry) : FnT P w K mg base 10 "is_table" ["value"] (g_is_table m_widths m_is_entry) := by
  refine defT (k := 9) (B := F_is_table m_widths m_is_entry) tp.d_is_table sc_is_table fun f cdv A outer s H E hr hg => ?_
  exact (s_cons (s_if (PW.pt (w_or (g_not (g_val (f_cb c_isi rfl tp.mn_isinstance boot_isinstance (a_cons (f_var 0) (a_cons (f_blt (v := .ty "tuple") rfl tp.mn_tuple boot_tuple rfl (fun _ _ => by simp only [RT])) a_nil))))) (w_or (g_cmp (b_eq (rU64 hr)) (f_var 0) (f_tup a_nil)) (w_one (g_not (g_val (f_cb (c_all rfl) rfl tp.mn_all boot_all (a_cons (f_lcG (cell := false) (own := [("line", 2)]) rfl sc_is_table.nd (i_seq (f_var 0)) (by refine (show BlkOk N_is_table (defScope s_is_table) _ [("line", 2)] from ⟨rfl, by decide +kernel, by decide +kernel, by decide +kernel, by decide +kernel⟩)) (fun _ _ _ _ _ => (t_name (pg_name (i := 2) sc_is_table.nd rfl (Or.inl rfl)) (by decide))) (fun _ _ _ _ _ => pts_none) (fun _ _ _ _ _ => (f_cb c_isi rfl tp.mn_isinstance boot_isinstance (a_cons (f_var 2) (a_cons (f_blt (v := .ty "tuple") rfl tp.mn_tuple boot_tuple rfl (fun _ _ => by simp only [RT])) a_nil))))) a_nil))))))))
  (s_one (s_ret f_bl))
  s_nil)
  (s_cons (s_if (PW.pt (w_or (g_cmp (b_eq (rU64 hr)) (f_ix (rU1 hr) (f_var 0) f_int) (f_tup a_nil)) (w_one (g_not (g_val (f_cb (c_all rfl) rfl tp.mn_all boot_all (a_cons (f_lcG (cell := false) (own := [("line", 2)]) rfl sc_is_table.nd (i_seq (f_var 0)) (by refine (show BlkOk N_is_table (defScope s_is_table) _ [("line", 2)] from ⟨rfl, by decide +kernel, by decide +kernel, by decide +kernel, by decide +kernel⟩)) (fun _ _ _ _ _ => (t_name (pg_name (i := 2) sc_is_table.nd rfl (Or.inl rfl)) (by decide))) (fun _ _ _ _ _ => pts_none) (fun _ _ _ _ _ => (f_cmp (b_eq (rU64 hr)) (f_cb c_len rfl tp.mn_len boot_len (a_cons (f_var 2) a_nil)) (f_cb c_len rfl tp.mn_len boot_len (a_cons (f_ix (rU1 hr) (f_var 0) f_int) a_nil))))) a_nil)))))))
  (s_one (s_ret f_bl))
  s_nil)
  (s_cons (s_set (i := 1) sc_is_table.nd (f_ix (rU1 hr) (f_op b_add (f_callT hF_widths (by omega) hr hg (takes_of rfl rfl rfl rfl) (a_cons (f_var 0) a_nil)) (f_lst (a_cons f_int a_nil))) f_int))
  (s_one (s_ret (f_cb (c_all rfl) rfl tp.mn_all boot_all (a_cons (f_lc2G (cell := false) (own := [("line", 2), ("entry", 3)]) (vs1 := [3]) rfl sc_is_table.nd (i_seq (f_var 0)) (by refine (show BlkOk N_is_table (defScope s_is_table) _ [("line", 2), ("entry", 3)] from ⟨rfl, by decide +kernel, by decide +kernel, by decide +kernel, by decide +kernel⟩)) (by decide) (fun _ _ _ _ _ => (t_name (pg_name (i := 2) sc_is_table.nd rfl (Or.inl rfl)) (by decide))) (fun _ _ _ _ _ => pts_none) (fun _ _ _ _ _ => (i_seq (f_var 2))) (fun _ _ _ _ _ => (t_name (pg_name (i := 3) sc_is_table.nd rfl (Or.inl rfl)) (by decide))) (fun _ _ _ _ _ => pts_none) (fun _ _ _ _ _ => (f_callT hF_is_entry (by omega) hr hg takes0 (a_cons (f_var 3) (a_cons (f_cb c_len rfl tp.mn_len boot_len (a_cons (f_var 0) a_nil)) (a_cons (f_var 1) a_nil)))))) a_nil)))))))
abbrev s_grouped : Stmt := topS 12
abbrev N_grouped : List Str := ["table", "groups", "many", "line", "seen", "later", "sign", "entry"]
theorem sc_grouped : FnScope N_grouped ["table"] (defScope s_grouped) := ⟨rfl, rfl, rfl, by decide +kernel, rfl, by decide +kernel, by decide +kernel⟩
noncomputable def e1_grouped (P : Program) (w : World) : FE :=
  (fIf (fB (fOp oEq (fIx (fVar 7) (fC (.int 0))) (fC (.str "good")))) (fTup (aStar (fSl (fVar 7) oNone (oSome (fC (.int 2)))) (aCons (fIx (fVar 1) (fIx (fVar 7) (fC (.int 2)))) aNil))) (fVar 7))
noncomputable def b1_grouped (P : Program) (w : World) : FS :=
  (fSeq (fSet 6 (fCB oTuple (aCons (fLcG false (iSeq (fVar 3)) (gNm 7) gYes (e1_grouped P w) [7]) aNil)))
  (fDrop (fMt "list" oAppend (fVar 5) (aCons (fSetDef P w (fVar 4) (fVar 6) (fCB (oLenN P w) (aCons (fVar 4) aNil))) aNil))))
noncomputable def c1_grouped (P : Program) (w : World) : FT :=
  (fB (fOp oLt (fVar 2) (fCB oLen (aCons (fCB oSetI (aCons (fVar 1) aNil)) aNil))))
noncomputable def b2_grouped (P : Program) (w : World) : FS :=
  (fSeq (fPar3 2 4 5 (aCons (fCB oLen (aCons (fCB oSetI (aCons (fVar 1) aNil)) aNil)) (aCons (fDn P w) (aCons (fNew aNil) aNil))))
  (fSeq (fFor (iSeq (fVar 0)) (gNm 3)
  (b1_grouped P w))
  (fSet 1 (fVar 5))))
noncomputable def F_grouped (P : Program) (w : World) : FS :=
  (fSeq (fAsg (fTup (aCons (fOp oMul (fLst (aCons (fC (.int 0)) aNil)) (fCB oLen (aCons (fVar 0) aNil))) (aCons (fC (.int 0)) aNil))) (gNms [1, 2]))
  (fSeq (fWhile fu (c1_grouped P w)
  (b2_grouped P w))
  (fRet (fVar 1))))
noncomputable def g_grouped (P : Program) (w : World) : GT := fnRes N_grouped (F_grouped P w)
theorem ok_grouped (tp : Top K mg) : FnT P w K mg base 1 "grouped" ["table"] (g_grouped P w) := by
  refine defT (k := 0) (B := F_grouped P w) tp.d_grouped sc_grouped fun f cdv A outer s H E hr hg => ?_
  exact (s_cons (s_asg (is := [1, 2]) (f_tup (a_cons (f_op b_mul (f_lst (a_cons f_int a_nil)) (f_cb c_len rfl tp.mn_len boot_len (a_cons (f_var 0) a_nil))) (a_cons f_int a_nil))) (t_names (js := [1, 2]) rfl (pgs_cons (pg_name (i := 1) sc_grouped.nd rfl (Or.inr rfl)) (pgs_cons (pg_name (i := 2) sc_grouped.nd rfl (Or.inl rfl)) pgs_nil)) (by decide)))
  (s_cons (s_while fu (passes_of rfl) (g_cmp b_lt (f_var 2) (f_cb c_len rfl tp.mn_len boot_len (a_cons (f_ct (c_setI rfl) rfl tp.mn_set boot_set (a_cons (f_var 1) a_nil)) a_nil)))
  (s_cons (s_par3 (i := 2) (j := 4) (l := 5) rfl sc_grouped.nd (a_cons (f_cb c_len rfl tp.mn_len boot_len (a_cons (f_ct (c_setI rfl) rfl tp.mn_set boot_set (a_cons (f_var 1) a_nil)) a_nil)) (a_cons f_dn (a_cons (f_new a_nil) a_nil))) (by decide) (by decide) (by decide))
  (s_cons (s_for (is := [3]) (passes_of rfl) rfl (i_seq (f_var 0)) (t_name (pg_name (i := 3) sc_grouped.nd rfl (Or.inl rfl)) (by decide))
  (s_cons (s_set (i := 6) sc_grouped.nd (f_ct c_tuple rfl tp.mn_tuple boot_tuple (a_cons (f_lcG (cell := false) (own := [("entry", 7)]) rfl sc_grouped.nd (i_seq (f_var 3)) (by refine (show BlkOk N_grouped (defScope s_grouped) _ [("entry", 7)] from ⟨rfl, by decide +kernel, by decide +kernel, by decide +kernel, by decide +kernel⟩)) (fun _ _ _ _ _ => (t_name (pg_name (i := 7) sc_grouped.nd rfl (Or.inl rfl)) (by decide))) (fun _ _ _ _ _ => pts_none) (fun _ _ _ _ _ => (f_if (g_cmp (b_eq (rU64 hr)) (f_ix (rU1 hr) (f_var 7) f_int) f_str) (f_tup (a_star (f_sl (f_var 7) o_none (o_some f_int)) (a_cons (f_ix (rU1 hr) (f_var 1) (f_ix (rU1 hr) (f_var 7) f_int)) a_nil))) (f_var 7)))) a_nil)))
  (s_one (s_expr (f_mt PySem.F.plainAttrs_list PySem.F.slot_list_append PySem.F.type_list_append m_append (f_var 5) (a_cons (f_setdef (rU9 hr) (f_var 4) (f_var 6) (f_cb c_lenN rfl tp.mn_len boot_len (a_cons (f_var 4) a_nil))) a_nil))))))
  (s_one (s_set (i := 1) sc_grouped.nd (f_var 5))))))
  (s_one (s_ret (f_var 1)))))
abbrev s_least_table : Stmt := topS 13
abbrev N_least_table : List Str := ["table", "number", "groups", "found", "order", "line", "entry", "other"]
theorem sc_least_table : FnScope N_least_table ["table"] (defScope s_least_table) := ⟨rfl, rfl, rfl, by decide +kernel, rfl, by decide +kernel, by decide +kernel⟩
def e1_least_table (m_grouped : GT) : FE :=
  (fIx (fVar 2) (fVar 7))
def e2_least_table (m_grouped : GT) : FE :=
  (fIx (fVar 2) (fVar 7))
def b1_least_table (m_grouped : GT) : FS :=
  (fIfS (fB (fOp oEq (fIx (fVar 6) (fC (.int 0))) (fC (.str "good"))))
  (fSeq (fIfS (fB (fOp oNotIn (fIx (fVar 2) (fIx (fVar 6) (fC (.int 2)))) (fLcG false (iSeq (fVar 4)) (gNm 7) gYes (e1_least_table m_grouped) [7])))
  (fDrop (fMt "list" oAppend (fVar 4) (aCons (fIx (fVar 6) (fC (.int 2))) aNil)))
  fNext)
  (fDrop (fMt "list" oAppend (fVar 5) (aCons (fTup (aStar (fSl (fVar 6) oNone (oSome (fC (.int 2)))) (aCons (fMt "list" oIndex (fLcG false (iSeq (fVar 4)) (gNm 7) gYes (e2_least_table m_grouped) [7]) (aCons (fIx (fVar 2) (fIx (fVar 6) (fC (.int 2)))) aNil)) aNil))) aNil))))
  (fDrop (fMt "list" oAppend (fVar 5) (aCons (fVar 6) aNil))))
def b2_least_table (m_grouped : GT) : FS :=
  (fSeq (fIfS (fB (fOp oEq (fVar 1) (fCB oLen (aCons (fVar 4) aNil))))
  fBreak
  fNext)
  (fSeq (fSet 5 (fNew aNil))
  (fSeq (fFor (iSeq (fIx (fVar 0) (fIx (fVar 4) (fVar 1)))) (gNm 6)
  (b1_least_table m_grouped))
  (fDrop (fMt "list" oAppend (fVar 3) (aCons (fCB oTuple (aCons (fVar 5) aNil)) aNil))))))
def F_least_table (m_grouped : GT) : FS :=
  (fSeq (fAsg (fTup (aCons (fCall m_grouped [] 1 (aCons (fVar 0) aNil)) (aCons (fNew aNil) (aCons (fNew (aCons (fC (.int 0)) aNil)) aNil)))) (gNms [2, 3, 4]))
  (fSeq (fFor (iR1 (aCons (fCB oLen (aCons (fVar 0) aNil)) aNil)) (gNm 1)
  (b2_least_table m_grouped))
  (fRet (fCB oTuple (aCons (fVar 3) aNil)))))
def g_least_table (m_grouped : GT) : GT := fnRes N_least_table (F_least_table m_grouped)
theorem ok_least_table (tp : Top K mg) {m_grouped : GT} (hF_grouped : FnT P w K mg base 1 "grouped" ["table"] m_grouped) : FnT P w K mg base 2 "least_table" ["table"] (g_least_table m_grouped) := by
  refine defT (k := 1) (B := F_least_table m_grouped) tp.d_least_table sc_least_table fun f cdv A outer s H E hr hg => ?_
  exact (s_cons (s_asg (is := [2, 3, 4]) (f_tup (a_cons (f_callT hF_grouped (by omega) hr hg (takes_of rfl rfl rfl rfl) (a_cons (f_var 0) a_nil)) (a_cons (f_new a_nil) (a_cons (f_new (a_cons f_int a_nil)) a_nil)))) (t_names (js := [2, 3, 4]) rfl (pgs_cons (pg_name (i := 2) sc_least_table.nd rfl (Or.inr rfl)) (pgs_cons (pg_name (i := 3) sc_least_table.nd rfl (Or.inl rfl)) (pgs_cons (pg_name (i := 4) sc_least_table.nd rfl (Or.inl rfl)) pgs_nil))) (by decide)))
  (s_cons (s_for (is := [1]) (passes_of rfl) rfl (i_range1 rfl tp.mn_range (a_cons (f_cb c_len rfl tp.mn_len boot_len (a_cons (f_var 0) a_nil)) a_nil)) (t_name (pg_name (i := 1) sc_least_table.nd rfl (Or.inl rfl)) (by decide))
  (s_cons (s_if (g_cmp (b_eq (rU64 hr)) (f_var 1) (f_cb c_len rfl tp.mn_len boot_len (a_cons (f_var 4) a_nil)))
  (s_one s_break)
  s_nil)
  (s_cons (s_set (i := 5) sc_least_table.nd (f_new a_nil))
  (s_cons (s_for (is := [6]) (passes_of rfl) rfl (i_seq (f_ix (rU1 hr) (f_var 0) (f_ix (rU1 hr) (f_var 4) (f_var 1)))) (t_name (pg_name (i := 6) sc_least_table.nd rfl (Or.inl rfl)) (by decide))
  (s_one (s_if (g_cmp (b_eq (rU64 hr)) (f_ix (rU1 hr) (f_var 6) f_int) f_str)
  (s_cons (s_if (g_cmp (b_notin (rU65 hr)) (f_ix (rU1 hr) (f_var 2) (f_ix (rU1 hr) (f_var 6) f_int)) (f_lcG (cell := false) (own := [("other", 7)]) rfl sc_least_table.nd (i_seq (f_var 4)) (by refine (show BlkOk N_least_table (defScope s_least_table) _ [("other", 7)] from ⟨rfl, by decide +kernel, by decide +kernel, by decide +kernel, by decide +kernel⟩)) (fun _ _ _ _ _ => (t_name (pg_name (i := 7) sc_least_table.nd rfl (Or.inl rfl)) (by decide))) (fun _ _ _ _ _ => pts_none) (fun _ _ _ _ _ => (f_ix (rU1 hr) (f_var 2) (f_var 7)))))
  (s_one (s_expr (f_mt PySem.F.plainAttrs_list PySem.F.slot_list_append PySem.F.type_list_append m_append (f_var 4) (a_cons (f_ix (rU1 hr) (f_var 6) f_int) a_nil))))
  s_nil)
  (s_one (s_expr (f_mt PySem.F.plainAttrs_list PySem.F.slot_list_append PySem.F.type_list_append m_append (f_var 5) (a_cons (f_tup (a_star (f_sl (f_var 6) o_none (o_some f_int)) (a_cons (f_mt PySem.F.plainAttrs_list PySem.F.slot_list_index PySem.F.type_list_index (m_index (rU65 hr)) (f_lcG (cell := false) (own := [("other", 7)]) rfl sc_least_table.nd (i_seq (f_var 4)) (by refine (show BlkOk N_least_table (defScope s_least_table) _ [("other", 7)] from ⟨rfl, by decide +kernel, by decide +kernel, by decide +kernel, by decide +kernel⟩)) (fun _ _ _ _ _ => (t_name (pg_name (i := 7) sc_least_table.nd rfl (Or.inl rfl)) (by decide))) (fun _ _ _ _ _ => pts_none) (fun _ _ _ _ _ => (f_ix (rU1 hr) (f_var 2) (f_var 7)))) (a_cons (f_ix (rU1 hr) (f_var 2) (f_ix (rU1 hr) (f_var 6) f_int)) a_nil)) a_nil))) a_nil)))))
  (s_one (s_expr (f_mt PySem.F.plainAttrs_list PySem.F.slot_list_append PySem.F.type_list_append m_append (f_var 5) (a_cons (f_var 6) a_nil)))))))
  (s_one (s_expr (f_mt PySem.F.plainAttrs_list PySem.F.slot_list_append PySem.F.type_list_append m_append (f_var 3) (a_cons (f_ct c_tuple rfl tp.mn_tuple boot_tuple (a_cons (f_var 5) a_nil)) a_nil))))))))
  (s_one (s_ret (f_ct c_tuple rfl tp.mn_tuple boot_tuple (a_cons (f_var 3) a_nil))))))
abbrev s_tables_parted : Stmt := topS 14
abbrev N_tables_parted : List Str := ["one", "other", "number", "pairs", "ways", "place", "entry", "also", "way"]
theorem sc_tables_parted : FnScope N_tables_parted ["one", "other"] (defScope s_tables_parted) := ⟨rfl, rfl, rfl, by decide +kernel, rfl, by decide +kernel, by decide +kernel⟩
def b1_tables_parted : FS :=
  (fSeq (fPar 7 8 (aCons (fIx (fIx (fVar 1) (fIx (fIx (fVar 3) (fVar 2)) (fC (.int 1)))) (fVar 5)) (aCons (fTup (aStar (fIx (fVar 4) (fVar 2)) (aCons (fVar 5) aNil))) aNil)))
  (fSeq (fIfS (fB (fOp oNe (fSl (fVar 6) oNone (oSome (fC (.int 2)))) (fSl (fVar 7) oNone (oSome (fC (.int 2))))))
  (fRet (fVar 8))
  fNext)
  (fIfS (fAnd (fB (fOp oEq (fIx (fVar 6) (fC (.int 0))) (fC (.str "good")))) (fB (fOp oNotIn (fTup (aCons (fIx (fVar 6) (fC (.int 2))) (aCons (fIx (fVar 7) (fC (.int 2))) aNil))) (fVar 3))))
  (fSeq (fDrop (fMt "list" oAppend (fVar 3) (aCons (fTup (aCons (fIx (fVar 6) (fC (.int 2))) (aCons (fIx (fVar 7) (fC (.int 2))) aNil))) aNil)))
  (fDrop (fMt "list" oAppend (fVar 4) (aCons (fVar 8) aNil))))
  fNext)))
def b2_tables_parted : FS :=
  (fSeq (fIfS (fB (fOp oEq (fVar 2) (fCB oLen (aCons (fVar 3) aNil))))
  fBreak
  fNext)
  (fFor (iEnumF (fIx (fVar 0) (fIx (fIx (fVar 3) (fVar 2)) (fC (.int 0))))) (gNms [5, 6])
  b1_tables_parted))
def F_tables_parted : FS :=
  (fSeq (fPar 3 4 (aCons (fNew (aCons (fTup (aCons (fC (.int 0)) (aCons (fC (.int 0)) aNil))) aNil)) (aCons (fNew (aCons (fTup aNil) aNil)) aNil)))
  (fSeq (fFor (iR1 (aCons (fOp oMul (fCB oLen (aCons (fVar 0) aNil)) (fCB oLen (aCons (fVar 1) aNil))) aNil)) (gNm 2)
  b2_tables_parted)
  (fRet (fC .non))))
def g_tables_parted : GT := fnRes N_tables_parted (F_tables_parted)
theorem ok_tables_parted (tp : Top K mg) : FnT P w K mg base 1 "tables_parted" ["one", "other"] (g_tables_parted) := by
  refine defT (k := 0) (B := F_tables_parted) tp.d_tables_parted sc_tables_parted fun f cdv A outer s H E hr hg => ?_
  exact (s_cons (s_par (i := 3) (j := 4) rfl sc_tables_parted.nd (a_cons (f_new (a_cons (f_tup (a_cons f_int (a_cons f_int a_nil))) a_nil)) (a_cons (f_new (a_cons (f_tup a_nil) a_nil)) a_nil)) (by decide))
  (s_cons (s_for (is := [2]) (passes_of rfl) rfl (i_range1 rfl tp.mn_range (a_cons (f_op b_mul (f_cb c_len rfl tp.mn_len boot_len (a_cons (f_var 0) a_nil)) (f_cb c_len rfl tp.mn_len boot_len (a_cons (f_var 1) a_nil))) a_nil)) (t_name (pg_name (i := 2) sc_tables_parted.nd rfl (Or.inl rfl)) (by decide))
  (s_cons (s_if (g_cmp (b_eq (rU64 hr)) (f_var 2) (f_cb c_len rfl tp.mn_len boot_len (a_cons (f_var 3) a_nil)))
  (s_one s_break)
  s_nil)
  (s_one (s_for (is := [5, 6]) (passes_of rfl) rfl (i_enum rfl tp.mn_enumerate (f_ix (rU1 hr) (f_var 0) (f_ix (rU1 hr) (f_ix (rU1 hr) (f_var 3) (f_var 2)) f_int))) (t_names (js := [5, 6]) rfl (pgs_cons (pg_name (i := 5) sc_tables_parted.nd rfl (Or.inl rfl)) (pgs_cons (pg_name (i := 6) sc_tables_parted.nd rfl (Or.inl rfl)) pgs_nil)) (by decide))
  (s_cons (s_par (i := 7) (j := 8) rfl sc_tables_parted.nd (a_cons (f_ix (rU1 hr) (f_ix (rU1 hr) (f_var 1) (f_ix (rU1 hr) (f_ix (rU1 hr) (f_var 3) (f_var 2)) f_int)) (f_var 5)) (a_cons (f_tup (a_star (f_ix (rU1 hr) (f_var 4) (f_var 2)) (a_cons (f_var 5) a_nil))) a_nil)) (by decide))
  (s_cons (s_if (g_cmp (b_ne (rU64 hr)) (f_sl (f_var 6) o_none (o_some f_int)) (f_sl (f_var 7) o_none (o_some f_int)))
  (s_one (s_ret (f_var 8)))
  s_nil)
  (s_one (s_if (PW.pt (w_and (g_cmp (b_eq (rU64 hr)) (f_ix (rU1 hr) (f_var 6) f_int) f_str) (w_one (g_cmp (b_notin (rU65 hr)) (f_tup (a_cons (f_ix (rU1 hr) (f_var 6) f_int) (a_cons (f_ix (rU1 hr) (f_var 7) f_int) a_nil))) (f_var 3)))))
  (s_cons (s_expr (f_mt PySem.F.plainAttrs_list PySem.F.slot_list_append PySem.F.type_list_append m_append (f_var 3) (a_cons (f_tup (a_cons (f_ix (rU1 hr) (f_var 6) f_int) (a_cons (f_ix (rU1 hr) (f_var 7) f_int) a_nil))) a_nil)))
  (s_one (s_expr (f_mt PySem.F.plainAttrs_list PySem.F.slot_list_append PySem.F.type_list_append m_append (f_var 4) (a_cons (f_var 8) a_nil)))))
  s_nil))))))))
  (s_one (s_ret f_non))))
abbrev s__law_open_cells : Stmt := topS 16
abbrev N__law_open_cells : List Str := ["_law_script", "_law_mixed", "_law_cell", "_law_cells"]
theorem sc__law_open_cells : FnScope N__law_open_cells ["_law_script"] (defScope s__law_open_cells) := ⟨rfl, rfl, rfl, by decide +kernel, rfl, by decide +kernel, by decide +kernel⟩
def b1__law_open_cells : FS :=
  (fSet 1 (fOp oMod (fCB oInt (aCons (fOp oAdd (fOp oAdd (fOp oMul (fVar 1) (fC (.int 69069))) (fOp oMul (fVar 2) (fC (.int 31)))) (fC (.int 5))) aNil)) (fC (.int 2147483629))))
def e1__law_open_cells : FE :=
  (fCB oAbs (aCons (fVar 2) aNil))
def F__law_open_cells : FS :=
  (fSeq (fSet 1 (fC (.int 11)))
  (fSeq (fFor (iSeq (fVar 0)) (gNm 2)
  b1__law_open_cells)
  (fSeq (fSet 3 (fLcG false (iSeq (fVar 0)) (gNm 2) gYes e1__law_open_cells [2]))
  (fRet (fDisp [((fC (.str "cells")), (fRevL true (fVar 3))), ((fC (.str "left")), (fC (.int 1))), ((fC (.str "mixed")), (fVar 1)), ((fC (.str "turn")), (fC (.int 0)))])))))
def g__law_open_cells : GT := fnRes N__law_open_cells (F__law_open_cells)
theorem ok__law_open_cells (tp : Top K mg) : FnT P w K mg base 1 "_law_open_cells" ["_law_script"] (g__law_open_cells) := by
  refine defT (k := 0) (B := F__law_open_cells) tp.d__law_open_cells sc__law_open_cells fun f cdv A outer s H E hr hg => ?_
  exact (s_cons (s_set (i := 1) sc__law_open_cells.nd f_int)
  (s_cons (s_for (is := [2]) (passes_of rfl) rfl (i_seq (f_var 0)) (t_name (pg_name (i := 2) sc__law_open_cells.nd rfl (Or.inl rfl)) (by decide))
  (s_one (s_set (i := 1) sc__law_open_cells.nd (f_op b_mod (f_ct c_int rfl tp.mn_int boot_int (a_cons (f_op b_add (f_op b_add (f_op b_mul (f_var 1) f_int) (f_op b_mul (f_var 2) f_int)) f_int) a_nil)) f_int))))
  (s_cons (s_lc (cell := false) (own := [("_law_cell", 2)]) rfl sc__law_open_cells.nd (i_seq (f_var 0)) (by refine (show BlkOk N__law_open_cells (defScope s__law_open_cells) _ [("_law_cell", 2)] from ⟨rfl, by decide +kernel, by decide +kernel, by decide +kernel, by decide +kernel⟩)) (fun _ _ _ _ _ => (t_name (pg_name (i := 2) sc__law_open_cells.nd rfl (Or.inl rfl)) (by decide))) (fun _ _ _ _ _ => pts_none) (fun _ _ _ _ _ => (f_cb c_abs rfl tp.mn_abs boot_abs (a_cons (f_var 2) a_nil))))
  (s_one (s_ret (f_disp (p_cons f_str (f_revL true (f_var 3)) (p_cons f_str f_int (p_cons f_str (f_var 1) (p_cons f_str f_int p_nil))))))))))
abbrev s__law_pick : Stmt := topS 17
abbrev N__law_pick : List Str := ["_law_source", "_law_most", "_law_cells", "_law_left", "_law_turn", "_law_mixed"]
theorem sc__law_pick : FnScope N__law_pick ["_law_source", "_law_most"] (defScope s__law_pick) := ⟨rfl, rfl, rfl, by decide +kernel, rfl, by decide +kernel, by decide +kernel⟩
def c1__law_pick : FT :=
  (fAnd (fB (fOp oLt (fIx (fVar 0) (fC (.str "left"))) (fC (.int 2)))) (fB (fOp oGt (fCB oLen (aCons (fVar 2) aNil)) (fC (.int 0)))))
def b1__law_pick : FS :=
  (fPut (fVar 0) (fC (.str "left")) (fMt "list" oPop (fVar 2) aNil))
def F__law_pick : FS :=
  (fSeq (fIfS (fB (fOp oLt (fVar 1) (fC (.int 2))))
  (fRet (fC (.int 0)))
  fNext)
  (fSeq (fSet 2 (fIx (fVar 0) (fC (.str "cells"))))
  (fSeq (fWhile fu c1__law_pick
  b1__law_pick)
  (fSeq (fSet 3 (fIx (fVar 0) (fC (.str "left"))))
  (fSeq (fIfS (fB (fOp oGt (fVar 3) (fC (.int 1))))
  (fSeq (fPut (fVar 0) (fC (.str "left")) (fOp oFdiv (fVar 3) (fVar 1)))
  (fRet (fOp oMod (fCB oInt (aCons (fVar 3) aNil)) (fVar 1))))
  fNext)
  (fSeq (fPut (fVar 0) (fC (.str "turn")) (fOp oAdd (fIx (fVar 0) (fC (.str "turn"))) (fC (.int 1))))
  (fSeq (fSet 4 (fIx (fVar 0) (fC (.str "turn"))))
  (fSeq (fSet 5 (fOp oMod (fCB oInt (aCons (fOp oAdd (fIx (fVar 0) (fC (.str "mixed"))) (fOp oMul (fVar 4) (fC (.int 104729)))) aNil)) (fC (.int 998244353))))
  (fSeq (fSet 5 (fOp oMod (fCB oInt (aCons (fOp oAdd (fOp oMul (fVar 5) (fVar 5)) (fOp oMul (fVar 4) (fC (.int 17)))) aNil)) (fC (.int 2147483647))))
  (fRet (fOp oMod (fCB oInt (aCons (fOp oFdiv (fVar 5) (fC (.int 16))) aNil)) (fVar 1))))))))))))
def g__law_pick : GT := fnRes N__law_pick (F__law_pick)
theorem ok__law_pick (tp : Top K mg) : FnT P w K mg base 1 "_law_pick" ["_law_source", "_law_most"] (g__law_pick) := by
  refine defT (k := 0) (B := F__law_pick) tp.d__law_pick sc__law_pick fun f cdv A outer s H E hr hg => ?_
  exact (s_cons (s_if (g_cmp b_lt (f_var 1) f_int)
  (s_one (s_ret f_int))
  s_nil)
  (s_cons (s_set (i := 2) sc__law_pick.nd (f_ix (rU1 hr) (f_var 0) f_str))
  (s_cons (s_while fu (passes_of rfl) (PW.pt (w_and (g_cmp b_lt (f_ix (rU1 hr) (f_var 0) f_str) f_int) (w_one (g_cmp b_gt (f_cb c_len rfl tp.mn_len boot_len (a_cons (f_var 2) a_nil)) f_int))))
  (s_one (s_put (rU1 hr) (f_var 0) f_str (f_mt0 PySem.F.plainAttrs_list PySem.F.slot_list_pop PySem.F.type_list_pop m_pop (f_var 2)))))
  (s_cons (s_set (i := 3) sc__law_pick.nd (f_ix (rU1 hr) (f_var 0) f_str))
  (s_cons (s_if (g_cmp b_gt (f_var 3) f_int)
  (s_cons (s_put (rU1 hr) (f_var 0) f_str (f_op b_fdiv (f_var 3) (f_var 1)))
  (s_one (s_ret (f_op b_mod (f_ct c_int rfl tp.mn_int boot_int (a_cons (f_var 3) a_nil)) (f_var 1)))))
  s_nil)
  (s_cons (s_put (rU1 hr) (f_var 0) f_str (f_op b_add (f_ix (rU1 hr) (f_var 0) f_str) f_int))
  (s_cons (s_set (i := 4) sc__law_pick.nd (f_ix (rU1 hr) (f_var 0) f_str))
  (s_cons (s_set (i := 5) sc__law_pick.nd (f_op b_mod (f_ct c_int rfl tp.mn_int boot_int (a_cons (f_op b_add (f_ix (rU1 hr) (f_var 0) f_str) (f_op b_mul (f_var 4) f_int)) a_nil)) f_int))
  (s_cons (s_set (i := 5) sc__law_pick.nd (f_op b_mod (f_ct c_int rfl tp.mn_int boot_int (a_cons (f_op b_add (f_op b_mul (f_var 5) (f_var 5)) (f_op b_mul (f_var 4) f_int)) a_nil)) f_int))
  (s_one (s_ret (f_op b_mod (f_ct c_int rfl tp.mn_int boot_int (a_cons (f_op b_fdiv (f_var 5) f_int) a_nil)) (f_var 1)))))))))))))
abbrev s__law_any_order : Stmt := topS 18
abbrev N__law_any_order : List Str := ["_law_source", "_law_things", "_law_rest", "_law_lap"]
theorem sc__law_any_order : FnScope N__law_any_order ["_law_source", "_law_things"] (defScope s__law_any_order) := ⟨rfl, rfl, rfl, by decide +kernel, rfl, by decide +kernel, by decide +kernel⟩
def e1__law_any_order (m__law_pick : GT) : FE :=
  (fMt "list" oPopAt (fVar 2) (aCons (fCall m__law_pick [] 2 (aCons (fVar 0) (aCons (fCB oLen (aCons (fVar 2) aNil)) aNil))) aNil))
def F__law_any_order (m__law_pick : GT) : FS :=
  (fSeq (fSet 2 (fCB oListN (aCons (fVar 1) aNil)))
  (fRet (fLcG false (iR1 (aCons (fCB oLen (aCons (fVar 2) aNil)) aNil)) (gNm 3) gYes (e1__law_any_order m__law_pick) [3])))
def g__law_any_order (m__law_pick : GT) : GT := fnRes N__law_any_order (F__law_any_order m__law_pick)
theorem ok__law_any_order (tp : Top K mg) {m__law_pick : GT} (hF__law_pick : FnT P w K mg base 1 "_law_pick" ["_law_source", "_law_most"] m__law_pick) : FnT P w K mg base 2 "_law_any_order" ["_law_source", "_law_things"] (g__law_any_order m__law_pick) := by
  refine defT (k := 1) (B := F__law_any_order m__law_pick) tp.d__law_any_order sc__law_any_order fun f cdv A outer s H E hr hg => ?_
  exact (s_cons (s_set (i := 2) sc__law_any_order.nd (f_ct (c_listN rfl) rfl tp.mn_list boot_list (a_cons (f_var 1) a_nil)))
  (s_one (s_ret (f_lcG (cell := false) (own := [("_law_lap", 3)]) rfl sc__law_any_order.nd (i_range1 rfl tp.mn_range (a_cons (f_cb c_len rfl tp.mn_len boot_len (a_cons (f_var 2) a_nil)) a_nil)) (by refine (show BlkOk N__law_any_order (defScope s__law_any_order) _ [("_law_lap", 3)] from ⟨rfl, by decide +kernel, by decide +kernel, by decide +kernel, by decide +kernel⟩)) (fun _ _ _ _ _ => (t_name (pg_name (i := 3) sc__law_any_order.nd rfl (Or.inl rfl)) (by decide))) (fun _ _ _ _ _ => pts_none) (fun _ _ _ _ _ => (f_mt PySem.F.plainAttrs_list PySem.F.slot_list_pop PySem.F.type_list_pop m_popAt (f_var 2) (a_cons (f_callT hF__law_pick (by omega) hr hg takes0 (a_cons (f_var 0) (a_cons (f_cb c_len rfl tp.mn_len boot_len (a_cons (f_var 2) a_nil)) a_nil))) a_nil)))))))
abbrev s__law_like : Stmt := topS 19
abbrev N__law_like : List Str := ["_law_found", "_law_due"]
theorem sc__law_like : FnScope N__law_like ["_law_found", "_law_due"] (defScope s__law_like) := ⟨rfl, rfl, rfl, by decide +kernel, rfl, by decide +kernel, by decide +kernel⟩
def F__law_like : FS :=
  (fRet (fOp oEq (fCB oRepr (aCons (fVar 0) aNil)) (fCB oRepr (aCons (fVar 1) aNil))))
def g__law_like : GT := fnRes N__law_like (F__law_like)
theorem ok__law_like (tp : Top K mg) : FnT P w K mg base 1 "_law_like" ["_law_found", "_law_due"] (g__law_like) := by
  refine defT (k := 0) (B := F__law_like) tp.d__law_like sc__law_like fun f cdv A outer s H E hr hg => ?_
  exact (s_one (s_ret (f_cmp (b_eq (rU64 hr)) (f_cb (c_repr hg (rU66 hr)) rfl tp.mn_repr boot_repr (a_cons (f_var 0) a_nil)) (f_cb (c_repr hg (rU66 hr)) rfl tp.mn_repr boot_repr (a_cons (f_var 1) a_nil)))))
abbrev s__law_draw_entry : Stmt := topS 20
abbrev N__law_draw_entry : List Str := ["_law_source", "_law_lines", "_law_wide", "_law_outs", "_law_k"]
theorem sc__law_draw_entry : FnScope N__law_draw_entry ["_law_source", "_law_lines", "_law_wide"] (defScope s__law_draw_entry) := ⟨rfl, rfl, rfl, by decide +kernel, rfl, by decide +kernel, by decide +kernel⟩
def e1__law_draw_entry (m__law_pick : GT) : FE :=
  (fIx (fLst (aCons (fC (.int 0)) (aCons (fC (.int 1)) (aCons (fC .non) (aCons (fC (.str "yes")) (aCons (fTup (aCons (fC (.int 0)) (aCons (fC (.str "no")) aNil))) aNil)))))) (fIx (fLst (aCons (fC (.int 0)) (aCons (fC (.int 0)) (aCons (fC (.int 1)) (aCons (fC (.int 1)) (aCons (fC (.int 2)) (aCons (fC (.int 3)) (aCons (fC (.int 4)) aNil)))))))) (fCall m__law_pick [] 2 (aCons (fVar 0) (aCons (fC (.int 7)) aNil)))))
def F__law_draw_entry (m__law_pick : GT) : FS :=
  (fSeq (fIfS (fB (fOp oEq (fCall m__law_pick [] 2 (aCons (fVar 0) (aCons (fC (.int 9)) aNil))) (fC (.int 0))))
  (fRet (fIf (fB (fOp oEq (fCall m__law_pick [] 2 (aCons (fVar 0) (aCons (fC (.int 2)) aNil))) (fC (.int 0)))) (fTup (aCons (fC (.str "clash")) aNil)) (fTup (aCons (fC (.str "stuck")) aNil))))
  fNext)
  (fSeq (fSet 3 (fCB oTuple (aCons (fLcG false (iR1 (aCons (fVar 2) aNil)) (gNm 4) gYes (e1__law_draw_entry m__law_pick) [4]) aNil)))
  (fRet (fTup (aCons (fC (.str "good")) (aCons (fVar 3) (aCons (fCall m__law_pick [] 2 (aCons (fVar 0) (aCons (fVar 1) aNil))) aNil)))))))
def g__law_draw_entry (m__law_pick : GT) : GT := fnRes N__law_draw_entry (F__law_draw_entry m__law_pick)
theorem ok__law_draw_entry (tp : Top K mg) {m__law_pick : GT} (hF__law_pick : FnT P w K mg base 1 "_law_pick" ["_law_source", "_law_most"] m__law_pick) : FnT P w K mg base 2 "_law_draw_entry" ["_law_source", "_law_lines", "_law_wide"] (g__law_draw_entry m__law_pick) := by
  refine defT (k := 1) (B := F__law_draw_entry m__law_pick) tp.d__law_draw_entry sc__law_draw_entry fun f cdv A outer s H E hr hg => ?_
  exact (s_cons (s_if (g_cmp (b_eq (rU64 hr)) (f_callT hF__law_pick (by omega) hr hg (takes_of rfl rfl rfl rfl) (a_cons (f_var 0) (a_cons f_int a_nil))) f_int)
  (s_one (s_ret (f_if (g_cmp (b_eq (rU64 hr)) (f_callT hF__law_pick (by omega) hr hg (takes_of rfl rfl rfl rfl) (a_cons (f_var 0) (a_cons f_int a_nil))) f_int) (f_tup (a_cons f_str a_nil)) (f_tup (a_cons f_str a_nil)))))
  s_nil)
  (s_cons (s_set (i := 3) sc__law_draw_entry.nd (f_ct c_tuple rfl tp.mn_tuple boot_tuple (a_cons (f_lcG (cell := false) (own := [("_law_k", 4)]) rfl sc__law_draw_entry.nd (i_range1 rfl tp.mn_range (a_cons (f_var 2) a_nil)) (by refine (show BlkOk N__law_draw_entry (defScope s__law_draw_entry) _ [("_law_k", 4)] from ⟨rfl, by decide +kernel, by decide +kernel, by decide +kernel, by decide +kernel⟩)) (fun _ _ _ _ _ => (t_name (pg_name (i := 4) sc__law_draw_entry.nd rfl (Or.inl rfl)) (by decide))) (fun _ _ _ _ _ => pts_none) (fun _ _ _ _ _ => (f_ix (rU1 hr) (f_lst (a_cons f_int (a_cons f_int (a_cons f_non (a_cons f_str (a_cons (f_tup (a_cons f_int (a_cons f_str a_nil))) a_nil)))))) (f_ix (rU1 hr) (f_lst (a_cons f_int (a_cons f_int (a_cons f_int (a_cons f_int (a_cons f_int (a_cons f_int (a_cons f_int a_nil)))))))) (f_callT hF__law_pick (by omega) hr hg takes0 (a_cons (f_var 0) (a_cons f_int a_nil))))))) a_nil)))
  (s_one (s_ret (f_tup (a_cons f_str (a_cons (f_var 3) (a_cons (f_callT hF__law_pick (by omega) hr hg (takes_of rfl rfl rfl rfl) (a_cons (f_var 0) (a_cons (f_var 1) a_nil))) a_nil))))))))
abbrev s__law_draw_lines : Stmt := topS 21
abbrev N__law_draw_lines : List Str := ["_law_source", "_law_lines", "_law_long", "_law_wide", "_law_found", "_law_k", "_law_line", "_law_j"]
theorem sc__law_draw_lines : FnScope N__law_draw_lines ["_law_source", "_law_lines", "_law_long", "_law_wide"] (defScope s__law_draw_lines) := ⟨rfl, rfl, rfl, by decide +kernel, rfl, by decide +kernel, by decide +kernel⟩
def e1__law_draw_lines (m__law_draw_entry : GT) (m__law_pick : GT) : FE :=
  (fCall m__law_draw_entry [] 3 (aCons (fVar 0) (aCons (fVar 1) (aCons (fVar 3) aNil))))
def b1__law_draw_lines (m__law_draw_entry : GT) (m__law_pick : GT) : FS :=
  (fSeq (fSet 6 (fCB oTuple (aCons (fLcG false (iR1 (aCons (fVar 2) aNil)) (gNm 7) gYes (e1__law_draw_lines m__law_draw_entry m__law_pick) [7]) aNil)))
  (fSeq (fIfS (fAnd (fB (fOp oGt (fVar 5) (fC (.int 0)))) (fB (fOp oEq (fCall m__law_pick [] 2 (aCons (fVar 0) (aCons (fC (.int 2)) aNil))) (fC (.int 0)))))
  (fSet 6 (fIx (fVar 4) (fCall m__law_pick [] 2 (aCons (fVar 0) (aCons (fVar 5) aNil)))))
  fNext)
  (fDrop (fMt "list" oAppend (fVar 4) (aCons (fVar 6) aNil)))))
def F__law_draw_lines (m__law_draw_entry : GT) (m__law_pick : GT) : FS :=
  (fSeq (fSet 4 (fNew aNil))
  (fSeq (fFor (iR1 (aCons (fVar 1) aNil)) (gNm 5)
  (b1__law_draw_lines m__law_draw_entry m__law_pick))
  (fRet (fCB oTuple (aCons (fVar 4) aNil)))))
def g__law_draw_lines (m__law_draw_entry : GT) (m__law_pick : GT) : GT := fnRes N__law_draw_lines (F__law_draw_lines m__law_draw_entry m__law_pick)
theorem ok__law_draw_lines (tp : Top K mg) {m__law_draw_entry : GT} {m__law_pick : GT} (hF__law_draw_entry : FnT P w K mg base 2 "_law_draw_entry" ["_law_source", "_law_lines", "_law_wide"] m__law_draw_entry) (hF__law_pick : FnT P w K mg base 1 "_law_pick" ["_law_source", "_law_most"] m__law_pick) : FnT P w K mg base 3 "_law_draw_lines" ["_law_source", "_law_lines", "_law_long", "_law_wide"] (g__law_draw_lines m__law_draw_entry m__law_pick) := by
  refine defT (k := 2) (B := F__law_draw_lines m__law_draw_entry m__law_pick) tp.d__law_draw_lines sc__law_draw_lines fun f cdv A outer s H E hr hg => ?_
  exact (s_cons (s_set (i := 4) sc__law_draw_lines.nd (f_new a_nil))
  (s_cons (s_for (is := [5]) (passes_of rfl) rfl (i_range1 rfl tp.mn_range (a_cons (f_var 1) a_nil)) (t_name (pg_name (i := 5) sc__law_draw_lines.nd rfl (Or.inl rfl)) (by decide))
  (s_cons (s_set (i := 6) sc__law_draw_lines.nd (f_ct c_tuple rfl tp.mn_tuple boot_tuple (a_cons (f_lcG (cell := false) (own := [("_law_j", 7)]) rfl sc__law_draw_lines.nd (i_range1 rfl tp.mn_range (a_cons (f_var 2) a_nil)) (by refine (show BlkOk N__law_draw_lines (defScope s__law_draw_lines) _ [("_law_j", 7)] from ⟨rfl, by decide +kernel, by decide +kernel, by decide +kernel, by decide +kernel⟩)) (fun _ _ _ _ _ => (t_name (pg_name (i := 7) sc__law_draw_lines.nd rfl (Or.inl rfl)) (by decide))) (fun _ _ _ _ _ => pts_none) (fun _ _ _ _ _ => (f_callT hF__law_draw_entry (by omega) hr hg takes0 (a_cons (f_var 0) (a_cons (f_var 1) (a_cons (f_var 3) a_nil)))))) a_nil)))
  (s_cons (s_if (PW.pt (w_and (g_cmp b_gt (f_var 5) f_int) (w_one (g_cmp (b_eq (rU64 hr)) (f_callT hF__law_pick (by omega) hr hg (takes_of rfl rfl rfl rfl) (a_cons (f_var 0) (a_cons f_int a_nil))) f_int))))
  (s_one (s_set (i := 6) sc__law_draw_lines.nd (f_ix (rU1 hr) (f_var 4) (f_callT hF__law_pick (by omega) hr hg (takes_of rfl rfl rfl rfl) (a_cons (f_var 0) (a_cons (f_var 5) a_nil))))))
  s_nil)
  (s_one (s_expr (f_mt PySem.F.plainAttrs_list PySem.F.slot_list_append PySem.F.type_list_append m_append (f_var 4) (a_cons (f_var 6) a_nil)))))))
  (s_one (s_ret (f_ct c_tuple rfl tp.mn_tuple boot_tuple (a_cons (f_var 4) a_nil))))))
abbrev s__law_parting : Stmt := topS 22
abbrev N__law_parting : List Str := ["_law_one", "_law_k", "_law_other", "_law_j", "_law_number", "_law_pairs", "_law_ways", "_law_place", "_law_here", "_law_there"]
theorem sc__law_parting : FnScope N__law_parting ["_law_one", "_law_k", "_law_other", "_law_j"] (defScope s__law_parting) := ⟨rfl, rfl, rfl, by decide +kernel, rfl, by decide +kernel, by decide +kernel⟩
def b1__law_parting : FS :=
  (fSeq (fIfS (fB (fOp oNe (fSl (fIx (fVar 8) (fVar 7)) oNone (oSome (fC (.int 2)))) (fSl (fIx (fVar 9) (fVar 7)) oNone (oSome (fC (.int 2))))))
  (fRet (fOp oAdd (fIx (fVar 6) (fVar 4)) (fTup (aCons (fVar 7) aNil))))
  fNext)
  (fIfS (fAnd (fB (fOp oEq (fIx (fIx (fVar 8) (fVar 7)) (fC (.int 0))) (fC (.str "good")))) (fB (fOp oNotIn (fTup (aCons (fIx (fIx (fVar 8) (fVar 7)) (fC (.int 2))) (aCons (fIx (fIx (fVar 9) (fVar 7)) (fC (.int 2))) aNil))) (fVar 5))))
  (fSeq (fDrop (fMt "list" oAppend (fVar 5) (aCons (fTup (aCons (fIx (fIx (fVar 8) (fVar 7)) (fC (.int 2))) (aCons (fIx (fIx (fVar 9) (fVar 7)) (fC (.int 2))) aNil))) aNil)))
  (fDrop (fMt "list" oAppend (fVar 6) (aCons (fOp oAdd (fIx (fVar 6) (fVar 4)) (fTup (aCons (fVar 7) aNil))) aNil))))
  fNext))
def b2__law_parting : FS :=
  (fSeq (fIfS (fB (fOp oEq (fVar 4) (fCB oLen (aCons (fVar 5) aNil))))
  (fRet (fC .non))
  fNext)
  (fSeq (fPar 8 9 (aCons (fIx (fVar 0) (fIx (fIx (fVar 5) (fVar 4)) (fC (.int 0)))) (aCons (fIx (fVar 2) (fIx (fIx (fVar 5) (fVar 4)) (fC (.int 1)))) aNil)))
  (fFor (iR1 (aCons (fCB oLen (aCons (fVar 8) aNil)) aNil)) (gNm 7)
  b1__law_parting)))
def F__law_parting : FS :=
  (fSeq (fPar 5 6 (aCons (fNew (aCons (fTup (aCons (fVar 1) (aCons (fVar 3) aNil))) aNil)) (aCons (fNew (aCons (fTup aNil) aNil)) aNil)))
  (fSeq (fFor (iR1 (aCons (fOp oMul (fCB oLen (aCons (fVar 0) aNil)) (fCB oLen (aCons (fVar 2) aNil))) aNil)) (gNm 4)
  b2__law_parting)
  (fRet (fC .non))))
def g__law_parting : GT := fnRes N__law_parting (F__law_parting)
theorem ok__law_parting (tp : Top K mg) : FnT P w K mg base 1 "_law_parting" ["_law_one", "_law_k", "_law_other", "_law_j"] (g__law_parting) := by
  refine defT (k := 0) (B := F__law_parting) tp.d__law_parting sc__law_parting fun f cdv A outer s H E hr hg => ?_
  exact (s_cons (s_par (i := 5) (j := 6) rfl sc__law_parting.nd (a_cons (f_new (a_cons (f_tup (a_cons (f_var 1) (a_cons (f_var 3) a_nil))) a_nil)) (a_cons (f_new (a_cons (f_tup a_nil) a_nil)) a_nil)) (by decide))
  (s_cons (s_for (is := [4]) (passes_of rfl) rfl (i_range1 rfl tp.mn_range (a_cons (f_op b_mul (f_cb c_len rfl tp.mn_len boot_len (a_cons (f_var 0) a_nil)) (f_cb c_len rfl tp.mn_len boot_len (a_cons (f_var 2) a_nil))) a_nil)) (t_name (pg_name (i := 4) sc__law_parting.nd rfl (Or.inl rfl)) (by decide))
  (s_cons (s_if (g_cmp (b_eq (rU64 hr)) (f_var 4) (f_cb c_len rfl tp.mn_len boot_len (a_cons (f_var 5) a_nil)))
  (s_one (s_ret f_non))
  s_nil)
  (s_cons (s_par (i := 8) (j := 9) rfl sc__law_parting.nd (a_cons (f_ix (rU1 hr) (f_var 0) (f_ix (rU1 hr) (f_ix (rU1 hr) (f_var 5) (f_var 4)) f_int)) (a_cons (f_ix (rU1 hr) (f_var 2) (f_ix (rU1 hr) (f_ix (rU1 hr) (f_var 5) (f_var 4)) f_int)) a_nil)) (by decide))
  (s_one (s_for (is := [7]) (passes_of rfl) rfl (i_range1 rfl tp.mn_range (a_cons (f_cb c_len rfl tp.mn_len boot_len (a_cons (f_var 8) a_nil)) a_nil)) (t_name (pg_name (i := 7) sc__law_parting.nd rfl (Or.inl rfl)) (by decide))
  (s_cons (s_if (g_cmp (b_ne (rU64 hr)) (f_sl (f_ix (rU1 hr) (f_var 8) (f_var 7)) o_none (o_some f_int)) (f_sl (f_ix (rU1 hr) (f_var 9) (f_var 7)) o_none (o_some f_int)))
  (s_one (s_ret (f_op b_add (f_ix (rU1 hr) (f_var 6) (f_var 4)) (f_tup (a_cons (f_var 7) a_nil)))))
  s_nil)
  (s_one (s_if (PW.pt (w_and (g_cmp (b_eq (rU64 hr)) (f_ix (rU1 hr) (f_ix (rU1 hr) (f_var 8) (f_var 7)) f_int) f_str) (w_one (g_cmp (b_notin (rU65 hr)) (f_tup (a_cons (f_ix (rU1 hr) (f_ix (rU1 hr) (f_var 8) (f_var 7)) f_int) (a_cons (f_ix (rU1 hr) (f_ix (rU1 hr) (f_var 9) (f_var 7)) f_int) a_nil))) (f_var 5)))))
  (s_cons (s_expr (f_mt PySem.F.plainAttrs_list PySem.F.slot_list_append PySem.F.type_list_append m_append (f_var 5) (a_cons (f_tup (a_cons (f_ix (rU1 hr) (f_ix (rU1 hr) (f_var 8) (f_var 7)) f_int) (a_cons (f_ix (rU1 hr) (f_ix (rU1 hr) (f_var 9) (f_var 7)) f_int) a_nil))) a_nil)))
  (s_one (s_expr (f_mt PySem.F.plainAttrs_list PySem.F.slot_list_append PySem.F.type_list_append m_append (f_var 6) (a_cons (f_op b_add (f_ix (rU1 hr) (f_var 6) (f_var 4)) (f_tup (a_cons (f_var 7) a_nil))) a_nil)))))
  s_nil))))))))
  (s_one (s_ret f_non))))
abbrev s__law_least_of : Stmt := topS 23
abbrev N__law_least_of : List Str := ["_law_table", "_law_firsts", "_law_k", "_law_number", "_law_order", "_law_found", "_law_line", "_law_entry", "_law_j"]
theorem sc__law_least_of : FnScope N__law_least_of ["_law_table"] (defScope s__law_least_of) := ⟨rfl, rfl, rfl, by decide +kernel, rfl, by decide +kernel, by decide +kernel⟩
def t1__law_least_of (m__law_parting : GT) : FT :=
  (fB (fOp oIs (fCall m__law_parting [] 4 (aCons (fVar 0) (aCons (fVar 2) (aCons (fVar 0) (aCons (fVar 8) aNil))))) (fC .non)))
def e1__law_least_of (m__law_parting : GT) : FE :=
  (fVar 8)
def b1__law_least_of (m__law_parting : GT) : FS :=
  (fDrop (fMt "list" oAppend (fVar 1) (aCons (fIx (fLcG false (iR1 (aCons (fOp oAdd (fVar 2) (fC (.int 1))) aNil)) (gNm 8) (t1__law_least_of m__law_parting) (e1__law_least_of m__law_parting) [8]) (fC (.int 0))) aNil)))
def b2__law_least_of (m__law_parting : GT) : FS :=
  (fIfS (fB (fOp oEq (fIx (fVar 7) (fC (.int 0))) (fC (.str "good"))))
  (fSeq (fIfS (fB (fOp oNotIn (fIx (fVar 1) (fIx (fVar 7) (fC (.int 2)))) (fVar 4)))
  (fDrop (fMt "list" oAppend (fVar 4) (aCons (fIx (fVar 1) (fIx (fVar 7) (fC (.int 2)))) aNil)))
  fNext)
  (fDrop (fMt "list" oAppend (fVar 6) (aCons (fTup (aCons (fC (.str "good")) (aCons (fIx (fVar 7) (fC (.int 1))) (aCons (fMt "list" oIndex (fVar 4) (aCons (fIx (fVar 1) (fIx (fVar 7) (fC (.int 2)))) aNil)) aNil)))) aNil))))
  (fDrop (fMt "list" oAppend (fVar 6) (aCons (fVar 7) aNil))))
def b3__law_least_of (m__law_parting : GT) : FS :=
  (fSeq (fIfS (fB (fOp oEq (fVar 3) (fCB oLen (aCons (fVar 4) aNil))))
  fBreak
  fNext)
  (fSeq (fSet 6 (fNew aNil))
  (fSeq (fFor (iSeq (fIx (fVar 0) (fIx (fVar 4) (fVar 3)))) (gNm 7)
  (b2__law_least_of m__law_parting))
  (fDrop (fMt "list" oAppend (fVar 5) (aCons (fCB oTuple (aCons (fVar 6) aNil)) aNil))))))
def F__law_least_of (m__law_parting : GT) : FS :=
  (fSeq (fSet 1 (fNew aNil))
  (fSeq (fFor (iR1 (aCons (fCB oLen (aCons (fVar 0) aNil)) aNil)) (gNm 2)
  (b1__law_least_of m__law_parting))
  (fSeq (fPar 4 5 (aCons (fNew (aCons (fC (.int 0)) aNil)) (aCons (fNew aNil) aNil)))
  (fSeq (fFor (iR1 (aCons (fCB oLen (aCons (fVar 0) aNil)) aNil)) (gNm 3)
  (b3__law_least_of m__law_parting))
  (fRet (fCB oTuple (aCons (fVar 5) aNil)))))))
def g__law_least_of (m__law_parting : GT) : GT := fnRes N__law_least_of (F__law_least_of m__law_parting)
theorem ok__law_least_of (tp : Top K mg) {m__law_parting : GT} (hF__law_parting : FnT P w K mg base 1 "_law_parting" ["_law_one", "_law_k", "_law_other", "_law_j"] m__law_parting) : FnT P w K mg base 2 "_law_least_of" ["_law_table"] (g__law_least_of m__law_parting) := by
  refine defT (k := 1) (B := F__law_least_of m__law_parting) tp.d__law_least_of sc__law_least_of fun f cdv A outer s H E hr hg => ?_
  exact (s_cons (s_set (i := 1) sc__law_least_of.nd (f_new a_nil))
  (s_cons (s_for (is := [2]) (passes_of rfl) rfl (i_range1 rfl tp.mn_range (a_cons (f_cb c_len rfl tp.mn_len boot_len (a_cons (f_var 0) a_nil)) a_nil)) (t_name (pg_name (i := 2) sc__law_least_of.nd rfl (Or.inr rfl)) (by decide))
  (s_one (s_expr (f_mt PySem.F.plainAttrs_list PySem.F.slot_list_append PySem.F.type_list_append m_append (f_var 1) (a_cons (f_ix (rU1 hr) (f_lcG (cell := false) (own := [("_law_j", 8)]) rfl sc__law_least_of.nd (i_range1 rfl tp.mn_range (a_cons (f_op b_add (f_var 2) f_int) a_nil)) (by refine (show BlkOk N__law_least_of (defScope s__law_least_of) _ [("_law_j", 8)] from ⟨rfl, by decide +kernel, by decide +kernel, by decide +kernel, by decide +kernel⟩)) (fun _ _ _ _ _ => (t_name (pg_name (i := 8) sc__law_least_of.nd rfl (Or.inl rfl)) (by decide))) (fun _ _ _ _ _ => (pts_if (g_cmp b_is (f_callT hF__law_parting (by omega) hr hg takes0 (a_cons (f_var 0) (a_cons (f_var 2) (a_cons (f_var 0) (a_cons (f_var 8) a_nil))))) f_non))) (fun _ _ _ _ _ => (f_var 8))) f_int) a_nil)))))
  (s_cons (s_par (i := 4) (j := 5) rfl sc__law_least_of.nd (a_cons (f_new (a_cons f_int a_nil)) (a_cons (f_new a_nil) a_nil)) (by decide))
  (s_cons (s_for (is := [3]) (passes_of rfl) rfl (i_range1 rfl tp.mn_range (a_cons (f_cb c_len rfl tp.mn_len boot_len (a_cons (f_var 0) a_nil)) a_nil)) (t_name (pg_name (i := 3) sc__law_least_of.nd rfl (Or.inl rfl)) (by decide))
  (s_cons (s_if (g_cmp (b_eq (rU64 hr)) (f_var 3) (f_cb c_len rfl tp.mn_len boot_len (a_cons (f_var 4) a_nil)))
  (s_one s_break)
  s_nil)
  (s_cons (s_set (i := 6) sc__law_least_of.nd (f_new a_nil))
  (s_cons (s_for (is := [7]) (passes_of rfl) rfl (i_seq (f_ix (rU1 hr) (f_var 0) (f_ix (rU1 hr) (f_var 4) (f_var 3)))) (t_name (pg_name (i := 7) sc__law_least_of.nd rfl (Or.inl rfl)) (by decide))
  (s_one (s_if (g_cmp (b_eq (rU64 hr)) (f_ix (rU1 hr) (f_var 7) f_int) f_str)
  (s_cons (s_if (g_cmp (b_notin (rU65 hr)) (f_ix (rU1 hr) (f_var 1) (f_ix (rU1 hr) (f_var 7) f_int)) (f_var 4))
  (s_one (s_expr (f_mt PySem.F.plainAttrs_list PySem.F.slot_list_append PySem.F.type_list_append m_append (f_var 4) (a_cons (f_ix (rU1 hr) (f_var 1) (f_ix (rU1 hr) (f_var 7) f_int)) a_nil))))
  s_nil)
  (s_one (s_expr (f_mt PySem.F.plainAttrs_list PySem.F.slot_list_append PySem.F.type_list_append m_append (f_var 6) (a_cons (f_tup (a_cons f_str (a_cons (f_ix (rU1 hr) (f_var 7) f_int) (a_cons (f_mt PySem.F.plainAttrs_list PySem.F.slot_list_index PySem.F.type_list_index (m_index (rU65 hr)) (f_var 4) (a_cons (f_ix (rU1 hr) (f_var 1) (f_ix (rU1 hr) (f_var 7) f_int)) a_nil)) a_nil)))) a_nil)))))
  (s_one (s_expr (f_mt PySem.F.plainAttrs_list PySem.F.slot_list_append PySem.F.type_list_append m_append (f_var 6) (a_cons (f_var 7) a_nil)))))))
  (s_one (s_expr (f_mt PySem.F.plainAttrs_list PySem.F.slot_list_append PySem.F.type_list_append m_append (f_var 5) (a_cons (f_ct c_tuple rfl tp.mn_tuple boot_tuple (a_cons (f_var 6) a_nil)) a_nil))))))))
  (s_one (s_ret (f_ct c_tuple rfl tp.mn_tuple boot_tuple (a_cons (f_var 5) a_nil))))))))
abbrev s__law_shuffled : Stmt := topS 24
abbrev N__law_shuffled : List Str := ["_law_source", "_law_table", "_law_order", "_law_found", "_law_k", "_law_line", "_law_entry"]
theorem sc__law_shuffled : FnScope N__law_shuffled ["_law_source", "_law_table"] (defScope s__law_shuffled) := ⟨rfl, rfl, rfl, by decide +kernel, rfl, by decide +kernel, by decide +kernel⟩
def e1__law_shuffled (m__law_any_order : GT) (m__law_pick : GT) : FE :=
  (fIf (fB (fOp oEq (fIx (fVar 6) (fC (.int 0))) (fC (.str "good")))) (fOp oAdd (fSl (fVar 6) oNone (oSome (fC (.int 2)))) (fTup (aCons (fMt "list" oIndex (fVar 2) (aCons (fIx (fVar 6) (fC (.int 2))) aNil)) aNil))) (fVar 6))
def b1__law_shuffled (m__law_any_order : GT) (m__law_pick : GT) : FS :=
  (fSeq (fSet 5 (fLcG false (iSeq (fIx (fVar 1) (fVar 4))) (gNm 6) gYes (e1__law_shuffled m__law_any_order m__law_pick) [6]))
  (fDrop (fMt "list" oAppend (fVar 3) (aCons (fCB oTuple (aCons (fVar 5) aNil)) aNil))))
def F__law_shuffled (m__law_any_order : GT) (m__law_pick : GT) : FS :=
  (fSeq (fSet 2 (fOp oAdd (fLst (aCons (fC (.int 0)) aNil)) (fCall m__law_any_order [] 2 (aCons (fVar 0) (aCons (fCB oList (aCons (fCB oRange (aCons (fC (.int 1)) (aCons (fCB oLen (aCons (fVar 1) aNil)) aNil))) aNil)) aNil)))))
  (fSeq (fSet 3 (fNew aNil))
  (fSeq (fFor (iSeq (fVar 2)) (gNm 4)
  (b1__law_shuffled m__law_any_order m__law_pick))
  (fRet (fOp oAdd (fCB oTuple (aCons (fVar 3) aNil)) (fTup (aCons (fIx (fVar 3) (fCall m__law_pick [] 2 (aCons (fVar 0) (aCons (fCB oLen (aCons (fVar 3) aNil)) aNil)))) aNil)))))))
def g__law_shuffled (m__law_any_order : GT) (m__law_pick : GT) : GT := fnRes N__law_shuffled (F__law_shuffled m__law_any_order m__law_pick)
theorem ok__law_shuffled (tp : Top K mg) {m__law_any_order : GT} {m__law_pick : GT} (hF__law_any_order : FnT P w K mg base 2 "_law_any_order" ["_law_source", "_law_things"] m__law_any_order) (hF__law_pick : FnT P w K mg base 1 "_law_pick" ["_law_source", "_law_most"] m__law_pick) : FnT P w K mg base 3 "_law_shuffled" ["_law_source", "_law_table"] (g__law_shuffled m__law_any_order m__law_pick) := by
  refine defT (k := 2) (B := F__law_shuffled m__law_any_order m__law_pick) tp.d__law_shuffled sc__law_shuffled fun f cdv A outer s H E hr hg => ?_
  exact (s_cons (s_set (i := 2) sc__law_shuffled.nd (f_op b_add (f_lst (a_cons f_int a_nil)) (f_callT hF__law_any_order (by omega) hr hg (takes_of rfl rfl rfl rfl) (a_cons (f_var 0) (a_cons (f_ct (c_list rfl) rfl tp.mn_list boot_list (a_cons (f_ct c_range rfl tp.mn_range boot_range (a_cons f_int (a_cons (f_cb c_len rfl tp.mn_len boot_len (a_cons (f_var 1) a_nil)) a_nil))) a_nil)) a_nil)))))
  (s_cons (s_set (i := 3) sc__law_shuffled.nd (f_new a_nil))
  (s_cons (s_for (is := [4]) (passes_of rfl) rfl (i_seq (f_var 2)) (t_name (pg_name (i := 4) sc__law_shuffled.nd rfl (Or.inl rfl)) (by decide))
  (s_cons (s_lc (cell := false) (own := [("_law_entry", 6)]) rfl sc__law_shuffled.nd (i_seq (f_ix (rU1 hr) (f_var 1) (f_var 4))) (by refine (show BlkOk N__law_shuffled (defScope s__law_shuffled) _ [("_law_entry", 6)] from ⟨rfl, by decide +kernel, by decide +kernel, by decide +kernel, by decide +kernel⟩)) (fun _ _ _ _ _ => (t_name (pg_name (i := 6) sc__law_shuffled.nd rfl (Or.inl rfl)) (by decide))) (fun _ _ _ _ _ => pts_none) (fun _ _ _ _ _ => (f_if (g_cmp (b_eq (rU64 hr)) (f_ix (rU1 hr) (f_var 6) f_int) f_str) (f_op b_add (f_sl (f_var 6) o_none (o_some f_int)) (f_tup (a_cons (f_mt PySem.F.plainAttrs_list PySem.F.slot_list_index PySem.F.type_list_index (m_index (rU65 hr)) (f_var 2) (a_cons (f_ix (rU1 hr) (f_var 6) f_int) a_nil)) a_nil))) (f_var 6))))
  (s_one (s_expr (f_mt PySem.F.plainAttrs_list PySem.F.slot_list_append PySem.F.type_list_append m_append (f_var 3) (a_cons (f_ct c_tuple rfl tp.mn_tuple boot_tuple (a_cons (f_var 5) a_nil)) a_nil))))))
  (s_one (s_ret (f_op b_add (f_ct c_tuple rfl tp.mn_tuple boot_tuple (a_cons (f_var 3) a_nil)) (f_tup (a_cons (f_ix (rU1 hr) (f_var 3) (f_callT hF__law_pick (by omega) hr hg (takes_of rfl rfl rfl rfl) (a_cons (f_var 0) (a_cons (f_cb c_len rfl tp.mn_len boot_len (a_cons (f_var 3) a_nil)) a_nil)))) a_nil))))))))
abbrev s__law_known_right : Stmt := topS 25
abbrev N__law_known_right : List Str := ["_law_v", "_law_told", "_law_due", "_law_some"]
theorem sc__law_known_right : FnScope N__law_known_right [] (defScope s__law_known_right) := ⟨rfl, rfl, rfl, by decide +kernel, rfl, by decide +kernel, by decide +kernel⟩
def b1__law_known_right (m__law_like : GT) (m_is_table : GT) : FS :=
  (fDrop (fMt "list" oAppend (fVar 1) (aCons (fCall m_is_table [] 1 (aCons (fTup (aCons (fTup (aCons (fTup (aCons (fC (.str "good")) (aCons (fTup (aCons (fVar 0) aNil)) (aCons (fC (.int 0)) aNil)))) aNil)) aNil)) aNil)) aNil)))
def F__law_known_right (m__law_like : GT) (m_is_table : GT) : FS :=
  (fSeq (fPar 1 3 (aCons (fNew aNil) (aCons (fLst (aCons (fTup (aCons (fC (.int 0)) (aCons (fC (.str "a")) aNil))) (aCons (fTup (aCons (fTup (aCons (fC (.int 0)) (aCons (fC (.int 5)) aNil))) (aCons (fTup (aCons (fC .non) (aCons (fC (.int 1)) aNil))) aNil))) (aCons (fTup (aCons (fC (.int 0)) (aCons (fC .non) aNil))) (aCons (fTup (aCons (fC (.int 0)) (aCons (fC (.int 1)) (aCons (fC (.int 2)) aNil)))) (aCons (fTup (aCons (fC (.int 0)) aNil)) (aCons (fC (.int 5)) (aCons (fC (.int 6)) (aCons (fNeg (fC (.int 1))) (aCons (fC (.str "abcdefgh")) aNil)))))))))) aNil)))
  (fSeq (fFor (iSeq (fOp oAdd (fVar 3) (fLst (aCons (fC (.str "abcdefghi")) (aCons (fC (.str "A")) (aCons (fC (.str "")) (aCons (fC (.bl true)) (aCons (fLst (aCons (fC (.int 0)) (aCons (fC (.int 1)) aNil))) aNil)))))))) (gNm 0)
  (b1__law_known_right m__law_like m_is_table))
  (fSeq (fDrop (fMt "list" oAppend (fVar 1) (aCons (fCall m_is_table [] 1 (aCons (fTup (aCons (fTup (aCons (fTup (aCons (fC (.str "good")) (aCons (fTup (aCons (fC (.int 0)) aNil)) (aCons (fC (.int 0)) aNil)))) (aCons (fTup (aCons (fC (.str "good")) (aCons (fTup (aCons (fC (.int 0)) (aCons (fC (.int 1)) aNil))) (aCons (fC (.int 0)) aNil)))) aNil))) aNil)) aNil)) aNil)))
  (fSeq (fSet 1 (fOp oAdd (fVar 1) (fLst (aCons (fCall m_is_table [] 1 (aCons (fTup (aCons (fTup aNil) aNil)) aNil)) (aCons (fCall m_is_table [] 1 (aCons (fTup (aCons (fTup (aCons (fTup (aCons (fC (.str "good")) (aCons (fTup aNil) (aCons (fC (.int 0)) aNil)))) aNil)) aNil)) aNil)) (aCons (fCall m_is_table [] 1 (aCons (fTup (aCons (fTup (aCons (fTup (aCons (fC (.str "clash")) aNil)) aNil)) aNil)) aNil)) (aCons (fCall m_is_table [] 1 (aCons (fTup aNil) aNil)) aNil)))))))
  (fSeq (fSet 2 (fLst (aCons (fC (.bl true)) (aCons (fC (.bl false)) (aCons (fC (.bl false)) (aCons (fC (.bl false)) (aCons (fC (.bl false)) (aCons (fC (.bl true)) (aCons (fC (.bl false)) (aCons (fC (.bl false)) (aCons (fC (.bl true)) (aCons (fC (.bl false)) (aCons (fC (.bl false)) (aCons (fC (.bl false)) (aCons (fC (.bl false)) (aCons (fC (.bl false)) aNil))))))))))))))))
  (fRet (fCall m__law_like [] 2 (aCons (fVar 1) (aCons (fOp oAdd (fVar 2) (fLst (aCons (fC (.bl false)) (aCons (fC (.bl false)) (aCons (fC (.bl true)) (aCons (fC (.bl true)) (aCons (fC (.bl false)) aNil))))))) aNil)))))))))
def g__law_known_right (m__law_like : GT) (m_is_table : GT) : GT := fnRes N__law_known_right (F__law_known_right m__law_like m_is_table)
theorem ok__law_known_right (tp : Top K mg) {m__law_like : GT} {m_is_table : GT} (hF__law_like : FnT P w K mg base 1 "_law_like" ["_law_found", "_law_due"] m__law_like) (hF_is_table : FnT P w K mg base 10 "is_table" ["value"] m_is_table) : FnT P w K mg base 11 "_law_known_right" [] (g__law_known_right m__law_like m_is_table) := by
  refine defT (k := 10) (B := F__law_known_right m__law_like m_is_table) tp.d__law_known_right sc__law_known_right fun f cdv A outer s H E hr hg => ?_
  exact (s_cons (s_par (i := 1) (j := 3) rfl sc__law_known_right.nd (a_cons (f_new a_nil) (a_cons (f_lst (a_cons (f_tup (a_cons f_int (a_cons f_str a_nil))) (a_cons (f_tup (a_cons (f_tup (a_cons f_int (a_cons f_int a_nil))) (a_cons (f_tup (a_cons f_non (a_cons f_int a_nil))) a_nil))) (a_cons (f_tup (a_cons f_int (a_cons f_non a_nil))) (a_cons (f_tup (a_cons f_int (a_cons f_int (a_cons f_int a_nil)))) (a_cons (f_tup (a_cons f_int a_nil)) (a_cons f_int (a_cons f_int (a_cons (f_neg f_int) (a_cons f_str a_nil)))))))))) a_nil)) (by decide))
  (s_cons (s_for (is := [0]) (passes_of rfl) rfl (i_seq (f_op b_add (f_var 3) (f_lst (a_cons f_str (a_cons f_str (a_cons f_str (a_cons f_bl (a_cons (f_lst (a_cons f_int (a_cons f_int a_nil))) a_nil)))))))) (t_name (pg_name (i := 0) sc__law_known_right.nd rfl (Or.inl rfl)) (by decide))
  (s_one (s_expr (f_mt PySem.F.plainAttrs_list PySem.F.slot_list_append PySem.F.type_list_append m_append (f_var 1) (a_cons (f_callT hF_is_table (by omega) hr hg (takes_of rfl rfl rfl rfl) (a_cons (f_tup (a_cons (f_tup (a_cons (f_tup (a_cons f_str (a_cons (f_tup (a_cons (f_var 0) a_nil)) (a_cons f_int a_nil)))) a_nil)) a_nil)) a_nil)) a_nil)))))
  (s_cons (s_expr (f_mt PySem.F.plainAttrs_list PySem.F.slot_list_append PySem.F.type_list_append m_append (f_var 1) (a_cons (f_callT hF_is_table (by omega) hr hg (takes_of rfl rfl rfl rfl) (a_cons (f_tup (a_cons (f_tup (a_cons (f_tup (a_cons f_str (a_cons (f_tup (a_cons f_int a_nil)) (a_cons f_int a_nil)))) (a_cons (f_tup (a_cons f_str (a_cons (f_tup (a_cons f_int (a_cons f_int a_nil))) (a_cons f_int a_nil)))) a_nil))) a_nil)) a_nil)) a_nil)))
  (s_cons (s_set (i := 1) sc__law_known_right.nd (f_op b_add (f_var 1) (f_lst (a_cons (f_callT hF_is_table (by omega) hr hg (takes_of rfl rfl rfl rfl) (a_cons (f_tup (a_cons (f_tup a_nil) a_nil)) a_nil)) (a_cons (f_callT hF_is_table (by omega) hr hg (takes_of rfl rfl rfl rfl) (a_cons (f_tup (a_cons (f_tup (a_cons (f_tup (a_cons f_str (a_cons (f_tup a_nil) (a_cons f_int a_nil)))) a_nil)) a_nil)) a_nil)) (a_cons (f_callT hF_is_table (by omega) hr hg (takes_of rfl rfl rfl rfl) (a_cons (f_tup (a_cons (f_tup (a_cons (f_tup (a_cons f_str a_nil)) a_nil)) a_nil)) a_nil)) (a_cons (f_callT hF_is_table (by omega) hr hg (takes_of rfl rfl rfl rfl) (a_cons (f_tup a_nil) a_nil)) a_nil)))))))
  (s_cons (s_set (i := 2) sc__law_known_right.nd (f_lst (a_cons f_bl (a_cons f_bl (a_cons f_bl (a_cons f_bl (a_cons f_bl (a_cons f_bl (a_cons f_bl (a_cons f_bl (a_cons f_bl (a_cons f_bl (a_cons f_bl (a_cons f_bl (a_cons f_bl (a_cons f_bl a_nil))))))))))))))))
  (s_one (s_ret (f_callT hF__law_like (by omega) hr hg (takes_of rfl rfl rfl rfl) (a_cons (f_var 1) (a_cons (f_op b_add (f_var 2) (f_lst (a_cons f_bl (a_cons f_bl (a_cons f_bl (a_cons f_bl (a_cons f_bl a_nil))))))) a_nil))))))))))
abbrev s_law : Stmt := topS 26
abbrev N_law : List Str := ["_law_script", "_law_source", "_law_turn", "_law_table", "_law_other", "_law_smallest", "_law_found", "_law_long", "_law_wide", "_law_one"]
theorem sc_law : FnScope N_law ["_law_script"] (defScope s_law) := ⟨rfl, rfl, rfl, by decide +kernel, rfl, by decide +kernel, by decide +kernel⟩
def e1_law (m__law_open_cells : GT) (m__law_known_right : GT) (m__law_draw_lines : GT) (m_least_table : GT) (m_tables_parted : GT) (m__law_pick : GT) (m__law_shuffled : GT) (m__law_like : GT) (m_is_table : GT) (m__law_least_of : GT) (m__law_parting : GT) : FE :=
  (fCall m_is_table [] 1 (aCons (fVar 9) aNil))
def b1_law (m__law_open_cells : GT) (m__law_known_right : GT) (m__law_draw_lines : GT) (m_least_table : GT) (m_tables_parted : GT) (m__law_pick : GT) (m__law_shuffled : GT) (m__law_like : GT) (m_is_table : GT) (m__law_least_of : GT) (m__law_parting : GT) : FS :=
  (fSeq (fPar 7 8 (aCons (fOp oAdd (fC (.int 1)) (fCall m__law_pick [] 2 (aCons (fVar 1) (aCons (fC (.int 3)) aNil)))) (aCons (fCall m__law_pick [] 2 (aCons (fVar 1) (aCons (fC (.int 3)) aNil))) aNil)))
  (fSeq (fSet 3 (fCall m__law_draw_lines [] 4 (aCons (fVar 1) (aCons (fOp oAdd (fC (.int 1)) (fCall m__law_pick [] 2 (aCons (fVar 1) (aCons (fC (.int 6)) aNil)))) (aCons (fVar 7) (aCons (fVar 8) aNil))))))
  (fSeq (fSet 4 (fCall m__law_draw_lines [] 4 (aCons (fVar 1) (aCons (fOp oAdd (fC (.int 1)) (fCall m__law_pick [] 2 (aCons (fVar 1) (aCons (fC (.int 5)) aNil)))) (aCons (fVar 7) (aCons (fVar 8) aNil))))))
  (fSeq (fSet 4 (fIx (fLst (aCons (fVar 4) (aCons (fCall m__law_shuffled [] 2 (aCons (fVar 1) (aCons (fVar 3) aNil))) aNil))) (fCall m__law_pick [] 2 (aCons (fVar 1) (aCons (fC (.int 2)) aNil)))))
  (fSeq (fSet 5 (fCall m_least_table [] 1 (aCons (fVar 3) aNil)))
  (fSeq (fIfS (fOr (fNot (fB (fCall m__law_like [] 2 (aCons (fVar 5) (aCons (fCall m__law_least_of [] 1 (aCons (fVar 3) aNil)) aNil))))) (fB (fOp oNe (fCall m_least_table [] 1 (aCons (fVar 5) aNil)) (fVar 5))))
  (fRet (fC (.bl false)))
  fNext)
  (fSeq (fIfS (fB (fOp oNe (fLcG false (iSeq (fLst (aCons (fVar 3) (aCons (fVar 5) (aCons (fVar 4) aNil))))) (gNm 9) gYes (e1_law m__law_open_cells m__law_known_right m__law_draw_lines m_least_table m_tables_parted m__law_pick m__law_shuffled m__law_like m_is_table m__law_least_of m__law_parting) [9]) (fOp oMul (fLst (aCons (fC (.bl true)) aNil)) (fC (.int 3)))))
  (fRet (fC (.bl false)))
  fNext)
  (fSeq (fSet 6 (fCall m_tables_parted [] 2 (aCons (fVar 3) (aCons (fVar 4) aNil))))
  (fSeq (fIfS (fOr (fNot (fB (fCall m__law_like [] 2 (aCons (fVar 6) (aCons (fCall m__law_parting [] 4 (aCons (fVar 3) (aCons (fC (.int 0)) (aCons (fVar 4) (aCons (fC (.int 0)) aNil))))) aNil))))) (fB (fOp oIsNot (fCall m_tables_parted [] 2 (aCons (fVar 3) (aCons (fVar 5) aNil))) (fC .non))))
  (fRet (fC (.bl false)))
  fNext)
  (fIfS (fOr (fB (fOp oNe (fOp oIs (fVar 6) (fC .non)) (fOp oEq (fVar 5) (fCall m_least_table [] 1 (aCons (fVar 4) aNil))))) (fB (fOp oNe (fCall m_tables_parted [] 2 (aCons (fVar 4) (aCons (fVar 3) aNil))) (fVar 6))))
  (fRet (fC (.bl false)))
  fNext))))))))))
def F_law (m__law_open_cells : GT) (m__law_known_right : GT) (m__law_draw_lines : GT) (m_least_table : GT) (m_tables_parted : GT) (m__law_pick : GT) (m__law_shuffled : GT) (m__law_like : GT) (m_is_table : GT) (m__law_least_of : GT) (m__law_parting : GT) : FS :=
  (fSeq (fSet 1 (fCall m__law_open_cells [] 1 (aCons (fVar 0) aNil)))
  (fSeq (fIfS (fNot (fB (fCall m__law_known_right [] 0 aNil)))
  (fRet (fC (.bl false)))
  fNext)
  (fSeq (fFor (iR1 (aCons (fC (.int 5)) aNil)) (gNm 2)
  (b1_law m__law_open_cells m__law_known_right m__law_draw_lines m_least_table m_tables_parted m__law_pick m__law_shuffled m__law_like m_is_table m__law_least_of m__law_parting))
  (fRet (fC (.bl true))))))
def g_law (m__law_open_cells : GT) (m__law_known_right : GT) (m__law_draw_lines : GT) (m_least_table : GT) (m_tables_parted : GT) (m__law_pick : GT) (m__law_shuffled : GT) (m__law_like : GT) (m_is_table : GT) (m__law_least_of : GT) (m__law_parting : GT) : GT := fnRes N_law (F_law m__law_open_cells m__law_known_right m__law_draw_lines m_least_table m_tables_parted m__law_pick m__law_shuffled m__law_like m_is_table m__law_least_of m__law_parting)
theorem ok_law (tp : Top K mg) {m__law_open_cells : GT} {m__law_known_right : GT} {m__law_draw_lines : GT} {m_least_table : GT} {m_tables_parted : GT} {m__law_pick : GT} {m__law_shuffled : GT} {m__law_like : GT} {m_is_table : GT} {m__law_least_of : GT} {m__law_parting : GT} (hF__law_open_cells : FnT P w K mg base 1 "_law_open_cells" ["_law_script"] m__law_open_cells) (hF__law_known_right : FnT P w K mg base 11 "_law_known_right" [] m__law_known_right) (hF__law_draw_lines : FnT P w K mg base 3 "_law_draw_lines" ["_law_source", "_law_lines", "_law_long", "_law_wide"] m__law_draw_lines) (hF_least_table : FnT P w K mg base 2 "least_table" ["table"] m_least_table) (hF_tables_parted : FnT P w K mg base 1 "tables_parted" ["one", "other"] m_tables_parted) (hF__law_pick : FnT P w K mg base 1 "_law_pick" ["_law_source", "_law_most"] m__law_pick) (hF__law_shuffled : FnT P w K mg base 3 "_law_shuffled" ["_law_source", "_law_table"] m__law_shuffled) (hF__law_like : FnT P w K mg base 1 "_law_like" ["_law_found", "_law_due"] m__law_like) (hF_is_table : FnT P w K mg base 10 "is_table" ["value"] m_is_table) (hF__law_least_of : FnT P w K mg base 2 "_law_least_of" ["_law_table"] m__law_least_of) (hF__law_parting : FnT P w K mg base 1 "_law_parting" ["_law_one", "_law_k", "_law_other", "_law_j"] m__law_parting) : FnT P w K mg base 12 "law" ["_law_script"] (g_law m__law_open_cells m__law_known_right m__law_draw_lines m_least_table m_tables_parted m__law_pick m__law_shuffled m__law_like m_is_table m__law_least_of m__law_parting) := by
  refine defT (k := 11) (B := F_law m__law_open_cells m__law_known_right m__law_draw_lines m_least_table m_tables_parted m__law_pick m__law_shuffled m__law_like m_is_table m__law_least_of m__law_parting) tp.d_law sc_law fun f cdv A outer s H E hr hg => ?_
  exact (s_cons (s_set (i := 1) sc_law.nd (f_callT hF__law_open_cells (by omega) hr hg (takes_of rfl rfl rfl rfl) (a_cons (f_var 0) a_nil)))
  (s_cons (s_if (g_not (g_val (f_callT0 hF__law_known_right (by decide) hr hg (takes_of rfl rfl rfl rfl))))
  (s_one (s_ret f_bl))
  s_nil)
  (s_cons (s_for (is := [2]) (passes_of rfl) rfl (i_range1 rfl tp.mn_range (a_cons f_int a_nil)) (t_name (pg_name (i := 2) sc_law.nd rfl (Or.inl rfl)) (by decide))
  (s_cons (s_par (i := 7) (j := 8) rfl sc_law.nd (a_cons (f_op b_add f_int (f_callT hF__law_pick (by omega) hr hg (takes_of rfl rfl rfl rfl) (a_cons (f_var 1) (a_cons f_int a_nil)))) (a_cons (f_callT hF__law_pick (by omega) hr hg (takes_of rfl rfl rfl rfl) (a_cons (f_var 1) (a_cons f_int a_nil))) a_nil)) (by decide))
  (s_cons (s_set (i := 3) sc_law.nd (f_callT hF__law_draw_lines (by omega) hr hg (takes_of rfl rfl rfl rfl) (a_cons (f_var 1) (a_cons (f_op b_add f_int (f_callT hF__law_pick (by omega) hr hg (takes_of rfl rfl rfl rfl) (a_cons (f_var 1) (a_cons f_int a_nil)))) (a_cons (f_var 7) (a_cons (f_var 8) a_nil))))))
  (s_cons (s_set (i := 4) sc_law.nd (f_callT hF__law_draw_lines (by omega) hr hg (takes_of rfl rfl rfl rfl) (a_cons (f_var 1) (a_cons (f_op b_add f_int (f_callT hF__law_pick (by omega) hr hg (takes_of rfl rfl rfl rfl) (a_cons (f_var 1) (a_cons f_int a_nil)))) (a_cons (f_var 7) (a_cons (f_var 8) a_nil))))))
  (s_cons (s_set (i := 4) sc_law.nd (f_ix (rU1 hr) (f_lst (a_cons (f_var 4) (a_cons (f_callT hF__law_shuffled (by omega) hr hg (takes_of rfl rfl rfl rfl) (a_cons (f_var 1) (a_cons (f_var 3) a_nil))) a_nil))) (f_callT hF__law_pick (by omega) hr hg (takes_of rfl rfl rfl rfl) (a_cons (f_var 1) (a_cons f_int a_nil)))))
  (s_cons (s_set (i := 5) sc_law.nd (f_callT hF_least_table (by omega) hr hg (takes_of rfl rfl rfl rfl) (a_cons (f_var 3) a_nil)))
  (s_cons (s_if (PW.pt (w_or (g_not (g_val (f_callT hF__law_like (by omega) hr hg (takes_of rfl rfl rfl rfl) (a_cons (f_var 5) (a_cons (f_callT hF__law_least_of (by omega) hr hg (takes_of rfl rfl rfl rfl) (a_cons (f_var 3) a_nil)) a_nil))))) (w_one (g_cmp (b_ne (rU64 hr)) (f_callT hF_least_table (by omega) hr hg (takes_of rfl rfl rfl rfl) (a_cons (f_var 5) a_nil)) (f_var 5)))))
  (s_one (s_ret f_bl))
  s_nil)
  (s_cons (s_if (g_cmp (b_ne (rU64 hr)) (f_lcG (cell := false) (own := [("_law_one", 9)]) rfl sc_law.nd (i_seq (f_lst (a_cons (f_var 3) (a_cons (f_var 5) (a_cons (f_var 4) a_nil))))) (by refine (show BlkOk N_law (defScope s_law) _ [("_law_one", 9)] from ⟨rfl, by decide +kernel, by decide +kernel, by decide +kernel, by decide +kernel⟩)) (fun _ _ _ _ _ => (t_name (pg_name (i := 9) sc_law.nd rfl (Or.inl rfl)) (by decide))) (fun _ _ _ _ _ => pts_none) (fun _ _ _ _ _ => (f_callT hF_is_table (by omega) hr hg takes0 (a_cons (f_var 9) a_nil)))) (f_op b_mul (f_lst (a_cons f_bl a_nil)) f_int))
  (s_one (s_ret f_bl))
  s_nil)
  (s_cons (s_set (i := 6) sc_law.nd (f_callT hF_tables_parted (by omega) hr hg (takes_of rfl rfl rfl rfl) (a_cons (f_var 3) (a_cons (f_var 4) a_nil))))
  (s_cons (s_if (PW.pt (w_or (g_not (g_val (f_callT hF__law_like (by omega) hr hg (takes_of rfl rfl rfl rfl) (a_cons (f_var 6) (a_cons (f_callT hF__law_parting (by omega) hr hg (takes_of rfl rfl rfl rfl) (a_cons (f_var 3) (a_cons f_int (a_cons (f_var 4) (a_cons f_int a_nil))))) a_nil))))) (w_one (g_cmp b_isnot (f_callT hF_tables_parted (by omega) hr hg (takes_of rfl rfl rfl rfl) (a_cons (f_var 3) (a_cons (f_var 5) a_nil))) f_non))))
  (s_one (s_ret f_bl))
  s_nil)
  (s_one (s_if (PW.pt (w_or (g_cmp (b_ne (rU64 hr)) (f_cmp b_is (f_var 6) f_non) (f_cmp (b_eq (rU64 hr)) (f_var 5) (f_callT hF_least_table (by omega) hr hg (takes_of rfl rfl rfl rfl) (a_cons (f_var 4) a_nil)))) (w_one (g_cmp (b_ne (rU64 hr)) (f_callT hF_tables_parted (by omega) hr hg (takes_of rfl rfl rfl rfl) (a_cons (f_var 4) (a_cons (f_var 3) a_nil))) (f_var 6)))))
  (s_one (s_ret f_bl))
  s_nil))))))))))))
  (s_one (s_ret f_bl)))))
end
-- the end
theorem all_top {C : Prop} {K : PySem.W.Frag} {h : Heap} {mg : Str → Option Value} {fa : Addr} (X : K.In h) (G : h.Ns mainGlobals mg) (hfa : mg "law" = some (.ref fa))
    {f0 : Addr} {od0 an0 : Option Addr} {sl0 : Array (Option Value)} {oc0 kV0 dc0 pm0 cd0 ct0 : Value} {f1 : Addr} {od1 an1 : Option Addr} {sl1 : Array (Option Value)} {oc1 kV1 dc1 pm1 cd1 ct1 : Value} {f2 : Addr} {od2 an2 : Option Addr} {sl2 : Array (Option Value)} {oc2 kV2 dc2 pm2 cd2 ct2 : Value} {f3 : Addr} {od3 an3 : Option Addr} {sl3 : Array (Option Value)} {oc3 kV3 dc3 pm3 cd3 ct3 : Value} {f4 : Addr} {od4 an4 : Option Addr} {sl4 : Array (Option Value)} {oc4 kV4 dc4 pm4 cd4 ct4 : Value} {f5 : Addr} {od5 an5 : Option Addr} {sl5 : Array (Option Value)} {oc5 kV5 dc5 pm5 cd5 ct5 : Value} {f6 : Addr} {od6 an6 : Option Addr} {sl6 : Array (Option Value)} {oc6 kV6 dc6 pm6 cd6 ct6 : Value} {f7 : Addr} {od7 an7 : Option Addr} {sl7 : Array (Option Value)} {oc7 kV7 dc7 pm7 cd7 ct7 : Value} {f8 : Addr} {od8 an8 : Option Addr} {sl8 : Array (Option Value)} {oc8 kV8 dc8 pm8 cd8 ct8 : Value} {f9 : Addr} {od9 an9 : Option Addr} {sl9 : Array (Option Value)} {oc9 kV9 dc9 pm9 cd9 ct9 : Value} {f10 : Addr} {od10 an10 : Option Addr} {sl10 : Array (Option Value)} {oc10 kV10 dc10 pm10 cd10 ct10 : Value} {f11 : Addr} {od11 an11 : Option Addr} {sl11 : Array (Option Value)} {oc11 kV11 dc11 pm11 cd11 ct11 : Value} {f12 : Addr} {od12 an12 : Option Addr} {sl12 : Array (Option Value)} {oc12 kV12 dc12 pm12 cd12 ct12 : Value} {f13 : Addr} {od13 an13 : Option Addr} {sl13 : Array (Option Value)} {oc13 kV13 dc13 pm13 cd13 ct13 : Value} {f14 : Addr} {od14 an14 : Option Addr} {sl14 : Array (Option Value)} {oc14 kV14 dc14 pm14 cd14 ct14 : Value} {f15 : Addr} {od15 an15 : Option Addr} {sl15 : Array (Option Value)} {oc15 kV15 dc15 pm15 cd15 ct15 : Value} {f16 : Addr} {od16 an16 : Option Addr} {sl16 : Array (Option Value)} {oc16 kV16 dc16 pm16 cd16 ct16 : Value} {f17 : Addr} {od17 an17 : Option Addr} {sl17 : Array (Option Value)} {oc17 kV17 dc17 pm17 cd17 ct17 : Value} {f18 : Addr} {od18 an18 : Option Addr} {sl18 : Array (Option Value)} {oc18 kV18 dc18 pm18 cd18 ct18 : Value} {f19 : Addr} {od19 an19 : Option Addr} {sl19 : Array (Option Value)} {oc19 kV19 dc19 pm19 cd19 ct19 : Value} {ad_BAD_WORDS : Addr} {t0_BAD_WORDS t1_BAD_WORDS : Tok} {od_BAD_WORDS : Option Addr} {n_BAD_WORDS : Nat} {sl_BAD_WORDS : Array (Option Value)} {t_LETTERS : Tok} {t_MOST_COUNT : Tok} {t_MOST_LETTERS : Tok}
    (a0 : PySem.W.nsIn K mainGlobals "is_number" = some (some (.ref f0)))
    (l0 : K.lookup f0 = some ⟨oc0, od0, .func (PySem.W.fnOf "is_number" "is_number" (defArgs (topS 4)) (defBody (topS 4)) (defScope (topS 4)) .none kV0 dc0 pm0 an0 cd0 ct0), sl0⟩)
    (c0 : PySem.W.codeIn K cd0 "is_number" = true)
    (k0 : PySem.W.keepIn K (.ref f0) = true)
    (a1 : PySem.W.nsIn K mainGlobals "is_word" = some (some (.ref f1)))
    (l1 : K.lookup f1 = some ⟨oc1, od1, .func (PySem.W.fnOf "is_word" "is_word" (defArgs (topS 5)) (defBody (topS 5)) (defScope (topS 5)) .none kV1 dc1 pm1 an1 cd1 ct1), sl1⟩)
    (c1 : PySem.W.codeIn K cd1 "is_word" = true)
    (k1 : PySem.W.keepIn K (.ref f1) = true)
    (a2 : PySem.W.nsIn K mainGlobals "is_told" = some (some (.ref f2)))
    (l2 : K.lookup f2 = some ⟨oc2, od2, .func (PySem.W.fnOf "is_told" "is_told" (defArgs (topS 8)) (defBody (topS 8)) (defScope (topS 8)) .none kV2 dc2 pm2 an2 cd2 ct2), sl2⟩)
    (c2 : PySem.W.codeIn K cd2 "is_told" = true)
    (k2 : PySem.W.keepIn K (.ref f2) = true)
    (a3 : PySem.W.nsIn K mainGlobals "is_entry" = some (some (.ref f3)))
    (l3 : K.lookup f3 = some ⟨oc3, od3, .func (PySem.W.fnOf "is_entry" "is_entry" (defArgs (topS 9)) (defBody (topS 9)) (defScope (topS 9)) .none kV3 dc3 pm3 an3 cd3 ct3), sl3⟩)
    (c3 : PySem.W.codeIn K cd3 "is_entry" = true)
    (k3 : PySem.W.keepIn K (.ref f3) = true)
    (a4 : PySem.W.nsIn K mainGlobals "widths" = some (some (.ref f4)))
    (l4 : K.lookup f4 = some ⟨oc4, od4, .func (PySem.W.fnOf "widths" "widths" (defArgs (topS 10)) (defBody (topS 10)) (defScope (topS 10)) .none kV4 dc4 pm4 an4 cd4 ct4), sl4⟩)
    (c4 : PySem.W.codeIn K cd4 "widths" = true)
    (k4 : PySem.W.keepIn K (.ref f4) = true)
    (a5 : PySem.W.nsIn K mainGlobals "is_table" = some (some (.ref f5)))
    (l5 : K.lookup f5 = some ⟨oc5, od5, .func (PySem.W.fnOf "is_table" "is_table" (defArgs (topS 11)) (defBody (topS 11)) (defScope (topS 11)) .none kV5 dc5 pm5 an5 cd5 ct5), sl5⟩)
    (c5 : PySem.W.codeIn K cd5 "is_table" = true)
    (k5 : PySem.W.keepIn K (.ref f5) = true)
    (a6 : PySem.W.nsIn K mainGlobals "grouped" = some (some (.ref f6)))
    (l6 : K.lookup f6 = some ⟨oc6, od6, .func (PySem.W.fnOf "grouped" "grouped" (defArgs (topS 12)) (defBody (topS 12)) (defScope (topS 12)) .none kV6 dc6 pm6 an6 cd6 ct6), sl6⟩)
    (c6 : PySem.W.codeIn K cd6 "grouped" = true)
    (k6 : PySem.W.keepIn K (.ref f6) = true)
    (a7 : PySem.W.nsIn K mainGlobals "least_table" = some (some (.ref f7)))
    (l7 : K.lookup f7 = some ⟨oc7, od7, .func (PySem.W.fnOf "least_table" "least_table" (defArgs (topS 13)) (defBody (topS 13)) (defScope (topS 13)) .none kV7 dc7 pm7 an7 cd7 ct7), sl7⟩)
    (c7 : PySem.W.codeIn K cd7 "least_table" = true)
    (k7 : PySem.W.keepIn K (.ref f7) = true)
    (a8 : PySem.W.nsIn K mainGlobals "tables_parted" = some (some (.ref f8)))
    (l8 : K.lookup f8 = some ⟨oc8, od8, .func (PySem.W.fnOf "tables_parted" "tables_parted" (defArgs (topS 14)) (defBody (topS 14)) (defScope (topS 14)) .none kV8 dc8 pm8 an8 cd8 ct8), sl8⟩)
    (c8 : PySem.W.codeIn K cd8 "tables_parted" = true)
    (k8 : PySem.W.keepIn K (.ref f8) = true)
    (a9 : PySem.W.nsIn K mainGlobals "_law_open_cells" = some (some (.ref f9)))
    (l9 : K.lookup f9 = some ⟨oc9, od9, .func (PySem.W.fnOf "_law_open_cells" "_law_open_cells" (defArgs (topS 16)) (defBody (topS 16)) (defScope (topS 16)) .none kV9 dc9 pm9 an9 cd9 ct9), sl9⟩)
    (c9 : PySem.W.codeIn K cd9 "_law_open_cells" = true)
    (k9 : PySem.W.keepIn K (.ref f9) = true)
    (a10 : PySem.W.nsIn K mainGlobals "_law_pick" = some (some (.ref f10)))
    (l10 : K.lookup f10 = some ⟨oc10, od10, .func (PySem.W.fnOf "_law_pick" "_law_pick" (defArgs (topS 17)) (defBody (topS 17)) (defScope (topS 17)) .none kV10 dc10 pm10 an10 cd10 ct10), sl10⟩)
    (c10 : PySem.W.codeIn K cd10 "_law_pick" = true)
    (k10 : PySem.W.keepIn K (.ref f10) = true)
    (a11 : PySem.W.nsIn K mainGlobals "_law_any_order" = some (some (.ref f11)))
    (l11 : K.lookup f11 = some ⟨oc11, od11, .func (PySem.W.fnOf "_law_any_order" "_law_any_order" (defArgs (topS 18)) (defBody (topS 18)) (defScope (topS 18)) .none kV11 dc11 pm11 an11 cd11 ct11), sl11⟩)
    (c11 : PySem.W.codeIn K cd11 "_law_any_order" = true)
    (k11 : PySem.W.keepIn K (.ref f11) = true)
    (a12 : PySem.W.nsIn K mainGlobals "_law_like" = some (some (.ref f12)))
    (l12 : K.lookup f12 = some ⟨oc12, od12, .func (PySem.W.fnOf "_law_like" "_law_like" (defArgs (topS 19)) (defBody (topS 19)) (defScope (topS 19)) .none kV12 dc12 pm12 an12 cd12 ct12), sl12⟩)
    (c12 : PySem.W.codeIn K cd12 "_law_like" = true)
    (k12 : PySem.W.keepIn K (.ref f12) = true)
    (a13 : PySem.W.nsIn K mainGlobals "_law_draw_entry" = some (some (.ref f13)))
    (l13 : K.lookup f13 = some ⟨oc13, od13, .func (PySem.W.fnOf "_law_draw_entry" "_law_draw_entry" (defArgs (topS 20)) (defBody (topS 20)) (defScope (topS 20)) .none kV13 dc13 pm13 an13 cd13 ct13), sl13⟩)
    (c13 : PySem.W.codeIn K cd13 "_law_draw_entry" = true)
    (k13 : PySem.W.keepIn K (.ref f13) = true)
    (a14 : PySem.W.nsIn K mainGlobals "_law_draw_lines" = some (some (.ref f14)))
    (l14 : K.lookup f14 = some ⟨oc14, od14, .func (PySem.W.fnOf "_law_draw_lines" "_law_draw_lines" (defArgs (topS 21)) (defBody (topS 21)) (defScope (topS 21)) .none kV14 dc14 pm14 an14 cd14 ct14), sl14⟩)
    (c14 : PySem.W.codeIn K cd14 "_law_draw_lines" = true)
    (k14 : PySem.W.keepIn K (.ref f14) = true)
    (a15 : PySem.W.nsIn K mainGlobals "_law_parting" = some (some (.ref f15)))
    (l15 : K.lookup f15 = some ⟨oc15, od15, .func (PySem.W.fnOf "_law_parting" "_law_parting" (defArgs (topS 22)) (defBody (topS 22)) (defScope (topS 22)) .none kV15 dc15 pm15 an15 cd15 ct15), sl15⟩)
    (c15 : PySem.W.codeIn K cd15 "_law_parting" = true)
    (k15 : PySem.W.keepIn K (.ref f15) = true)
    (a16 : PySem.W.nsIn K mainGlobals "_law_least_of" = some (some (.ref f16)))
    (l16 : K.lookup f16 = some ⟨oc16, od16, .func (PySem.W.fnOf "_law_least_of" "_law_least_of" (defArgs (topS 23)) (defBody (topS 23)) (defScope (topS 23)) .none kV16 dc16 pm16 an16 cd16 ct16), sl16⟩)
    (c16 : PySem.W.codeIn K cd16 "_law_least_of" = true)
    (k16 : PySem.W.keepIn K (.ref f16) = true)
    (a17 : PySem.W.nsIn K mainGlobals "_law_shuffled" = some (some (.ref f17)))
    (l17 : K.lookup f17 = some ⟨oc17, od17, .func (PySem.W.fnOf "_law_shuffled" "_law_shuffled" (defArgs (topS 24)) (defBody (topS 24)) (defScope (topS 24)) .none kV17 dc17 pm17 an17 cd17 ct17), sl17⟩)
    (c17 : PySem.W.codeIn K cd17 "_law_shuffled" = true)
    (k17 : PySem.W.keepIn K (.ref f17) = true)
    (a18 : PySem.W.nsIn K mainGlobals "_law_known_right" = some (some (.ref f18)))
    (l18 : K.lookup f18 = some ⟨oc18, od18, .func (PySem.W.fnOf "_law_known_right" "_law_known_right" (defArgs (topS 25)) (defBody (topS 25)) (defScope (topS 25)) .none kV18 dc18 pm18 an18 cd18 ct18), sl18⟩)
    (c18 : PySem.W.codeIn K cd18 "_law_known_right" = true)
    (k18 : PySem.W.keepIn K (.ref f18) = true)
    (a19 : PySem.W.nsIn K mainGlobals "law" = some (some (.ref f19)))
    (l19 : K.lookup f19 = some ⟨oc19, od19, .func (PySem.W.fnOf "law" "law" (defArgs (topS 26)) (defBody (topS 26)) (defScope (topS 26)) .none kV19 dc19 pm19 an19 cd19 ct19), sl19⟩)
    (c19 : PySem.W.codeIn K cd19 "law" = true)
    (k19 : PySem.W.keepIn K (.ref f19) = true)
    (z_abs : PySem.W.nsIn K mainGlobals "abs" = some none)
    (z_all : PySem.W.nsIn K mainGlobals "all" = some none)
    (z_bool : PySem.W.nsIn K mainGlobals "bool" = some none)
    (z_enumerate : PySem.W.nsIn K mainGlobals "enumerate" = some none)
    (z_int : PySem.W.nsIn K mainGlobals "int" = some none)
    (z_isinstance : PySem.W.nsIn K mainGlobals "isinstance" = some none)
    (z_len : PySem.W.nsIn K mainGlobals "len" = some none)
    (z_list : PySem.W.nsIn K mainGlobals "list" = some none)
    (z_range : PySem.W.nsIn K mainGlobals "range" = some none)
    (z_repr : PySem.W.nsIn K mainGlobals "repr" = some none)
    (z_set : PySem.W.nsIn K mainGlobals "set" = some none)
    (z_str : PySem.W.nsIn K mainGlobals "str" = some none)
    (z_tuple : PySem.W.nsIn K mainGlobals "tuple" = some none)
    (g_BAD_WORDS : PySem.W.nsIn K mainGlobals "BAD_WORDS" = some (some (.ref ad_BAD_WORDS)))
    (h_BAD_WORDS : K.lookup ad_BAD_WORDS = some ⟨.type "tuple", od_BAD_WORDS, .seq #[.str "clash" t0_BAD_WORDS, .str "stuck" t1_BAD_WORDS] n_BAD_WORDS, sl_BAD_WORDS⟩)
    (g_LETTERS : PySem.W.nsIn K mainGlobals "LETTERS" = some (some (Value.str "abcdefghijklmnopqrstuvwxyz" t_LETTERS)))
    (g_MOST_COUNT : PySem.W.nsIn K mainGlobals "MOST_COUNT" = some (some (Value.int 6 t_MOST_COUNT)))
    (g_MOST_LETTERS : PySem.W.nsIn K mainGlobals "MOST_LETTERS" = some (some (Value.int 8 t_MOST_LETTERS)))
    (fin : Top K mg → C) : C := by
  have e := hfa.symm.trans (PySem.W.mg_of X G a19)
  cases e
  refine fin ?_
  exact {
    d_is_number := (let F := fun_mk (st := topS 4) l0 c0 k0; DefT.mk' F (PySem.W.mg_of X G a0) (F.binds (ps := ["value"]) fun _ _ _ _ _ _ us hl => match us, hl with | [_], _ => rfl))
    d_is_word := (let F := fun_mk (st := topS 5) l1 c1 k1; DefT.mk' F (PySem.W.mg_of X G a1) (F.binds (ps := ["value"]) fun _ _ _ _ _ _ us hl => match us, hl with | [_], _ => rfl))
    d_is_told := (let F := fun_mk (st := topS 8) l2 c2 k2; DefT.mk' F (PySem.W.mg_of X G a2) (F.binds (ps := ["value"]) fun _ _ _ _ _ _ us hl => match us, hl with | [_], _ => rfl))
    d_is_entry := (let F := fun_mk (st := topS 9) l3 c3 k3; DefT.mk' F (PySem.W.mg_of X G a3) (F.binds (ps := ["value", "lines", "wide"]) fun _ _ _ _ _ _ us hl => match us, hl with | [_, _, _], _ => rfl))
    d_widths := (let F := fun_mk (st := topS 10) l4 c4 k4; DefT.mk' F (PySem.W.mg_of X G a4) (F.binds (ps := ["value"]) fun _ _ _ _ _ _ us hl => match us, hl with | [_], _ => rfl))
    d_is_table := (let F := fun_mk (st := topS 11) l5 c5 k5; DefT.mk' F (PySem.W.mg_of X G a5) (F.binds (ps := ["value"]) fun _ _ _ _ _ _ us hl => match us, hl with | [_], _ => rfl))
    d_grouped := (let F := fun_mk (st := topS 12) l6 c6 k6; DefT.mk' F (PySem.W.mg_of X G a6) (F.binds (ps := ["table"]) fun _ _ _ _ _ _ us hl => match us, hl with | [_], _ => rfl))
    d_least_table := (let F := fun_mk (st := topS 13) l7 c7 k7; DefT.mk' F (PySem.W.mg_of X G a7) (F.binds (ps := ["table"]) fun _ _ _ _ _ _ us hl => match us, hl with | [_], _ => rfl))
    d_tables_parted := (let F := fun_mk (st := topS 14) l8 c8 k8; DefT.mk' F (PySem.W.mg_of X G a8) (F.binds (ps := ["one", "other"]) fun _ _ _ _ _ _ us hl => match us, hl with | [_, _], _ => rfl))
    d__law_open_cells := (let F := fun_mk (st := topS 16) l9 c9 k9; DefT.mk' F (PySem.W.mg_of X G a9) (F.binds (ps := ["_law_script"]) fun _ _ _ _ _ _ us hl => match us, hl with | [_], _ => rfl))
    d__law_pick := (let F := fun_mk (st := topS 17) l10 c10 k10; DefT.mk' F (PySem.W.mg_of X G a10) (F.binds (ps := ["_law_source", "_law_most"]) fun _ _ _ _ _ _ us hl => match us, hl with | [_, _], _ => rfl))
    d__law_any_order := (let F := fun_mk (st := topS 18) l11 c11 k11; DefT.mk' F (PySem.W.mg_of X G a11) (F.binds (ps := ["_law_source", "_law_things"]) fun _ _ _ _ _ _ us hl => match us, hl with | [_, _], _ => rfl))
    d__law_like := (let F := fun_mk (st := topS 19) l12 c12 k12; DefT.mk' F (PySem.W.mg_of X G a12) (F.binds (ps := ["_law_found", "_law_due"]) fun _ _ _ _ _ _ us hl => match us, hl with | [_, _], _ => rfl))
    d__law_draw_entry := (let F := fun_mk (st := topS 20) l13 c13 k13; DefT.mk' F (PySem.W.mg_of X G a13) (F.binds (ps := ["_law_source", "_law_lines", "_law_wide"]) fun _ _ _ _ _ _ us hl => match us, hl with | [_, _, _], _ => rfl))
    d__law_draw_lines := (let F := fun_mk (st := topS 21) l14 c14 k14; DefT.mk' F (PySem.W.mg_of X G a14) (F.binds (ps := ["_law_source", "_law_lines", "_law_long", "_law_wide"]) fun _ _ _ _ _ _ us hl => match us, hl with | [_, _, _, _], _ => rfl))
    d__law_parting := (let F := fun_mk (st := topS 22) l15 c15 k15; DefT.mk' F (PySem.W.mg_of X G a15) (F.binds (ps := ["_law_one", "_law_k", "_law_other", "_law_j"]) fun _ _ _ _ _ _ us hl => match us, hl with | [_, _, _, _], _ => rfl))
    d__law_least_of := (let F := fun_mk (st := topS 23) l16 c16 k16; DefT.mk' F (PySem.W.mg_of X G a16) (F.binds (ps := ["_law_table"]) fun _ _ _ _ _ _ us hl => match us, hl with | [_], _ => rfl))
    d__law_shuffled := (let F := fun_mk (st := topS 24) l17 c17 k17; DefT.mk' F (PySem.W.mg_of X G a17) (F.binds (ps := ["_law_source", "_law_table"]) fun _ _ _ _ _ _ us hl => match us, hl with | [_, _], _ => rfl))
    d__law_known_right := (let F := fun_mk (st := topS 25) l18 c18 k18; DefT.mk' F (PySem.W.mg_of X G a18) (F.binds (ps := []) fun _ _ _ _ _ _ us hl => match us, hl with | [], _ => rfl))
    d_law := (let F := fun_mk (st := topS 26) l19 c19 k19; DefT.mk' F (PySem.W.mg_of X G a19) (F.binds (ps := ["_law_script"]) fun _ _ _ _ _ _ us hl => match us, hl with | [_], _ => rfl))
    mn_abs := PySem.W.mg_none_of X G z_abs
    mn_all := PySem.W.mg_none_of X G z_all
    mn_bool := PySem.W.mg_none_of X G z_bool
    mn_enumerate := PySem.W.mg_none_of X G z_enumerate
    mn_int := PySem.W.mg_none_of X G z_int
    mn_isinstance := PySem.W.mg_none_of X G z_isinstance
    mn_len := PySem.W.mg_none_of X G z_len
    mn_list := PySem.W.mg_none_of X G z_list
    mn_range := PySem.W.mg_none_of X G z_range
    mn_repr := PySem.W.mg_none_of X G z_repr
    mn_set := PySem.W.mg_none_of X G z_set
    mn_str := PySem.W.mg_none_of X G z_str
    mn_tuple := PySem.W.mg_none_of X G z_tuple
    gl_BAD_WORDS := ⟨_, PySem.W.mg_of X G g_BAD_WORDS, ⟨_, _, _, h_BAD_WORDS, rfl, rfl, (show 2 ≤ sizeLine from by decide), (.cons ⟨_, rfl⟩ (.cons ⟨_, rfl⟩ .nil))⟩⟩
    gl_LETTERS := ⟨_, PySem.W.mg_of X G g_LETTERS⟩
    gl_MOST_COUNT := ⟨_, PySem.W.mg_of X G g_MOST_COUNT⟩
    gl_MOST_LETTERS := ⟨_, PySem.W.mg_of X G g_MOST_LETTERS⟩
  }
-- cases: a0 l0 c0 k0 a1 l1 c1 k1 a2 l2 c2 k2 a3 l3 c3 k3 a4 l4 c4 k4 a5 l5 c5 k5 a6 l6 c6 k6 a7 l7 c7 k7 a8 l8 c8 k8 a9 l9 c9 k9 a10 l10 c10 k10 a11 l11 c11 k11 a12 l12 c12 k12 a13 l13 c13 k13 a14 l14 c14 k14 a15 l15 c15 k15 a16 l16 c16 k16 a17 l17 c17 k17 a18 l18 c18 k18 a19 l19 c19 k19 z_abs z_all z_bool z_enumerate z_int z_isinstance z_len z_list z_range z_repr z_set z_str z_tuple g_BAD_WORDS h_BAD_WORDS g_LETTERS g_MOST_COUNT g_MOST_LETTERS
end Fl
set_option Elab.async false
set_option linter.all false
/-! A1: tables, when two states cannot be told apart, the search for a parting run. -/
namespace Mt

/-! ### lists -/
theorem nodup_len_le {l : List Nat} (hd : l.Nodup) {N : Nat} (h : ∀ x ∈ l, x < N) : l.length ≤ N := by
  induction N generalizing l with
  | zero =>
    cases l with
    | nil => exact Nat.le_refl _
    | cons x r => exact absurd (h x List.mem_cons_self) (Nat.not_lt_zero _)
  | succ N ih =>
    by_cases hN : N ∈ l
    · have h1 : (l.erase N).length ≤ N := ih (hd.erase N) fun x hx => by
        have hx' := (List.Nodup.mem_erase_iff hd).mp hx
        have := h x hx'.2
        omega
      have h2 := List.length_erase_of_mem hN
      have h3 : 0 < l.length := List.length_pos_of_mem hN
      omega
    · have := ih hd fun x hx => by
        have := h x hx
        have : x ≠ N := fun e => hN (e ▸ hx)
        omega
      omega
theorem nodup_sub_len {β : Type} [DecidableEq β] {l m : List β} (hd : l.Nodup) (h : ∀ x ∈ l, x ∈ m) : l.length ≤ m.length := by
  induction l generalizing m with
  | nil => exact Nat.zero_le _
  | cons x r ih =>
    rw [List.nodup_cons] at hd
    have hx := h x List.mem_cons_self
    have h1 : r.length ≤ (m.erase x).length := ih hd.2 fun y hy => by
      have hne : y ≠ x := fun e => hd.1 (e ▸ hy)
      exact (List.mem_erase_of_ne hne).mpr (h y (List.mem_cons_of_mem _ hy))
    have h2 := List.length_erase_of_mem hx
    have h3 : 0 < m.length := List.length_pos_of_mem hx
    simp only [List.length_cons]
    omega

variable {α : Type} [DecidableEq α]
abbrev Ent (α : Type) := α × Option Nat
abbrev Tb (α : Type) := List (List (Ent α))
def row (tb : Tb α) (i : Nat) : List (Ent α) := tb.getD i []
structure WF (gd : α → Bool) (k : Nat) (tb : Tb α) : Prop where
  pos : 0 < tb.length
  len : ∀ r ∈ tb, r.length = k
  nx : ∀ r ∈ tb, ∀ e ∈ r, ∀ g, e.2 = some g → g < tb.length
  gd : ∀ r ∈ tb, ∀ e ∈ r, e.2.isSome = gd e.1
theorem row_mem {tb : Tb α} {i : Nat} (h : i < tb.length) : row tb i ∈ tb := by
  unfold row
  rw [List.getD_eq_getElem?_getD, List.getElem?_eq_getElem h]
  exact List.getElem_mem h

/-! ### not to be told apart -/
inductive F2 {β γ : Type} (R : β → γ → Prop) : List β → List γ → Prop
  | nil : F2 R [] []
  | cons {a b as bs} : R a b → F2 R as bs → F2 R (a :: as) (b :: bs)
theorem F2.imp {β γ : Type} {R S : β → γ → Prop} (h : ∀ a b, R a b → S a b) : ∀ {as bs}, F2 R as bs → F2 S as bs
  | _, _, .nil => .nil
  | _, _, .cons r t => .cons (h _ _ r) (F2.imp h t)
theorem F2.len {β γ : Type} {R : β → γ → Prop} : ∀ {as bs}, F2 R as bs → as.length = bs.length
  | _, _, .nil => rfl
  | _, _, .cons _ t => by simp [F2.len t]
theorem F2.symm {β γ : Type} {R : β → γ → Prop} {S : γ → β → Prop} (h : ∀ a b, R a b → S b a) : ∀ {as bs}, F2 R as bs → F2 S bs as
  | _, _, .nil => .nil
  | _, _, .cons r t => .cons (h _ _ r) (F2.symm h t)
theorem F2.trans {β γ δ : Type} {R : β → γ → Prop} {S : γ → δ → Prop} {U : β → δ → Prop} (h : ∀ a b c, R a b → S b c → U a c) : ∀ {as bs cs}, F2 R as bs → F2 S bs cs → F2 U as cs
  | _, _, _, .nil, .nil => .nil
  | _, _, _, .cons r t, .cons r' t' => .cons (h _ _ _ r r') (F2.trans h t t')
theorem F2.refl {β : Type} {R : β → β → Prop} : ∀ {as : List β}, (∀ a ∈ as, R a a) → F2 R as as
  | [], _ => .nil
  | a :: as, h => .cons (h a List.mem_cons_self) (F2.refl fun b hb => h b (List.mem_cons_of_mem _ hb))
theorem F2.map {β γ δ : Type} {R : β → γ → Prop} {f : δ → γ} : ∀ {as : List β} {ds : List δ}, F2 (fun a d => R a (f d)) as ds → F2 R as (ds.map f)
  | _, _, .nil => .nil
  | _, _, .cons r t => .cons r (F2.map t)
theorem F2.mem {β γ : Type} {R : β → γ → Prop} {P : β → Prop} {Q : γ → Prop} : ∀ {as bs}, F2 R as bs → (∀ a ∈ as, P a) → (∀ b ∈ bs, Q b) → F2 (fun a b => R a b ∧ P a ∧ Q b) as bs
  | _, _, .nil, _, _ => .nil
  | _, _, .cons r t, hp, hq => .cons ⟨r, hp _ List.mem_cons_self, hq _ List.mem_cons_self⟩ (F2.mem t (fun a ha => hp a (List.mem_cons_of_mem _ ha)) fun a ha => hq a (List.mem_cons_of_mem _ ha))
def OptR (R : Nat → Nat → Prop) : Option Nat → Option Nat → Prop
  | none, none => True
  | some g, some h => R g h
  | _, _ => False
def EntR (R : Nat → Nat → Prop) (e e' : Ent α) : Prop := e.1 = e'.1 ∧ OptR R e.2 e'.2
def Sim (t u : Tb α) (R : Nat → Nat → Prop) : Prop := ∀ i j, R i j → i < t.length ∧ j < u.length ∧ F2 (EntR R) (row t i) (row u j)
def Bis (t u : Tb α) (i j : Nat) : Prop := ∃ R, Sim t u R ∧ R i j
theorem EntR.imp {R S : Nat → Nat → Prop} (h : ∀ a b, R a b → S a b) {e e' : Ent α} (r : EntR R e e') : EntR S e e' := by
  obtain ⟨l, o⟩ := e
  obtain ⟨l', o'⟩ := e'
  refine ⟨r.1, ?_⟩
  have := r.2
  cases o <;> cases o' <;> first | exact this | exact h _ _ this
theorem Bis.step {t u : Tb α} {i j : Nat} (b : Bis t u i j) : i < t.length ∧ j < u.length ∧ F2 (EntR (Bis t u)) (row t i) (row u j) := by
  obtain ⟨R, s, r⟩ := b
  obtain ⟨h1, h2, h3⟩ := s i j r
  exact ⟨h1, h2, h3.imp fun _ _ => EntR.imp fun a b r => ⟨R, s, r⟩⟩
theorem Bis.symm {t u : Tb α} {i j : Nat} (b : Bis t u i j) : Bis u t j i := by
  obtain ⟨R, s, r⟩ := b
  refine ⟨fun a b => R b a, fun a b r => ?_, r⟩
  obtain ⟨h1, h2, h3⟩ := s b a r
  refine ⟨h2, h1, h3.symm fun e e' q => ?_⟩
  obtain ⟨l, o⟩ := e
  obtain ⟨l', o'⟩ := e'
  refine ⟨q.1.symm, ?_⟩
  have := q.2
  cases o <;> cases o' <;> exact this
theorem Bis.trans {t u v : Tb α} {i j k : Nat} (b : Bis t u i j) (c : Bis u v j k) : Bis t v i k := by
  refine ⟨fun a c => ∃ b, Bis t u a b ∧ Bis u v b c, ?_, j, b, c⟩
  rintro a d ⟨x, b, c⟩
  obtain ⟨h1, h2, h3⟩ := b.step
  obtain ⟨h4, h5, h6⟩ := c.step
  refine ⟨h1, h5, F2.trans ?_ h3 h6⟩
  rintro ⟨l, o⟩ ⟨l', o'⟩ ⟨l'', o''⟩ q q'
  refine ⟨q.1.trans q'.1, ?_⟩
  have h := q.2
  have h' := q'.2
  cases o <;> cases o' <;> cases o'' <;> first | trivial | exact h.elim | exact h'.elim | exact ⟨_, h, h'⟩
theorem Bis.refl {gd : α → Bool} {k : Nat} {t : Tb α} (w : WF gd k t) {i : Nat} (h : i < t.length) : Bis t t i i := by
  refine ⟨fun a b => a = b ∧ a < t.length, ?_, rfl, h⟩
  rintro a b ⟨rfl, ha⟩
  refine ⟨ha, ha, F2.refl fun e he => ⟨rfl, ?_⟩⟩
  cases ho : e.2 with
  | none => trivial
  | some g => exact ⟨rfl, w.nx _ (row_mem ha) e he g ho⟩

/-! ### the search -/
/-- one pair of rows: what to look at next, or the place where they part -/
def scan (w : List Nat) : Nat → List (Ent α) → List (Ent α) → List (Nat × Nat) → List (List Nat) → Except (List Nat) (List (Nat × Nat) × List (List Nat))
  | p, e :: es, f :: fs, ps, ws => if e.1 ≠ f.1 then .error (w ++ [p]) else match e.2, f.2 with
    | some g, some h => if (g, h) ∈ ps then scan w (p + 1) es fs ps ws else scan w (p + 1) es fs (ps ++ [(g, h)]) (ws ++ [w ++ [p]])
    | _, _ => scan w (p + 1) es fs ps ws
  | _, _, _, ps, ws => .ok (ps, ws)
def part (t u : Tb α) : Nat → Nat → List (Nat × Nat) → List (List Nat) → Option (List Nat)
  | 0, _, _, _ => none
  | f + 1, n, ps, ws => if n = ps.length then none else
    match scan (ws.getD n []) 0 (row t (ps.getD n (0, 0)).1) (row u (ps.getD n (0, 0)).2) ps ws with
    | .error w => some w
    | .ok (ps', ws') => part t u f (n + 1) ps' ws'
def parting (t u : Tb α) (i j : Nat) : Option (List Nat) := part t u (t.length * u.length) 0 [(i, j)] [[]]

/-- what a scan leaves -/
theorem scan_ok {w : List Nat} : ∀ {es fs : List (Ent α)} {p : Nat} {ps : List (Nat × Nat)} {ws : List (List Nat)} {ps' : List (Nat × Nat)} {ws' : List (List Nat)}, es.length = fs.length → (∀ e ∈ es, ∀ f ∈ fs, e.1 = f.1 → e.2.isSome = f.2.isSome) →
    scan w p es fs ps ws = .ok (ps', ws') → ∃ more, ps' = ps ++ more ∧ F2 (EntR fun g h => (g, h) ∈ ps') es fs ∧ (ps.Nodup → ps'.Nodup) ∧
      ∀ x ∈ more, ∃ e ∈ es, ∃ f ∈ fs, e.2 = some x.1 ∧ f.2 = some x.2
  | [], [], p, ps, ws, ps', ws', hl, hg, h => by
    simp only [scan, Except.ok.injEq, Prod.mk.injEq] at h
    exact ⟨[], by simp [h.1], .nil, fun z => h.1 ▸ z, fun x hx => nomatch hx⟩
  | e :: es, f :: fs, p, ps, ws, ps', ws', hl, hg, h => by
    obtain ⟨l, o⟩ := e
    obtain ⟨l', o'⟩ := f
    have hl' : es.length = fs.length := by simpa using hl
    have hg' : ∀ e ∈ es, ∀ f ∈ fs, e.1 = f.1 → e.2.isSome = f.2.isSome := fun e he f hf => hg e (List.mem_cons_of_mem _ he) f (List.mem_cons_of_mem _ hf)
    have h0 := hg (l, o) List.mem_cons_self (l', o') List.mem_cons_self
    unfold scan at h
    split at h
    · cases h
    · rename_i hne
      have hll : l = l' := Classical.not_not.mp hne
      have h1 := h0 hll
      cases o with
      | none =>
        cases o' with
        | none =>
          simp only at h
          obtain ⟨more, e1, e2, e3, e4⟩ := scan_ok hl' hg' h
          exact ⟨more, e1, .cons ⟨hll, trivial⟩ e2, e3, fun x hx => by
            obtain ⟨e, he, f, hf, q⟩ := e4 x hx
            exact ⟨e, List.mem_cons_of_mem _ he, f, List.mem_cons_of_mem _ hf, q⟩⟩
        | some z => simp at h1
      | some g =>
        cases o' with
        | none => simp at h1
        | some z =>
          simp only at h
          split at h
          · rename_i hm
            obtain ⟨more, e1, e2, e3, e4⟩ := scan_ok hl' hg' h
            refine ⟨more, e1, .cons ⟨hll, ?_⟩ e2, e3, fun x hx => by
              obtain ⟨e, he, f, hf, q⟩ := e4 x hx
              exact ⟨e, List.mem_cons_of_mem _ he, f, List.mem_cons_of_mem _ hf, q⟩⟩
            show (g, z) ∈ ps'
            rw [e1]
            exact List.mem_append_left _ hm
          · rename_i hm
            obtain ⟨more, e1, e2, e3, e4⟩ := scan_ok hl' hg' h
            refine ⟨(g, z) :: more, by rw [e1]; simp, .cons ⟨hll, ?_⟩ e2, fun nd => e3 ?_, fun x hx => ?_⟩
            · show (g, z) ∈ ps'
              rw [e1]
              simp
            · rw [List.nodup_append]
              refine ⟨nd, by simp, fun a ha b hb e => ?_⟩
              rw [List.mem_singleton] at hb
              exact hm (by rw [← hb, ← e]; exact ha)
            · rcases List.mem_cons.mp hx with hx | hx
              · subst hx
                exact ⟨_, List.mem_cons_self, _, List.mem_cons_self, rfl, rfl⟩
              · obtain ⟨e, he, f, hf, q⟩ := e4 x hx
                exact ⟨e, List.mem_cons_of_mem _ he, f, List.mem_cons_of_mem _ hf, q⟩
  | [], f :: fs, p, ps, ws, ps', ws', hl, hg, h => by simp at hl
  | e :: es, [], p, ps, ws, ps', ws', hl, hg, h => by simp at hl
/-- rows that match let the scan through -/
theorem scan_thru {w : List Nat} {R : Nat → Nat → Prop} : ∀ {es fs : List (Ent α)} {p : Nat} {ps : List (Nat × Nat)} {ws : List (List Nat)}, F2 (EntR R) es fs → (∀ x ∈ ps, R x.1 x.2) →
    ∃ ps' ws', scan w p es fs ps ws = .ok (ps', ws') ∧ (∀ x ∈ ps', R x.1 x.2) ∧ ps.length ≤ ps'.length
  | _, _, p, ps, ws, .nil, hp => ⟨ps, ws, by simp [scan], hp, Nat.le_refl _⟩
  | _, _, p, ps, ws, .cons (a := e) (b := f) r t, hp => by
    obtain ⟨l, o⟩ := e
    obtain ⟨l', o'⟩ := f
    obtain ⟨r1, r2⟩ := r
    have r1 : l = l' := r1
    unfold scan
    rw [if_neg (fun z : l ≠ l' => z r1)]
    cases o <;> cases o' <;> simp only [OptR] at r2 ⊢
    · exact scan_thru t hp
    · rename_i g h
      split
      · exact scan_thru t hp
      · obtain ⟨ps', ws', e1, e2, e3⟩ := scan_thru (w := w) (p := p + 1) (ps := ps ++ [(g, h)]) (ws := ws ++ [w ++ [p]]) t fun x hx => by
          rcases List.mem_append.mp hx with hx | hx
          · exact hp x hx
          · rw [List.mem_singleton] at hx
            subst hx
            exact r2
        exact ⟨ps', ws', e1, e2, by rw [List.length_append] at e3; omega⟩
variable {gd : α → Bool} {k : Nat} {t u : Tb α}
theorem both_some (wt : WF gd k t) (wu : WF gd k u) {i j : Nat} (hi : i < t.length) (hj : j < u.length) : ∀ e ∈ row t i, ∀ f ∈ row u j, e.1 = f.1 → e.2.isSome = f.2.isSome := fun e he f hf h => by
  rw [wt.gd _ (row_mem hi) e he, wu.gd _ (row_mem hj) f hf, h]
/-- nothing found: they cannot be told apart -/
theorem part_none (wt : WF gd k t) (wu : WF gd k u) : ∀ (f n : Nat) (ps : List (Nat × Nat)) (ws : List (List Nat)), n + f = t.length * u.length → n ≤ ps.length → ps.Nodup → (∀ x ∈ ps, x.1 < t.length ∧ x.2 < u.length) →
    (∀ x ∈ ps.take n, F2 (EntR fun g h => (g, h) ∈ ps) (row t x.1) (row u x.2)) → part t u f n ps ws = none → ∀ x ∈ ps, Bis t u x.1 x.2
  | f, n, ps, ws, hf, hn, hd, hb, hc, hp => by
    have fin : n = ps.length → ∀ x ∈ ps, Bis t u x.1 x.2 := fun e x hx => by
      refine ⟨fun g h => (g, h) ∈ ps, fun i j r => ?_, hx⟩
      refine ⟨(hb _ r).1, (hb _ r).2, hc (i, j) ?_⟩
      rw [e, List.take_length]
      exact r
    cases f with
    | zero =>
      refine fin ?_
      have : (ps.map fun x => x.1 * u.length + x.2).length ≤ t.length * u.length := by
        refine nodup_len_le ?_ fun x hx => ?_
        · rw [List.Nodup, List.pairwise_map]
          refine List.Pairwise.imp_of_mem (fun {a b} ha hb' hne e => hne ?_) hd
          have h1 := (hb a ha).2
          have h2 := (hb b hb').2
          have e1 : a.1 = b.1 := by
            have h3 := Nat.mul_add_div wu.pos a.1 a.2
            have h4 := Nat.mul_add_div wu.pos b.1 b.2
            rw [Nat.div_eq_of_lt h1, Nat.mul_comm] at h3
            rw [Nat.div_eq_of_lt h2, Nat.mul_comm] at h4
            have e : a.1 * u.length + a.2 = b.1 * u.length + b.2 := e
            rw [e] at h3
            omega
          have e2 : a.2 = b.2 := by
            rw [e1] at e
            omega
          exact Prod.ext e1 e2
        · obtain ⟨y, hy, rfl⟩ := List.mem_map.mp hx
          obtain ⟨h1, h2⟩ := hb y hy
          calc y.1 * u.length + y.2 < y.1 * u.length + u.length := by omega
            _ = (y.1 + 1) * u.length := by rw [Nat.add_mul, Nat.one_mul]
            _ ≤ t.length * u.length := Nat.mul_le_mul_right _ h1
      rw [List.length_map] at this
      omega
    | succ f =>
      unfold part at hp
      split at hp
      · rename_i e
        exact fin e
      · rename_i hne
        have hlt : n < ps.length := by omega
        have hget : ps.getD n (0, 0) = ps[n] := by rw [List.getD_eq_getElem?_getD, List.getElem?_eq_getElem hlt]; rfl
        rw [hget] at hp
        obtain ⟨b1, b2⟩ := hb ps[n] (List.getElem_mem hlt)
        split at hp
        · cases hp
        · rename_i ps' ws' hs
          have hl : (row t ps[n].1).length = (row u ps[n].2).length := by rw [wt.len _ (row_mem b1), wu.len _ (row_mem b2)]
          obtain ⟨more, e1, e2, e3, e4⟩ := scan_ok hl (both_some wt wu b1 b2) hs
          have := part_none wt wu f (n + 1) ps' ws' (by omega) (by rw [e1, List.length_append]; omega) (e3 hd) (fun x hx => ?_) (fun x hx => ?_) hp
          · intro x hx
            exact this x (by rw [e1]; exact List.mem_append_left _ hx)
          · rw [e1] at hx
            rcases List.mem_append.mp hx with hx | hx
            · exact hb x hx
            · obtain ⟨e, he, f', hf', q1, q2⟩ := e4 x hx
              exact ⟨wt.nx _ (row_mem b1) e he _ q1, wu.nx _ (row_mem b2) f' hf' _ q2⟩
          · rw [e1, List.take_append_of_le_length (by omega), List.take_add_one, List.getElem?_eq_getElem hlt] at hx
            rcases List.mem_append.mp hx with hx | hx
            · refine (hc x hx).imp fun _ _ => EntR.imp fun a b r => ?_
              rw [e1]
              exact List.mem_append_left _ r
            · simp at hx
              subst hx
              exact e2
theorem part_thru {R : Nat → Nat → Prop} (hR : Sim t u R) : ∀ (f n : Nat) (ps : List (Nat × Nat)) (ws : List (List Nat)), n ≤ ps.length → (∀ x ∈ ps, R x.1 x.2) → part t u f n ps ws = none
  | 0, _, _, _, _, _ => rfl
  | f + 1, n, ps, ws, hn, hp => by
    unfold part
    split
    · rfl
    · rename_i hne
      have hlt : n < ps.length := by omega
      have hget : ps.getD n (0, 0) = ps[n] := by rw [List.getD_eq_getElem?_getD, List.getElem?_eq_getElem hlt]; rfl
      rw [hget]
      obtain ⟨_, _, h3⟩ := hR _ _ (hp ps[n] (List.getElem_mem hlt))
      obtain ⟨ps', ws', e, hp', hl⟩ := scan_thru (w := ws.getD n []) (p := 0) (ps := ps) (ws := ws) h3 hp
      rw [e]
      exact part_thru hR f (n + 1) ps' ws' (by omega) hp'
/-- T1 -/
theorem parting_none (wt : WF gd k t) (wu : WF gd k u) {i j : Nat} (hi : i < t.length) (hj : j < u.length) : parting t u i j = none ↔ Bis t u i j := by
  constructor
  · intro h
    refine part_none wt wu (t.length * u.length) 0 [(i, j)] [[]] (by omega) (by simp) (by simp) (fun x hx => ?_) (fun x hx => by simp at hx) h (i, j) (by simp)
    simp at hx
    subst hx
    exact ⟨hi, hj⟩
  · rintro ⟨R, s, r⟩
    exact part_thru s _ 0 _ _ (by simp) fun x hx => by simp at hx; subst hx; exact r

/-! ### the other way about -/
def swp (ps : List (Nat × Nat)) : List (Nat × Nat) := ps.map fun x => (x.2, x.1)
theorem swp_mem {ps : List (Nat × Nat)} {g h : Nat} : (h, g) ∈ swp ps ↔ (g, h) ∈ ps := by
  unfold swp
  rw [List.mem_map]
  constructor
  · rintro ⟨x, hx, e⟩
    cases e
    exact hx
  · intro hx
    exact ⟨_, hx, rfl⟩
def swpE : Except (List Nat) (List (Nat × Nat) × List (List Nat)) → Except (List Nat) (List (Nat × Nat) × List (List Nat))
  | .error w => .error w
  | .ok (ps, ws) => .ok (swp ps, ws)
theorem scan_swp {w : List Nat} : ∀ (es fs : List (Ent α)) (p : Nat) (ps : List (Nat × Nat)) (ws : List (List Nat)), scan w p fs es (swp ps) ws = swpE (scan w p es fs ps ws)
  | [], [], p, ps, ws => by simp [scan, swpE]
  | [], f :: fs, p, ps, ws => by simp [scan, swpE]
  | e :: es, [], p, ps, ws => by simp [scan, swpE]
  | e :: es, f :: fs, p, ps, ws => by
    obtain ⟨l, o⟩ := e
    obtain ⟨l', o'⟩ := f
    unfold scan
    by_cases hl : l = l'
    · subst hl
      rw [if_neg (fun z : l ≠ l => z rfl), if_neg (fun z : l ≠ l => z rfl)]
      cases o <;> cases o' <;> simp only
      · exact scan_swp es fs _ ps ws
      · exact scan_swp es fs _ ps ws
      · exact scan_swp es fs _ ps ws
      · rename_i g h
        by_cases hm : (g, h) ∈ ps
        · rw [if_pos hm, if_pos (swp_mem.mpr hm)]
          exact scan_swp es fs _ ps ws
        · rw [if_neg hm, if_neg (fun z => hm (swp_mem.mp z))]
          have e : swp ps ++ [(h, g)] = swp (ps ++ [(g, h)]) := by simp [swp]
          rw [e]
          exact scan_swp es fs _ _ _
    · rw [if_pos (show (l, o).1 ≠ (l', o').1 from hl), if_pos (show (l', o').1 ≠ (l, o).1 from fun z => hl z.symm)]
      rfl
theorem part_swp (t u : Tb α) : ∀ (f n : Nat) (ps : List (Nat × Nat)) (ws : List (List Nat)), part u t f n (swp ps) ws = part t u f n ps ws
  | 0, _, _, _ => rfl
  | f + 1, n, ps, ws => by
    have hl : (swp ps).length = ps.length := by simp [swp]
    unfold part
    rw [hl]
    split
    · rfl
    · have e : (swp ps).getD n (0, 0) = ((ps.getD n (0, 0)).2, (ps.getD n (0, 0)).1) := by
        unfold swp
        rw [List.getD_eq_getElem?_getD, List.getElem?_map, List.getD_eq_getElem?_getD]
        cases ps[n]? <;> rfl
      rw [e]
      simp only
      rw [scan_swp]
      cases h : scan (ws.getD n []) 0 (row t (ps.getD n (0, 0)).1) (row u (ps.getD n (0, 0)).2) ps ws with
      | error w => rfl
      | ok q => exact part_swp t u f (n + 1) q.1 q.2
/-- T2 -/
theorem parting_swp (t u : Tb α) (i j : Nat) : parting u t j i = parting t u i j := by
  unfold parting
  rw [Nat.mul_comm]
  exact part_swp t u _ 0 [(i, j)] _
end Mt
set_option Elab.async false
set_option linter.all false
/-! A2: parting a table's states into groups. -/
namespace Mt
section
variable {β : Type} [DecidableEq β]
def ixOf (s : β) : List β → Option Nat
  | [] => none
  | x :: xs => if x = s then some 0 else (ixOf s xs).map (· + 1)
theorem ixOf_some {s : β} : ∀ {l : List β} {i : Nat}, ixOf s l = some i → l[i]? = some s
  | [], i, h => by simp [ixOf] at h
  | x :: xs, i, h => by
    unfold ixOf at h
    split at h
    · rename_i e
      cases h
      simp [e]
    · cases q : ixOf s xs with
      | none => rw [q] at h; simp at h
      | some j =>
        rw [q] at h
        simp at h
        subst h
        simpa using ixOf_some q
theorem ixOf_none {s : β} : ∀ {l : List β}, ixOf s l = none ↔ s ∉ l
  | [] => by simp [ixOf]
  | x :: xs => by
    unfold ixOf
    split
    · rename_i e
      simp [e]
    · rename_i e
      simp only [Option.map_eq_none_iff, List.mem_cons, not_or]
      rw [ixOf_none]
      exact ⟨fun h => ⟨fun z => e z.symm, h⟩, fun h => h.2⟩
theorem ixOf_lt {s : β} {l : List β} {i : Nat} (h : ixOf s l = some i) : i < l.length := (List.getElem?_eq_some_iff.mp (ixOf_some h)).1
theorem ixOf_mem {s : β} {l : List β} (h : s ∈ l) : ∃ i, ixOf s l = some i := by
  cases q : ixOf s l with
  | none => exact absurd h (ixOf_none.mp q)
  | some i => exact ⟨i, rfl⟩
theorem ixOf_append {s : β} {l m : List β} {i : Nat} (h : ixOf s l = some i) : ixOf s (l ++ m) = some i := by
  induction l generalizing i with
  | nil => simp [ixOf] at h
  | cons x xs ih =>
    rw [List.cons_append]
    unfold ixOf at h ⊢
    split
    · rename_i e
      rw [if_pos e] at h
      exact h
    · rename_i e
      rw [if_neg e] at h
      cases q : ixOf s xs with
      | none => rw [q] at h; simp at h
      | some j =>
        rw [q] at h
        rw [ih q]
        exact h
/-- numbered by when first met -/
def numGo : List β → List β → List Nat
  | [], _ => []
  | s :: r, seen => match ixOf s seen with
    | some i => i :: numGo r seen
    | none => seen.length :: numGo r (seen ++ [s])
theorem numGo_spec : ∀ (ss seen : List β), seen.Nodup → ∃ S, S.Nodup ∧ (∃ more, S = seen ++ more) ∧ F2 (fun s n => S[n]? = some s) ss (numGo ss seen)
  | [], seen, h => ⟨seen, h, ⟨[], by simp⟩, .nil⟩
  | s :: r, seen, h => by
    unfold numGo
    cases q : ixOf s seen with
    | some i =>
      obtain ⟨S, h1, ⟨more, h2⟩, h3⟩ := numGo_spec r seen h
      refine ⟨S, h1, ⟨more, h2⟩, .cons ?_ h3⟩
      rw [h2, List.getElem?_append_left (ixOf_lt q)]
      exact ixOf_some q
    | none =>
      have hm := ixOf_none.mp q
      obtain ⟨S, h1, ⟨more, h2⟩, h3⟩ := numGo_spec r (seen ++ [s]) (by
        rw [List.nodup_append]
        refine ⟨h, by simp, fun a ha b hb e => ?_⟩
        rw [List.mem_singleton] at hb
        exact hm (by rw [← hb, ← e]; exact ha))
      refine ⟨S, h1, ⟨s :: more, by rw [h2]; simp⟩, .cons ?_ h3⟩
      rw [h2]
      simp
theorem F2.get {β γ : Type} {R : β → γ → Prop} : ∀ {as bs}, F2 R as bs → ∀ {i : Nat} {a : β} {b : γ}, as[i]? = some a → bs[i]? = some b → R a b
  | _, _, .nil, i, a, b, h, _ => by simp at h
  | _, _, .cons r t, 0, a, b, h, h' => by
    simp at h h'
    subst h h'
    exact r
  | _, _, .cons r t, i + 1, a, b, h, h' => F2.get t (by simpa using h) (by simpa using h')
def num (ss : List β) : List Nat := numGo ss []
theorem num_len (ss : List β) : (num ss).length = ss.length := by
  obtain ⟨S, _, _, h⟩ := numGo_spec ss [] List.nodup_nil
  exact h.len.symm
/-- the numbers are alike where what was numbered is -/
theorem num_eq {ss : List β} {i j : Nat} (hi : i < ss.length) (hj : j < ss.length) : (num ss).getD i 0 = (num ss).getD j 0 ↔ ss[i] = ss[j] := by
  obtain ⟨S, h1, _, h3⟩ := numGo_spec ss [] List.nodup_nil
  have li : i < (num ss).length := by rw [num_len]; exact hi
  have lj : j < (num ss).length := by rw [num_len]; exact hj
  have e1 := h3.get (List.getElem?_eq_getElem hi) (List.getElem?_eq_getElem li)
  have e2 := h3.get (List.getElem?_eq_getElem hj) (List.getElem?_eq_getElem lj)
  rw [List.getD_eq_getElem?_getD, List.getD_eq_getElem?_getD, List.getElem?_eq_getElem li, List.getElem?_eq_getElem lj]
  simp only [Option.getD_some]
  constructor
  · intro e
    have e3 : S[(num ss)[i]]? = S[(num ss)[j]]? := by rw [e]
    have e1' : S[(num ss)[i]]? = some ss[i] := e1
    have e2' : S[(num ss)[j]]? = some ss[j] := e2
    rw [e1', e2'] at e3
    exact Option.some.inj e3
  · intro e
    have e1' : S[(num ss)[i]]? = some ss[i] := e1
    have e2' : S[(num ss)[j]]? = some ss[j] := e2
    obtain ⟨a1, a2⟩ := List.getElem?_eq_some_iff.mp e1'
    obtain ⟨b1, b2⟩ := List.getElem?_eq_some_iff.mp e2'
    exact (List.getElem_inj h1).mp (a2.trans (e.trans b2.symm))
def uniq : List β → List β
  | [] => []
  | x :: xs => if x ∈ uniq xs then uniq xs else x :: uniq xs
theorem uniq_mem {x : β} : ∀ {l : List β}, x ∈ uniq l ↔ x ∈ l
  | [] => by simp [uniq]
  | y :: l => by
    unfold uniq
    split
    · rename_i h
      rw [List.mem_cons]
      constructor
      · intro hx; exact .inr (uniq_mem.mp hx)
      · rintro (hx | hx)
        · rw [hx]; exact h
        · exact uniq_mem.mpr hx
    · rw [List.mem_cons, List.mem_cons, uniq_mem]
theorem uniq_nodup : ∀ l : List β, (uniq l).Nodup
  | [] => by simp [uniq]
  | y :: l => by
    unfold uniq
    split
    · exact uniq_nodup l
    · rename_i h
      exact List.nodup_cons.mpr ⟨h, uniq_nodup l⟩
def card (l : List β) : Nat := (uniq l).length
theorem card_eq {l U : List β} (h1 : U.Nodup) (h2 : ∀ x, x ∈ U ↔ x ∈ l) : U.length = card l :=
  Nat.le_antisymm (nodup_sub_len h1 fun x hx => uniq_mem.mpr ((h2 x).mp hx)) (nodup_sub_len (uniq_nodup l) fun x hx => (h2 x).mpr (uniq_mem.mp hx))
theorem card_le (l : List β) : card l ≤ l.length := nodup_sub_len (uniq_nodup l) fun x hx => uniq_mem.mp hx
end
/-- a finer list of numbers with no more of them is as fine -/
theorem card_fine {f h : List Nat} (hl : f.length = h.length) (fine : ∀ i j, i < f.length → j < f.length → h.getD i 0 = h.getD j 0 → f.getD i 0 = f.getD j 0) (hc : card h ≤ card f) {i j : Nat} (hi : i < f.length) (hj : j < f.length) (e : f.getD i 0 = f.getD j 0) : h.getD i 0 = h.getD j 0 := by
  apply Classical.byContradiction
  intro ne
  -- the place where a number is first met
  let φ : Nat → Nat := fun v => f.getD ((ixOf v h).getD 0) 0
  have hφ : ∀ a, a < f.length → φ (h.getD a 0) = f.getD a 0 := fun a ha => by
    have hm : h.getD a 0 ∈ h := by
      rw [List.getD_eq_getElem?_getD, List.getElem?_eq_getElem (by omega)]
      exact List.getElem_mem (by omega)
    obtain ⟨b, hb⟩ := ixOf_mem hm
    have hbl := ixOf_lt hb
    show f.getD ((ixOf (h.getD a 0) h).getD 0) 0 = _
    rw [hb]
    refine fine b a (by omega) ha ?_
    rw [List.getD_eq_getElem?_getD, ixOf_some hb]
    rfl
  have hm : ∀ a, a < f.length → h.getD a 0 ∈ h := fun a ha => by
    rw [List.getD_eq_getElem?_getD, List.getElem?_eq_getElem (by omega)]
    exact List.getElem_mem (by omega)
  have sub : ∀ x ∈ uniq f, x ∈ ((uniq h).erase (h.getD i 0)).map φ := fun x hx => by
    obtain ⟨a, ha, ea⟩ := List.mem_iff_getElem.mp (uniq_mem.mp hx)
    have ea' : f.getD a 0 = x := by rw [List.getD_eq_getElem?_getD, List.getElem?_eq_getElem ha]; exact ea
    by_cases q : h.getD a 0 = h.getD i 0
    · refine List.mem_map.mpr ⟨h.getD j 0, (List.mem_erase_of_ne fun z => ne z.symm).mpr (uniq_mem.mpr (hm j hj)), ?_⟩
      rw [hφ j hj, ← e, ← fine a i ha hi q]
      exact ea'
    · exact List.mem_map.mpr ⟨h.getD a 0, (List.mem_erase_of_ne q).mpr (uniq_mem.mpr (hm a ha)), by rw [hφ a ha]; exact ea'⟩
  have h1 := nodup_sub_len (uniq_nodup f) sub
  rw [List.length_map, List.length_erase_of_mem (uniq_mem.mpr (hm i hi))] at h1
  have h2 : 0 < (uniq h).length := List.length_pos_of_mem (uniq_mem.mpr (hm i hi))
  unfold card at hc
  omega

/-! ### groups -/
variable {α : Type} [DecidableEq α]
def sgn (g : List Nat) (r : List (Ent α)) : List (Ent α) := r.map fun e => (e.1, e.2.map fun x => g.getD x 0)
def stp (t : Tb α) (g : List Nat) : List Nat := num (t.map (sgn g))
def grp (t : Tb α) : Nat → Nat → List Nat → List Nat
  | 0, _, g => g
  | f + 1, many, g => if many < card g then grp t f (card g) (stp t g) else g
def groups (t : Tb α) : List Nat := grp t (t.length + 2) 0 (List.replicate t.length 0)
variable {gd : α → Bool} {k : Nat} {t u : Tb α}
theorem stp_len (g : List Nat) : (stp t g).length = t.length := by unfold stp; rw [num_len, List.length_map]
theorem stp_eq (g : List Nat) {i j : Nat} (hi : i < t.length) (hj : j < t.length) : (stp t g).getD i 0 = (stp t g).getD j 0 ↔ sgn g (row t i) = sgn g (row t j) := by
  unfold stp
  rw [num_eq (by simpa using hi) (by simpa using hj)]
  simp only [List.getElem_map]
  unfold row
  rw [List.getD_eq_getElem?_getD, List.getD_eq_getElem?_getD, List.getElem?_eq_getElem hi, List.getElem?_eq_getElem hj]
  rfl
/-- same signs -/
theorem sgn_eq {g : List Nat} : ∀ {r s : List (Ent α)}, sgn g r = sgn g s ↔ F2 (EntR fun a b => g.getD a 0 = g.getD b 0) r s
  | [], [] => ⟨fun _ => .nil, fun _ => rfl⟩
  | [], f :: fs => ⟨fun h => (by simp [sgn] at h), fun h => nomatch h⟩
  | e :: es, [] => ⟨fun h => (by simp [sgn] at h), fun h => nomatch h⟩
  | (l, o) :: es, (l', o') :: fs => by
    have ih := sgn_eq (g := g) (r := es) (s := fs)
    constructor
    · intro h
      unfold sgn at h
      rw [List.map_cons, List.map_cons, List.cons.injEq, Prod.mk.injEq] at h
      refine .cons ⟨h.1.1, ?_⟩ (ih.mp h.2)
      have h2 := h.1.2
      cases o <;> cases o' <;> simp only [Option.map_none, Option.map_some, reduceCtorEq, Option.some.injEq] at h2
      · exact trivial
      · exact h2
    · rintro (_ | ⟨r, t⟩)
      unfold sgn
      rw [List.map_cons, List.map_cons, List.cons.injEq, Prod.mk.injEq]
      refine ⟨⟨r.1, ?_⟩, ih.mpr t⟩
      have h2 := r.2
      cases o <;> cases o'
      · rfl
      · exact h2.elim
      · exact h2.elim
      · have h2 : g.getD _ 0 = g.getD _ 0 := h2
        simp only [Option.map_some]
        rw [h2]
/-- what the loop keeps -/
structure GI (t : Tb α) (many : Nat) (g : List Nat) : Prop where
  len : g.length = t.length
  bis : ∀ i j, Bis t t i j → g.getD i 0 = g.getD j 0
  fine : ∀ i j, i < t.length → j < t.length → (stp t g).getD i 0 = (stp t g).getD j 0 → g.getD i 0 = g.getD j 0
  done : card g ≤ many → ∀ i j, i < t.length → j < t.length → g.getD i 0 = g.getD j 0 → sgn g (row t i) = sgn g (row t j)
theorem F2.with {R : Nat → Nat → Prop} (w : WF gd k t) {i j : Nat} (hi : i < t.length) (hj : j < t.length) (h : F2 (EntR R) (row t i) (row t j)) : F2 (EntR fun a b => R a b ∧ a < t.length ∧ b < t.length) (row t i) (row t j) := by
  refine (h.mem (P := fun e => e ∈ row t i) (Q := fun e => e ∈ row t j) (fun _ h => h) (fun _ h => h)).imp ?_
  rintro ⟨l, o⟩ ⟨l', o'⟩ ⟨⟨r1, r2⟩, m1, m2⟩
  refine ⟨r1, ?_⟩
  cases o <;> cases o' <;> first | exact r2 | exact ⟨r2, w.nx _ (row_mem hi) _ m1 _ rfl, w.nx _ (row_mem hj) _ m2 _ rfl⟩
theorem GI.next {many : Nat} {g : List Nat} (w : WF gd k t) (G : GI t many g) : GI t (card g) (stp t g) := by
  have fine' : ∀ i j, i < t.length → j < t.length → (stp t (stp t g)).getD i 0 = (stp t (stp t g)).getD j 0 → (stp t g).getD i 0 = (stp t g).getD j 0 := fun i j hi hj e => by
    rw [stp_eq _ hi hj, sgn_eq] at e
    rw [stp_eq _ hi hj, sgn_eq]
    exact (F2.with w hi hj e).imp fun _ _ => EntR.imp fun a b r => G.fine a b r.2.1 r.2.2 r.1
  refine ⟨stp_len g, fun i j b => ?_, fine', fun hc i j hi hj e => ?_⟩
  · obtain ⟨h1, h2, h3⟩ := b.step
    rw [stp_eq _ h1 h2, sgn_eq]
    exact h3.imp fun _ _ => EntR.imp fun a b => G.bis a b
  · rw [stp_eq _ hi hj, sgn_eq] at e
    rw [sgn_eq]
    refine (F2.with w hi hj e).imp fun _ _ => EntR.imp fun a b r => ?_
    refine card_fine (f := g) (h := stp t g) (by rw [stp_len, G.len]) (fun a b ha hb => ?_) hc (by rw [G.len]; exact r.2.1) (by rw [G.len]; exact r.2.2) r.1
    rw [G.len] at ha hb
    exact G.fine a b ha hb
theorem GI.start (w : WF gd k t) : GI t 0 (List.replicate t.length 0) := by
  have e : ∀ i, (List.replicate t.length 0).getD i 0 = 0 := fun i => by
    rw [List.getD_eq_getElem?_getD, List.getElem?_replicate]
    split <;> rfl
  refine ⟨List.length_replicate, fun i j _ => by rw [e, e], fun i j _ _ _ => by rw [e, e], fun hc => ?_⟩
  have h0 : (0 : Nat) ∈ uniq (List.replicate t.length 0) := uniq_mem.mpr (List.mem_replicate.mpr ⟨Nat.ne_of_gt w.pos, rfl⟩)
  have := List.length_pos_of_mem h0
  unfold card at hc
  omega
theorem grp_spec (w : WF gd k t) : ∀ (f many : Nat) (g : List Nat), t.length + 1 ≤ f + many → GI t many g → ∃ many', GI t many' (grp t f many g) ∧ card (grp t f many g) ≤ many'
  | 0, many, g, hf, G => ⟨many, G, by
    unfold grp
    have := card_le g
    rw [G.len] at this
    omega⟩
  | f + 1, many, g, hf, G => by
    unfold grp
    split
    · exact grp_spec w f (card g) (stp t g) (by omega) (G.next w)
    · rename_i h
      exact ⟨many, G, by omega⟩
theorem groups_len (w : WF gd k t) : (groups t).length = t.length := let ⟨_, G, _⟩ := grp_spec w (t.length + 2) 0 _ (by omega) (GI.start w); G.len
/-- T3 -/
theorem groups_eq (w : WF gd k t) {i j : Nat} (hi : i < t.length) (hj : j < t.length) : (groups t).getD i 0 = (groups t).getD j 0 ↔ Bis t t i j := by
  obtain ⟨m, G, hc⟩ := grp_spec w (t.length + 2) 0 _ (by omega) (GI.start w)
  have G : GI t m (groups t) := G
  have hc : card (groups t) ≤ m := hc
  refine ⟨fun e => ⟨fun a b => a < t.length ∧ b < t.length ∧ (groups t).getD a 0 = (groups t).getD b 0, fun a b r => ⟨r.1, r.2.1, ?_⟩, hi, hj, e⟩, fun b => G.bis i j b⟩
  have := sgn_eq.mp (G.done hc a b r.1 r.2.1 r.2.2)
  exact (F2.with w r.1 r.2.1 this).imp fun _ _ => EntR.imp fun a b r => ⟨r.2.1, r.2.2, r.1⟩
end Mt
set_option Elab.async false
set_option linter.all false
/-! A3: least tables. -/
namespace Mt
variable {α : Type} [DecidableEq α]
def sc (c rp : Nat → Nat) : List (Ent α) → List Nat → List (Ent α) → List Nat × List (Ent α)
  | [], o, l => (o, l)
  | e :: es, o, l => match e.2 with
    | none => sc c rp es o (l ++ [(e.1, none)])
    | some g => if c (rp g) ∈ o.map c then sc c rp es o (l ++ [(e.1, ixOf (c (rp g)) (o.map c))])
      else sc c rp es (o ++ [rp g]) (l ++ [(e.1, ixOf (c (rp g)) ((o ++ [rp g]).map c))])
def lst (t : Tb α) (c rp : Nat → Nat) : Nat → Nat → List Nat → Tb α → Tb α
  | 0, _, _, found => found
  | f + 1, n, o, found => if n = o.length then found else
    lst t c rp f (n + 1) (sc c rp (row t (o.getD n 0)) o []).1 (found ++ [(sc c rp (row t (o.getD n 0)) o []).2])
def least (t : Tb α) (c rp : Nat → Nat) : Tb α := lst t c rp t.length 0 [0] []

variable {gd : α → Bool} {k : Nat} {t u : Tb α} {c rp c' rp' : Nat → Nat}
structure Cls (t : Tb α) (c rp : Nat → Nat) : Prop where
  bd : ∀ g, g < t.length → rp g < t.length ∧ Bis t t g (rp g)
  eq : ∀ g h, g < t.length → h < t.length → (c (rp g) = c (rp h) ↔ Bis t t g h)
  z : rp 0 = 0
structure OI (t : Tb α) (c rp : Nat → Nat) (o : List Nat) : Prop where
  nd : (o.map c).Nodup
  img : ∀ x ∈ o, x < t.length ∧ ∃ g, g < t.length ∧ x = rp g
theorem nodup_of_map {l : List Nat} {f : Nat → Nat} (h : (l.map f).Nodup) : l.Nodup := by
  rw [List.Nodup, List.pairwise_map] at h
  exact h.imp fun hne e => hne (by rw [e])
theorem OI.len {o : List Nat} (h : OI t c rp o) : o.length ≤ t.length := nodup_len_le (nodup_of_map h.nd) fun x hx => (h.img x hx).1
theorem OI.snoc {o : List Nat} (C : Cls t c rp) (h : OI t c rp o) {g : Nat} (hg : g < t.length) (hn : c (rp g) ∉ o.map c) : OI t c rp (o ++ [rp g]) := by
  refine ⟨?_, fun x hx => ?_⟩
  · rw [List.map_append, List.nodup_append]
    refine ⟨h.nd, by simp, fun a ha b hb e => ?_⟩
    simp at hb
    exact hn (by rw [← hb, ← e]; exact ha)
  · rcases List.mem_append.mp hx with hx | hx
    · exact h.img x hx
    · rw [List.mem_singleton] at hx
      subst hx
      exact ⟨(C.bd g hg).1, g, hg, rfl⟩
/-- where a class stands in the order -/
def Lk (c rp : Nat → Nat) (o : List Nat) (g m : Nat) : Prop := (o.map c)[m]? = some (c (rp g))
theorem Lk.more {o more : List Nat} {g m : Nat} (h : Lk c rp o g m) : Lk c rp (o ++ more) g m := by
  unfold Lk at *
  rw [List.map_append, List.getElem?_append_left (List.getElem?_eq_some_iff.mp h).1]
  exact h
theorem sc_spec (C : Cls t c rp) : ∀ (es : List (Ent α)) (o : List Nat) (l : List (Ent α)), (∀ e ∈ es, ∀ g, e.2 = some g → g < t.length) → OI t c rp o →
    ∃ more line, (sc c rp es o l).1 = o ++ more ∧ (sc c rp es o l).2 = l ++ line ∧ OI t c rp (o ++ more) ∧ F2 (EntR (Lk c rp (o ++ more))) es line
  | [], o, l, hb, h => ⟨[], [], by simp [sc], by simp [sc], by simpa using h, .nil⟩
  | (a, none) :: es, o, l, hb, h => by
    obtain ⟨more, line, e1, e2, e3, e4⟩ := sc_spec C es o (l ++ [(a, none)]) (fun e he => hb e (List.mem_cons_of_mem _ he)) h
    exact ⟨more, (a, none) :: line, e1, by rw [show sc c rp ((a, none) :: es) o l = sc c rp es o (l ++ [(a, none)]) from rfl, e2]; simp, e3, .cons ⟨rfl, trivial⟩ e4⟩
  | (a, some g) :: es, o, l, hb, h => by
    have hg := hb (a, some g) List.mem_cons_self g rfl
    by_cases hm : c (rp g) ∈ o.map c
    · obtain ⟨i, hi⟩ := ixOf_mem hm
      have es1 : sc c rp ((a, some g) :: es) o l = sc c rp es o (l ++ [(a, some i)]) := by
        rw [← hi]
        show (if c (rp g) ∈ o.map c then _ else _) = _
        rw [if_pos hm]
      obtain ⟨more, line, e1, e2, e3, e4⟩ := sc_spec C es o (l ++ [(a, some i)]) (fun e he => hb e (List.mem_cons_of_mem _ he)) h
      exact ⟨more, (a, some i) :: line, by rw [es1, e1], by rw [es1, e2]; simp, e3, .cons ⟨rfl, (show Lk c rp o g i from ixOf_some hi).more⟩ e4⟩
    · have h2 := h.snoc C hg hm
      obtain ⟨i, hi⟩ := ixOf_mem (l := (o ++ [rp g]).map c) (s := c (rp g)) (by simp)
      have es1 : sc c rp ((a, some g) :: es) o l = sc c rp es (o ++ [rp g]) (l ++ [(a, some i)]) := by
        rw [← hi]
        show (if c (rp g) ∈ o.map c then _ else _) = _
        rw [if_neg hm]
      obtain ⟨more, line, e1, e2, e3, e4⟩ := sc_spec C es (o ++ [rp g]) (l ++ [(a, some i)]) (fun e he => hb e (List.mem_cons_of_mem _ he)) h2
      refine ⟨rp g :: more, (a, some i) :: line, by rw [es1, e1]; simp, by rw [es1, e2]; simp, by simpa using e3, .cons ⟨rfl, ?_⟩ (by simpa using e4)⟩
      have := (show Lk c rp (o ++ [rp g]) g i from ixOf_some hi).more (more := more)
      rw [List.append_assoc] at this
      exact this
/-- the rows that are done -/
def Dn (t : Tb α) (c rp : Nat → Nat) (o : List Nat) (found : Tb α) : Prop := ∀ (i x : Nat) (r : List (Ent α)), o[i]? = some x → found[i]? = some r → F2 (EntR (Lk c rp o)) (row t x) r
theorem lst_spec (w : WF gd k t) (C : Cls t c rp) : ∀ (f n : Nat) (o : List Nat) (found : Tb α), n + f = t.length → n ≤ o.length → found.length = n → OI t c rp o → o[0]? = some 0 → Dn t c rp o found →
    ∃ O, OI t c rp O ∧ O[0]? = some 0 ∧ (lst t c rp f n o found).length = O.length ∧ Dn t c rp O (lst t c rp f n o found)
  | f, n, o, found, hf, hn, hl, h, h0, hd => by
    cases f with
    | zero =>
      have := h.len
      exact ⟨o, h, h0, by show found.length = _; omega, hd⟩
    | succ f =>
      unfold lst
      split
      · rename_i e
        exact ⟨o, h, h0, by omega, hd⟩
      · rename_i hne
        have hlt : n < o.length := by omega
        have hget : o.getD n 0 = o[n] := by rw [List.getD_eq_getElem?_getD, List.getElem?_eq_getElem hlt]; rfl
        rw [hget]
        have hx := (h.img o[n] (List.getElem_mem hlt)).1
        obtain ⟨more, line, e1, e2, e3, e4⟩ := sc_spec C (row t o[n]) o [] (fun e he g => w.nx _ (row_mem hx) e he g) h
        rw [e1, e2]
        refine lst_spec w C f (n + 1) (o ++ more) (found ++ [[] ++ line]) (by omega) (by rw [List.length_append]; omega) (by simp [hl]) e3 ?_ ?_
        · rw [List.getElem?_append_left (by omega)]
          exact h0
        · intro i x r hi hr
          by_cases hin : i < found.length
          · rw [List.getElem?_append_left hin] at hr
            rw [List.getElem?_append_left (by omega)] at hi
            exact (hd i x r hi hr).imp fun _ _ => EntR.imp fun a b q => q.more
          · have hi2 : i = found.length := by
              have := (List.getElem?_eq_some_iff.mp hr).1
              simp at this
              omega
            subst hi2
            rw [List.getElem?_append_right (Nat.le_refl _), Nat.sub_self] at hr
            rw [hl, List.getElem?_append_left hlt, List.getElem?_eq_getElem hlt] at hi
            simp at hr hi
            subst hr hi
            exact e4
theorem least_spec (w : WF gd k t) (C : Cls t c rp) : ∃ O, OI t c rp O ∧ O[0]? = some 0 ∧ (least t c rp).length = O.length ∧ Dn t c rp O (least t c rp) :=
  lst_spec w C t.length 0 [0] [] (by omega) (by simp) rfl ⟨by simp, fun x hx => by
    simp at hx
    subst hx
    exact ⟨w.pos, 0, w.pos, C.z.symm⟩⟩ rfl fun i x r _ hr => by simp at hr
/-- T5 -/
theorem least_bis (w : WF gd k t) (C : Cls t c rp) : Bis t (least t c rp) 0 0 ∧ WF gd k (least t c rp) ∧ (least t c rp).length ≤ t.length := by
  obtain ⟨O, h, h0, hl, hd⟩ := least_spec w C
  have hrow : ∀ i x, O[i]? = some x → F2 (EntR (Lk c rp O)) (row t x) (row (least t c rp) i) := fun i x hi => by
    have hlt : i < (least t c rp).length := by
      rw [hl]
      exact (List.getElem?_eq_some_iff.mp hi).1
    unfold row
    rw [List.getD_eq_getElem?_getD (l := least t c rp), List.getElem?_eq_getElem hlt]
    exact hd i x _ hi (List.getElem?_eq_getElem hlt)
  have lk : ∀ g m, g < t.length → Lk c rp O g m → m < O.length ∧ ∃ y, O[m]? = some y ∧ Bis t t g y := fun g m hg q => by
    unfold Lk at q
    rw [List.getElem?_map] at q
    cases hy : O[m]? with
    | none => rw [hy] at q; simp at q
    | some y =>
      rw [hy] at q
      simp at q
      refine ⟨(List.getElem?_eq_some_iff.mp hy).1, y, rfl, ?_⟩
      obtain ⟨_, g0, hg0, rfl⟩ := h.img y (List.mem_of_getElem? hy)
      exact (((C.eq g0 g hg0 hg).mp q).symm).trans (C.bd g0 hg0).2
  refine ⟨⟨fun s i => s < t.length ∧ ∃ x, O[i]? = some x ∧ Bis t t s x, ?_, w.pos, 0, h0, Bis.refl w w.pos⟩, ⟨?_, ?_, ?_, ?_⟩, by rw [hl]; exact h.len⟩
  · rintro s i ⟨hs, x, hi, b⟩
    obtain ⟨_, b2, b3⟩ := b.step
    have hlt : i < (least t c rp).length := by
      rw [hl]
      exact (List.getElem?_eq_some_iff.mp hi).1
    refine ⟨hs, hlt, ?_⟩
    have r1 := F2.with w hs b2 b3
    refine F2.trans ?_ r1 (hrow i x hi)
    rintro ⟨l, o⟩ ⟨l', o'⟩ ⟨l'', o''⟩ q q'
    refine ⟨q.1.trans q'.1, ?_⟩
    have h1 := q.2
    have h2 := q'.2
    cases o <;> cases o' <;> cases o'' <;> first | trivial | exact h1.elim | exact h2.elim | skip
    obtain ⟨b, l1, l2⟩ := h1
    obtain ⟨_, y, hy, by_⟩ := lk _ _ l2 h2
    exact ⟨l1, y, hy, b.trans by_⟩
  · rw [hl]
    exact (List.getElem?_eq_some_iff.mp h0).1
  all_goals
    intro r hr
    obtain ⟨i, hi, rfl⟩ := List.mem_iff_getElem.mp hr
    have hi' : i < O.length := by rw [← hl]; exact hi
    have hx := List.getElem?_eq_getElem hi'
    have hF := hd i _ _ hx (List.getElem?_eq_getElem hi)
    have hxl := (h.img _ (List.getElem_mem hi')).1
  · rw [← hF.len, w.len _ (row_mem hxl)]
  · intro e he g hg
    obtain ⟨j, hj, ej⟩ := List.mem_iff_getElem.mp he
    have hj' : j < (row t O[i]).length := by rw [hF.len]; exact hj
    have q := hF.get (List.getElem?_eq_getElem hj') (List.getElem?_eq_getElem hj)
    have q2 := q.2
    rw [ej, hg] at q2
    cases ho : ((row t O[i])[j]).2 with
    | none => rw [ho] at q2; exact q2.elim
    | some g' =>
      rw [ho] at q2
      rw [hl]
      exact (lk g' g (w.nx _ (row_mem hxl) _ (List.getElem_mem hj') _ ho) q2).1
  · intro e he
    obtain ⟨j, hj, ej⟩ := List.mem_iff_getElem.mp he
    have hj' : j < (row t O[i]).length := by rw [hF.len]; exact hj
    have q := hF.get (List.getElem?_eq_getElem hj') (List.getElem?_eq_getElem hj)
    have g0 := w.gd _ (row_mem hxl) _ (List.getElem_mem hj')
    rw [ej] at q
    rw [← q.1, ← g0]
    have q2 := q.2
    cases ho : ((row t O[i])[j]).2 <;> cases he2 : e.2 <;> rw [ho, he2] at q2 <;> first | rfl | exact q2.elim

/-! ### two runs beside each other -/
/-- a pair of representatives -/
def Bo (t u : Tb α) (rp rp' : Nat → Nat) (a b : Nat) : Prop := ∃ g h, g < t.length ∧ h < u.length ∧ a = rp g ∧ b = rp' h ∧ Bis t u g h
theorem Bo.cls (C : Cls t c rp) (C' : Cls u c' rp') {a b x y : Nat} (p : Bo t u rp rp' a b) (q : Bo t u rp rp' x y) : c a = c x ↔ c' b = c' y := by
  obtain ⟨g, h, hg, hh, rfl, rfl, b1⟩ := p
  obtain ⟨g2, h2, hg2, hh2, rfl, rfl, b2⟩ := q
  rw [C.eq g g2 hg hg2, C'.eq h h2 hh hh2]
  exact ⟨fun z => (b1.symm.trans z).trans b2, fun z => (b1.trans z).trans b2.symm⟩
theorem ix_lock (C : Cls t c rp) (C' : Cls u c' rp') {a b : Nat} (p : Bo t u rp rp' a b) : ∀ {o o' : List Nat}, F2 (Bo t u rp rp') o o' → ixOf (c a) (o.map c) = ixOf (c' b) (o'.map c')
  | _, _, .nil => rfl
  | _, _, .cons (a := x) (b := y) (as := xs) (bs := ys) r q => by
    have ih := ix_lock C C' p q
    rw [List.map_cons, List.map_cons]
    unfold ixOf
    by_cases e : c x = c a
    · rw [if_pos e, if_pos ((Bo.cls C C' r p).mp e)]
    · rw [if_neg e, if_neg fun z => e ((Bo.cls C C' r p).mpr z), ih]
theorem F2.snoc {β γ : Type} {R : β → γ → Prop} {a : β} {b : γ} (r : R a b) : ∀ {as bs}, F2 R as bs → F2 R (as ++ [a]) (bs ++ [b])
  | _, _, .nil => .cons r .nil
  | _, _, .cons q t => .cons q (F2.snoc r t)
theorem sc_lock (C : Cls t c rp) (C' : Cls u c' rp') : ∀ {es fs : List (Ent α)}, F2 (EntR fun g h => Bis t u g h ∧ g < t.length ∧ h < u.length) es fs → ∀ {o o' : List Nat} (l : List (Ent α)), F2 (Bo t u rp rp') o o' →
    (sc c rp es o l).2 = (sc c' rp' fs o' l).2 ∧ F2 (Bo t u rp rp') (sc c rp es o l).1 (sc c' rp' fs o' l).1
  | _, _, .nil, o, o', l, h => ⟨rfl, h⟩
  | _, _, .cons (a := e) (b := f) (as := es) (bs := fs) r q, o, o', l, h => by
    obtain ⟨a, x⟩ := e
    obtain ⟨a', x'⟩ := f
    obtain ⟨r1, r2⟩ := r
    have r1 : a = a' := r1
    subst r1
    cases x with
    | none =>
      cases x' with
      | none => exact sc_lock C C' q _ h
      | some _ => exact r2.elim
    | some g =>
      cases x' with
      | none => exact r2.elim
      | some g' =>
        obtain ⟨b, hg, hg'⟩ := (show Bis t u g g' ∧ g < t.length ∧ g' < u.length from r2)
        have p : Bo t u rp rp' (rp g) (rp' g') := ⟨g, g', hg, hg', rfl, rfl, b⟩
        have i1 := ix_lock C C' p h
        have h2 := F2.snoc p h
        have i2 := ix_lock C C' p h2
        have hm : c (rp g) ∈ o.map c ↔ c' (rp' g') ∈ o'.map c' := by
          have e1 := ixOf_none (s := c (rp g)) (l := o.map c)
          have e2 := ixOf_none (s := c' (rp' g')) (l := o'.map c')
          rw [i1] at e1
          exact ⟨fun z => Classical.byContradiction fun z2 => e1.mp (e2.mpr z2) z, fun z => Classical.byContradiction fun z2 => e2.mp (e1.mpr z2) z⟩
        show ((if c (rp g) ∈ o.map c then _ else _) : List Nat × List (Ent α)).2 = ((if c' (rp' g') ∈ o'.map c' then _ else _) : List Nat × List (Ent α)).2 ∧ F2 _ ((if c (rp g) ∈ o.map c then _ else _) : List Nat × List (Ent α)).1 ((if c' (rp' g') ∈ o'.map c' then _ else _) : List Nat × List (Ent α)).1
        by_cases hz : c (rp g) ∈ o.map c
        · rw [if_pos hz, if_pos (hm.mp hz), i1]
          exact sc_lock C C' q _ h
        · rw [if_neg hz, if_neg fun z => hz (hm.mpr z), i2]
          exact sc_lock C C' q _ h2
theorem lst_lock {gd' : α → Bool} {k' : Nat} (w : WF gd k t) (w' : WF gd' k' u) (C : Cls t c rp) (C' : Cls u c' rp') : ∀ (f f' n : Nat) (o o' : List Nat) (found : Tb α), n + f = t.length → n + f' = u.length → n ≤ o.length → OI t c rp o → OI u c' rp' o' → F2 (Bo t u rp rp') o o' →
    lst t c rp f n o found = lst u c' rp' f' n o' found
  | f, f', n, o, o', found, hf, hf', hn, h, h', hF => by
    have hl := hF.len
    have l1 := h.len
    have l2 := h'.len
    by_cases e : n = o.length
    · have a1 : lst t c rp f n o found = found := by
        cases f with
        | zero => rfl
        | succ f => unfold lst; rw [if_pos e]
      have a2 : lst u c' rp' f' n o' found = found := by
        cases f' with
        | zero => rfl
        | succ f => unfold lst; rw [if_pos (by omega)]
      rw [a1, a2]
    · obtain ⟨f, rfl⟩ : ∃ g, f = g + 1 := ⟨f - 1, by omega⟩
      obtain ⟨f', rfl⟩ : ∃ g, f' = g + 1 := ⟨f' - 1, by omega⟩
      unfold lst
      rw [if_neg e, if_neg (by omega)]
      have hlt : n < o.length := by omega
      have hlt' : n < o'.length := by omega
      have g1 : o.getD n 0 = o[n] := by rw [List.getD_eq_getElem?_getD, List.getElem?_eq_getElem hlt]; rfl
      have g2 : o'.getD n 0 = o'[n] := by rw [List.getD_eq_getElem?_getD, List.getElem?_eq_getElem hlt']; rfl
      rw [g1, g2]
      have hx := (h.img o[n] (List.getElem_mem hlt)).1
      have hx' := (h'.img o'[n] (List.getElem_mem hlt')).1
      have p := hF.get (List.getElem?_eq_getElem hlt) (List.getElem?_eq_getElem hlt')
      have bb : Bis t u o[n] o'[n] := by
        obtain ⟨g, hh, q1, q2, e1, e2, b⟩ := p
        rw [e1, e2]
        exact ((C.bd g q1).2.symm.trans b).trans (C'.bd hh q2).2
      obtain ⟨_, _, b3⟩ := bb.step
      have b4 : F2 (EntR fun g h => Bis t u g h ∧ g < t.length ∧ h < u.length) (row t o[n]) (row u o'[n]) := b3.imp fun _ _ => EntR.imp fun a b r => ⟨r, r.step.1, r.step.2.1⟩
      obtain ⟨q1, q2⟩ := sc_lock C C' b4 [] hF
      obtain ⟨m1, n1, s1, s2, s3, _⟩ := sc_spec C (row t o[n]) o [] (fun e he g => w.nx _ (row_mem hx) e he g) h
      obtain ⟨m2, n2, z1, z2, z3, _⟩ := sc_spec C' (row u o'[n]) o' [] (fun e he g => w'.nx _ (row_mem hx') e he g) h'
      rw [q1]
      refine lst_lock w w' C C' f f' (n + 1) _ _ _ (by omega) (by omega) (by rw [s1, List.length_append]; omega) (by rw [s1]; exact s3) (by rw [z1]; exact z3) q2
/-- T4 -/
theorem least_lock {gd' : α → Bool} {k' : Nat} (w : WF gd k t) (w' : WF gd' k' u) (C : Cls t c rp) (C' : Cls u c' rp') (b : Bis t u 0 0) : least t c rp = least u c' rp' := by
  unfold least
  refine lst_lock w w' C C' _ _ 0 [0] [0] [] (by omega) (by omega) (by simp) ⟨by simp, fun x hx => ?_⟩ ⟨by simp, fun x hx => ?_⟩ (.cons ⟨0, 0, w.pos, w'.pos, C.z.symm, C'.z.symm, b⟩ .nil)
  · simp at hx; subst hx; exact ⟨w.pos, 0, w.pos, C.z.symm⟩
  · simp at hx; subst hx; exact ⟨w'.pos, 0, w'.pos, C'.z.symm⟩
end Mt
set_option Elab.async false
set_option linter.all false
/-! A4: what the law asks. -/
namespace Mt
variable {α : Type} [DecidableEq α] {gd : α → Bool} {k : Nat} {t u : Tb α}
def gi (t : Tb α) (x : Nat) : Nat := (groups t).getD x 0
def lt (t : Tb α) : Tb α := least t (gi t) id
def fsts (t : Tb α) (i : Nat) : List Nat := (List.range (i + 1)).filter fun j => decide (parting t t i j = none)
def fst (t : Tb α) (i : Nat) : Nat := (fsts t i).headD 0
theorem cls_gi (w : WF gd k t) : Cls t (gi t) id := ⟨fun g h => ⟨h, Bis.refl w h⟩, fun g h hg hh => groups_eq w hg hh, rfl⟩
theorem fst_spec (w : WF gd k t) {i : Nat} (h : i < t.length) : fst t i ≤ i ∧ Bis t t i (fst t i) ∧ (∀ j, j < fst t i → ¬ Bis t t i j) ∧ (fsts t i).head? = some (fst t i) := by
  have hm : ∀ j, j ∈ fsts t i ↔ j ≤ i ∧ Bis t t i j := fun j => by
    unfold fsts
    rw [List.mem_filter, List.mem_range, decide_eq_true_eq]
    constructor
    · rintro ⟨h1, h2⟩
      exact ⟨by omega, (parting_none w w h (by omega)).mp h2⟩
    · rintro ⟨h1, h2⟩
      exact ⟨by omega, (parting_none w w h (by omega)).mpr h2⟩
  have hs : (fsts t i).Pairwise (· < ·) := by
    unfold fsts
    exact List.Pairwise.filter _ List.pairwise_lt_range
  unfold fst
  cases q : fsts t i with
  | nil =>
    have := (hm i).mpr ⟨Nat.le_refl _, Bis.refl w h⟩
    rw [q] at this
    cases this
  | cons x xs =>
    rw [q] at hm hs
    have h1 := (hm x).mp List.mem_cons_self
    refine ⟨h1.1, h1.2, fun j hj b => ?_, rfl⟩
    have hj : j < x := hj
    have := (hm j).mpr ⟨by omega, b⟩
    rcases List.mem_cons.mp this with e | e
    · omega
    · have := (List.pairwise_cons.mp hs).1 j e
      omega
theorem cls_fst (w : WF gd k t) : Cls t id (fst t) := by
  refine ⟨fun g h => ?_, fun g h hg hh => ?_, ?_⟩
  · obtain ⟨h1, h2, _⟩ := fst_spec w h
    exact ⟨by omega, h2⟩
  · obtain ⟨a1, a2, a3, _⟩ := fst_spec w hg
    obtain ⟨b1, b2, b3, _⟩ := fst_spec w hh
    constructor
    · intro e
      have e : fst t g = fst t h := e
      rw [e] at a2
      exact a2.trans b2.symm
    · intro b
      show fst t g = fst t h
      apply Nat.le_antisymm
      · exact Nat.le_of_not_lt fun z => a3 _ z (b.trans b2)
      · exact Nat.le_of_not_lt fun z => b3 _ z (b.symm.trans a2)
  · have := (fst_spec w w.pos).1
    omega
theorem lt_wf (w : WF gd k t) : WF gd k (lt t) := (least_bis w (cls_gi w)).2.1
theorem lt_len (w : WF gd k t) : (lt t).length ≤ t.length := (least_bis w (cls_gi w)).2.2
theorem law1 (w : WF gd k t) : least t id (fst t) = lt t := least_lock w w (cls_fst w) (cls_gi w) (Bis.refl w w.pos)
theorem law2 (w : WF gd k t) : lt (lt t) = lt t := least_lock (lt_wf w) w (cls_gi (lt_wf w)) (cls_gi w) (least_bis w (cls_gi w)).1.symm
theorem law3 (w : WF gd k t) : parting t (lt t) 0 0 = none := (parting_none w (lt_wf w) w.pos (lt_wf w).pos).mpr (least_bis w (cls_gi w)).1
theorem law4 (w : WF gd k t) (w' : WF gd k u) : parting t u 0 0 = none ↔ lt t = lt u := by
  rw [parting_none w w' w.pos w'.pos]
  constructor
  · exact least_lock w w' (cls_gi w) (cls_gi w')
  · intro e
    have b1 := (least_bis w (cls_gi w)).1
    have b2 := (least_bis w' (cls_gi w')).1
    have e : least t (gi t) id = least u (gi u) id := e
    rw [e] at b1
    exact b1.trans b2.symm
theorem law5 : parting u t 0 0 = parting t u 0 0 := parting_swp t u 0 0
end Mt
set_option Elab.async false
set_option linter.all false
set_option maxRecDepth 100000
set_option maxHeartbeats 1000000
/-! B1: plain values: how they compare, what repr shows. -/
namespace Fl
open PySem PySem.Spec PyProof.Rows L2

instance : DecidableEq T := fun a b => decidable_of_iff (T.beq a b = true) ⟨T.beq_eq a b, fun h => h ▸ T.beq_self a⟩
mutual
/-- numbers, texts, None, and tuples and lists of such, of at most this depth -/
def T.pl : Nat → T → Bool
  | _, .non => true
  | _, .int i => true
  | _, .str x => PyData.strOk x
  | d, .tup ts => decide (0 < d) && T.pls (d - 1) ts
  | d, .lst ts => decide (0 < d) && T.pls (d - 1) ts
  | _, .bl _ => false
  | _, .scr _ => false
  | _, .iset _ => false
  | _, .rng _ _ => false
  | _, .ref _ => false
  | _, .adr _ => false
  | _, .ty _ => false
def T.pls : Nat → List T → Bool
  | _, [] => true
  | d, t :: ts => T.pl d t && T.pls d ts
end
theorem pls_iff (d : Nat) : ∀ ts : List T, T.pls d ts = true ↔ ∀ t ∈ ts, T.pl d t = true
  | [] => by simp [T.pls]
  | t :: ts => by simp [T.pls, pls_iff d ts]
mutual
theorem pl_mono : ∀ (t : T) (d e : Nat), d ≤ e → T.pl d t = true → T.pl e t = true
  | .non, _, _, _, _ => rfl
  | .int _, _, _, _, _ => rfl
  | .str x, _, _, _, h => h
  | .tup ts, d, e, l, h => by
    simp only [T.pl, Bool.and_eq_true, decide_eq_true_eq] at h ⊢
    exact ⟨by omega, pls_mono ts _ _ (by omega) h.2⟩
  | .lst ts, d, e, l, h => by
    simp only [T.pl, Bool.and_eq_true, decide_eq_true_eq] at h ⊢
    exact ⟨by omega, pls_mono ts _ _ (by omega) h.2⟩
  | .bl _, _, _, _, h => by simp [T.pl] at h
  | .scr _, _, _, _, h => by simp [T.pl] at h
  | .iset _, _, _, _, h => by simp [T.pl] at h
  | .rng _ _, _, _, _, h => by simp [T.pl] at h
  | .ref _, _, _, _, h => by simp [T.pl] at h
  | .adr _, _, _, _, h => by simp [T.pl] at h
  | .ty _, _, _, _, h => by simp [T.pl] at h
theorem pls_mono : ∀ (ts : List T) (d e : Nat), d ≤ e → T.pls d ts = true → T.pls e ts = true
  | [], _, _, _, _ => rfl
  | t :: ts, d, e, l, h => by
    simp only [T.pls, Bool.and_eq_true] at h ⊢
    exact ⟨pl_mono t d e l h.1, pls_mono ts d e l h.2⟩
end
mutual
theorem pl_lay : ∀ (t : T) (d : Nat), T.pl d t = true → t.data.canLay0 = true ∧ t.data.depth ≤ d
  | .non, _, _ => ⟨rfl, Nat.zero_le _⟩
  | .int _, _, _ => ⟨rfl, Nat.zero_le _⟩
  | .str x, _, h => ⟨by simpa [T.data, PyData.canLay0, T.pl] using h, Nat.zero_le _⟩
  | .tup ts, d, h => by
    simp only [T.pl, Bool.and_eq_true, decide_eq_true_eq] at h
    have := pls_lay ts (d - 1) h.2
    simp only [T.data, PyData.canLay0, PyData.depth]
    exact ⟨this.1, by omega⟩
  | .lst ts, d, h => by
    simp only [T.pl, Bool.and_eq_true, decide_eq_true_eq] at h
    have := pls_lay ts (d - 1) h.2
    simp only [T.data, PyData.canLay0, PyData.depth]
    exact ⟨this.1, by omega⟩
  | .bl _, _, h => by simp [T.pl] at h
  | .scr _, _, h => by simp [T.pl] at h
  | .iset _, _, h => by simp [T.pl] at h
  | .rng _ _, _, h => by simp [T.pl] at h
  | .ref _, _, h => by simp [T.pl] at h
  | .adr _, _, h => by simp [T.pl] at h
  | .ty _, _, h => by simp [T.pl] at h
theorem pls_lay : ∀ (ts : List T) (d : Nat), T.pls d ts = true → PyData.canLayAll0 (T.datas ts) = true ∧ PyData.depthAll (T.datas ts) ≤ d
  | [], _, _ => ⟨by simp [T.datas, PyData.canLayAll0], by simp [T.datas, PyData.depthAll]⟩
  | t :: ts, d, h => by
    simp only [T.pls, Bool.and_eq_true] at h
    have h1 := pl_lay t d h.1
    have h2 := pls_lay ts d h.2
    simp only [T.datas, PyData.canLayAll0, PyData.depthAll, Bool.and_eq_true]
    exact ⟨⟨h1.1, h2.1⟩, by omega⟩
end
theorem pl_shaped {t : T} {d : Nat} (h : T.pl d t = true) (hd : d ≤ 64) : SeqAt.shaped t.data = true := by
  obtain ⟨h1, h2⟩ := pl_lay t d h
  unfold SeqAt.shaped
  rw [h1, decide_eq_true (by omega)]
  rfl
theorem pls_shaped {ts : List T} {d : Nat} (h : T.pls d ts = true) (hd : d ≤ 63) : SeqAt.shaped (.list (T.datas ts)) = true :=
  pl_shaped (t := .lst ts) (d := d + 1) (by simp only [T.pl, Nat.add_sub_cancel, h, decide_eq_true (Nat.succ_pos d), Bool.and_self]) (by omega)
mutual
theorem pl_eqv : ∀ (a b : T) (d e : Nat), T.pl d a = true → T.pl e b = true → (PyData.eqv a.data b.data = true ↔ a = b)
  | .non, b, d, e, _, hb => by cases b <;> simp_all [T.pl, T.data, PyData.eqv]
  | .int i, b, d, e, _, hb => by cases b <;> simp_all [T.pl, T.data, PyData.eqv]
  | .str x, b, d, e, _, hb => by cases b <;> simp_all [T.pl, T.data, PyData.eqv]
  | .tup ts, b, d, e, ha, hb => by
    cases b with
    | tup us =>
      simp only [T.pl, Bool.and_eq_true, decide_eq_true_eq] at ha hb
      simp only [T.data, PyData.eqv, T.tup.injEq]
      exact pls_eqv ts us _ _ ha.2 hb.2
    | _ => simp_all [T.pl, T.data, PyData.eqv]
  | .lst ts, b, d, e, ha, hb => by
    cases b with
    | lst us =>
      simp only [T.pl, Bool.and_eq_true, decide_eq_true_eq] at ha hb
      simp only [T.data, PyData.eqv, T.lst.injEq]
      exact pls_eqv ts us _ _ ha.2 hb.2
    | _ => simp_all [T.pl, T.data, PyData.eqv]
  | .bl _, _, _, _, h, _ => by simp [T.pl] at h
  | .scr _, _, _, _, h, _ => by simp [T.pl] at h
  | .iset _, _, _, _, h, _ => by simp [T.pl] at h
  | .rng _ _, _, _, _, h, _ => by simp [T.pl] at h
  | .ref _, _, _, _, h, _ => by simp [T.pl] at h
  | .adr _, _, _, _, h, _ => by simp [T.pl] at h
  | .ty _, _, _, _, h, _ => by simp [T.pl] at h
theorem pls_eqv : ∀ (as bs : List T) (d e : Nat), T.pls d as = true → T.pls e bs = true → (PyData.eqvAll (T.datas as) (T.datas bs) = true ↔ as = bs)
  | [], [], _, _, _, _ => by simp [T.datas, PyData.eqvAll]
  | [], _ :: _, _, _, _, _ => by simp [T.datas, PyData.eqvAll]
  | _ :: _, [], _, _, _, _ => by simp [T.datas, PyData.eqvAll]
  | a :: as, b :: bs, d, e, ha, hb => by
    simp only [T.pls, Bool.and_eq_true] at ha hb
    simp only [T.datas, PyData.eqvAll, Bool.and_eq_true, List.cons.injEq]
    rw [pl_eqv a b d e ha.1 hb.1, pls_eqv as bs d e ha.2 hb.2]
end
theorem pl_eqvb {a b : T} {d e : Nat} (ha : T.pl d a = true) (hb : T.pl e b = true) : PyData.eqv a.data b.data = decide (a = b) := by
  rw [Bool.eq_iff_iff, pl_eqv a b d e ha hb, decide_eq_true_eq]
theorem eq_pl {a b : T} {M : Mem} (ha : T.pl 64 a = true) (hb : T.pl 64 b = true) : oEq a b M = .ok (.bl (decide (a = b))) M := by
  unfold oEq
  rw [pl_shaped ha (Nat.le_refl _), pl_shaped hb (Nat.le_refl _), pl_eqvb ha hb]
  rfl
theorem ne_pl {a b : T} {M : Mem} (ha : T.pl 64 a = true) (hb : T.pl 64 b = true) : oNe a b M = .ok (.bl (!decide (a = b))) M := by
  unfold oNe
  rw [pl_shaped ha (Nat.le_refl _), pl_shaped hb (Nat.le_refl _), pl_eqvb ha hb]
  rfl
theorem inB_pl {a : T} {ts : List T} (ha : T.pl 64 a = true) (hb : T.pls 63 ts = true) : inB a.data ts = decide (a ∈ ts) := by
  rw [Bool.eq_iff_iff]
  unfold inB
  rw [List.any_eq_true, decide_eq_true_eq]
  constructor
  · rintro ⟨z, hz, e⟩
    rw [pl_eqv z a _ _ ((pls_iff 63 ts).mp hb z hz) ha] at e
    exact e ▸ hz
  · intro h
    exact ⟨a, h, (pl_eqv a a _ _ ha ha).mpr rfl⟩
def T.isStr : T → Bool
  | .str _ => true
  | _ => false
theorem notin_pl {a b : T} {M : Mem} {q : Bool} {ts : List T} (hq : seqOf M b = some (q, ts)) (ha : T.pl 64 a = true) (hb : T.pls 63 ts = true) : oNotIn a b M = .ok (.bl (!decide (a ∈ ts))) M := by
  have hn : ∀ y, b ≠ .str y := fun y e => by subst e; simp [seqOf] at hq
  unfold oNotIn
  split
  · exact absurd rfl (hn _)
  · rw [hq]
    simp only
    rw [pl_shaped ha (Nat.le_refl _), pls_shaped hb (Nat.le_refl _), inB_pl ha hb]
    rfl
theorem in_pl {a b : T} {M : Mem} {q : Bool} {ts : List T} (hq : seqOf M b = some (q, ts)) (ha : T.pl 64 a = true) (hb : T.pls 63 ts = true) : oIn a b M = .ok (.bl (decide (a ∈ ts))) M := by
  have hn : ∀ y, b ≠ .str y := fun y e => by subst e; simp [seqOf] at hq
  unfold oIn
  split
  · exact absurd rfl (hn _)
  · rw [hq]
    simp only
    rw [pl_shaped ha (Nat.le_refl _), pls_shaped hb (Nat.le_refl _), inB_pl ha hb]
    rfl
/-! ### repr -/
mutual
/-- small numbers, short texts, None, and tuples of such: a bound of what repr shows -/
def T.sz : T → Option Nat
  | .non => some 4
  | .int i => if 0 ≤ i ∧ i < 16 then some 2 else none
  | .str x => if (x = ("good" : Str) ∨ x = ("clash" : Str) ∨ x = ("stuck" : Str) ∨ x = ("yes" : Str) ∨ x = ("no" : Str)) then some 7 else none
  | .tup ts => (T.szs ts).map (· + 3)
  | _ => none
def T.szs : List T → Option Nat
  | [] => some 0
  | t :: ts => match T.sz t, T.szs ts with
    | some a, some b => some (a + 2 + b)
    | _, _ => none
end
theorem shown_int : ∀ n : Fin 16, ((toString ((n.val : Nat) : Int) : String) : Str).length ≤ 2 ∧ (((n.val : Nat) : Int).natAbs.log2 < 1920) := by decide +kernel
theorem join_le (ts : List Str) : (Str.join ", " ts).length ≤ piled ts := by
  cases ts with
  | nil => exact Nat.le_refl _
  | cons x r =>
    have := join_length_add (x :: r) (by simp)
    omega
theorem tupleText_le (ts : List Str) : (tupleText ts).length ≤ piled ts + 3 := by
  unfold tupleText
  rw [strLen_append, strLen_append]
  have e1 : ((("(" : String) : Str)).length = 1 := rfl
  have e3 : (((if ts.length == 1 then ",)" else ")" : String) : Str)).length ≤ 2 := by split <;> decide
  have := join_le ts
  rw [e1]
  omega
mutual
theorem sz_shown : ∀ (t : T) (n : Nat), T.sz t = some n → t.data.shown.length ≤ n ∧ t.data.showable = true ∧ t.data.canLay0 = true
  | .non, n, h => by
    simp only [T.sz, Option.some.injEq] at h
    subst h
    exact ⟨by decide +kernel, rfl, rfl⟩
  | .int i, n, h => by
    simp only [T.sz] at h
    split at h
    · rename_i hi
      cases h
      obtain ⟨k, rfl⟩ := Int.eq_ofNat_of_zero_le hi.1
      have hk : k < 16 := by omega
      have := shown_int ⟨k, hk⟩
      refine ⟨?_, ?_, rfl⟩
      · simp only [T.data, PyData.shown]
        exact this.1
      · simp only [T.data, PyData.showable]
        exact decide_eq_true this.2
    · cases h
  | .str x, n, h => by
    simp only [T.sz] at h
    split at h
    · rename_i hx
      cases h
      rcases hx with rfl | rfl | rfl | rfl | rfl <;> exact ⟨by decide +kernel, rfl, by decide +kernel⟩
    · cases h
  | .tup ts, n, h => by
    simp only [T.sz, Option.map_eq_some_iff] at h
    obtain ⟨m, h1, rfl⟩ := h
    obtain ⟨a1, a2, a3⟩ := szs_shown ts m h1
    refine ⟨?_, by simpa [T.data, PyData.showable] using a2, by simpa [T.data, PyData.canLay0] using a3⟩
    simp only [T.data, PyData.shown]
    have := tupleText_le (PyData.shownAll (T.datas ts))
    omega
  | .bl _, _, h => by simp [T.sz] at h
  | .lst _, _, h => by simp [T.sz] at h
  | .scr _, _, h => by simp [T.sz] at h
  | .iset _, _, h => by simp [T.sz] at h
  | .rng _ _, _, h => by simp [T.sz] at h
  | .ref _, _, h => by simp [T.sz] at h
  | .adr _, _, h => by simp [T.sz] at h
  | .ty _, _, h => by simp [T.sz] at h
theorem szs_shown : ∀ (ts : List T) (n : Nat), T.szs ts = some n → piled (PyData.shownAll (T.datas ts)) ≤ n ∧ PyData.showableAll (T.datas ts) = true ∧ PyData.canLayAll0 (T.datas ts) = true
  | [], n, h => by
    simp only [T.szs, Option.some.injEq] at h
    subst h
    exact ⟨Nat.le_refl _, rfl, rfl⟩
  | t :: ts, n, h => by
    simp only [T.szs] at h
    split at h
    · rename_i a b h1 h2
      cases h
      obtain ⟨a1, a2, a3⟩ := sz_shown t a h1
      obtain ⟨b1, b2, b3⟩ := szs_shown ts b h2
      refine ⟨?_, ?_, ?_⟩
      · simp only [T.datas, PyData.shownAll, piled_cons]
        omega
      · simp only [T.datas, PyData.showableAll, a2, b2, Bool.and_self]
      · simp only [T.datas, PyData.canLayAll0, a3, b3, Bool.and_self]
    · cases h
end
theorem repr_ok {t : T} {n d : Nat} {M : Mem} (h : T.sz t = some n) (hn : n ≤ lim) (hp : T.pl d t = true) (hd : d ≤ 64) : oRepr [t] M = .ok (.str t.data.shown) M := by
  obtain ⟨h1, h2, h3⟩ := sz_shown t n h
  have h4 := (pl_lay t d hp).2
  show (if t.data.canLay0 = true ∧ t.data.showable = true ∧ t.data.depth ≤ 64 ∧ t.data.shown.length ≤ lim then Res.ok (T.str t.data.shown) M else Res.stuck) = _
  rw [if_pos ⟨h3, h2, by omega, by omega⟩]
theorem szs_le {m : Nat} : ∀ (ts : List T), (∀ t ∈ ts, ∃ n, T.sz t = some n ∧ n ≤ m) → ∃ n, T.szs ts = some n ∧ n ≤ ts.length * (m + 2)
  | [], _ => ⟨0, rfl, by simp⟩
  | t :: ts, h => by
    obtain ⟨a, ha, la⟩ := h t List.mem_cons_self
    obtain ⟨b, hb, lb⟩ := szs_le ts fun u hu => h u (List.mem_cons_of_mem _ hu)
    refine ⟨a + 2 + b, by simp only [T.szs, ha, hb], ?_⟩
    rw [List.length_cons, Nat.add_mul, Nat.one_mul]
    omega
end Fl
set_option Elab.async false
set_option linter.all false
set_option maxRecDepth 100000
set_option maxHeartbeats 1000000
/-! B2: loops. -/
namespace Fl
open PySem PySem.Spec PyProof.Rows L2

theorem lc_pure {x : Src} {G : FG} {tt : FT} {te : FE} {s : Slots} {M : Mem} (f : T → T) (p : T → Bool) (hx : srcOk x M = true) : ∀ (ys acc : List T), (∀ y ∈ ys, ∃ s2, G y s = some s2 ∧ tt s2 M = .ok (p y) M ∧ (p y = true → te s2 M = .ok (f y) M)) → acc.length + ys.length < lim →
    lcLoop x G tt te s ys acc M = .ok (acc ++ (ys.filter p).map f) M
  | [], acc, _, _ => by
    unfold lcLoop
    rw [if_pos hx]
    simp
  | y :: ys, acc, h, hl => by
    obtain ⟨s2, e1, e2, e3⟩ := h y List.mem_cons_self
    have hl' : acc.length + ys.length + 1 < lim := by simpa [Nat.add_assoc] using hl
    unfold lcLoop
    rw [if_pos hx, e1]
    simp only
    rw [e2]
    simp only [Res.noex_ok, Res.bind_ok]
    cases hp : p y with
    | true =>
      rw [if_pos rfl, e3 hp]
      simp only [Res.noex_ok, Res.bind_ok]
      rw [if_pos (by omega), lc_pure f p hx ys (acc ++ [f y]) (fun z hz => h z (List.mem_cons_of_mem _ hz)) (by rw [List.length_append]; simp; omega)]
      simp [List.filter_cons, hp]
    | false =>
      rw [if_neg (by decide), lc_pure f p hx ys acc (fun z hz => h z (List.mem_cons_of_mem _ hz)) (by omega)]
      simp [List.filter_cons, hp]
theorem lc_map {x : Src} {G : FG} {te : FE} {s : Slots} {M : Mem} (f : T → T) (hx : srcOk x M = true) (ys : List T) (h : ∀ y ∈ ys, ∃ s2, G y s = some s2 ∧ te s2 M = .ok (f y) M) (hl : ys.length < lim) :
    lcLoop x G gYes te s ys [] M = .ok (ys.map f) M := by
  rw [lc_pure f (fun _ => true) hx ys [] (fun y hy => by
    obtain ⟨s2, e1, e2⟩ := h y hy
    exact ⟨s2, e1, rfl, fun _ => e2⟩) (by simpa using hl)]
  rw [List.filter_eq_self.mpr (fun _ _ => rfl), List.nil_append]
theorem lim_ge {n : Nat} (h : n < 1000000) : n < lim := h

theorem lim0 : (0 : Nat) ≤ lim := Nat.zero_le _
theorem lim1 : (1 : Nat) ≤ lim := by unfold lim; decide
theorem lim2 : (2 : Nat) ≤ lim := by unfold lim; decide
theorem lim3 : (3 : Nat) ≤ lim := by unfold lim; decide

/-! ### the source of what is drawn -/
structure Sr where
  cells : List Int
  left : Int
  mixed : Int
  turn : Int
def srcM (S : Sr) : Mem := [.dk [(.inr "cells", .ref 1), (.inr "left", .int S.left), (.inr "mixed", .int S.mixed), (.inr "turn", .int S.turn)], .lst (S.cells.map T.int)]
end Fl
set_option Elab.async false
set_option linter.all false
set_option maxRecDepth 100000
set_option maxHeartbeats 4000000
/-! P1: the draws. -/
namespace Fl
open PySem PySem.Spec PyProof.Rows L2

theorem look_cells (S : Sr) (R : Mem) (M : Mem) : oIx (.ref 0) (.str "cells") (srcM S ++ R) = .ok (.ref 1) (srcM S ++ R) := rfl
theorem look_left (S : Sr) (R : Mem) : oIx (.ref 0) (.str "left") (srcM S ++ R) = .ok (.int S.left) (srcM S ++ R) := rfl
theorem look_mixed (S : Sr) (R : Mem) : oIx (.ref 0) (.str "mixed") (srcM S ++ R) = .ok (.int S.mixed) (srcM S ++ R) := rfl
theorem look_turn (S : Sr) (R : Mem) : oIx (.ref 0) (.str "turn") (srcM S ++ R) = .ok (.int S.turn) (srcM S ++ R) := rfl
theorem put_left (S : Sr) (R : Mem) (v : Int) : oPut (.ref 0) (.str "left") (.int v) (srcM S ++ R) = .ok () (srcM { S with left := v } ++ R) := rfl
theorem put_turn (S : Sr) (R : Mem) (v : Int) : oPut (.ref 0) (.str "turn") (.int v) (srcM S ++ R) = .ok () (srcM { S with turn := v } ++ R) := rfl
theorem len_cells (S : Sr) (R : Mem) : oLen [.ref 1] (srcM S ++ R) = .ok (.int S.cells.length) (srcM S ++ R) := by
  show Res.ok (T.int ((S.cells.map T.int).length : Nat)) _ = _
  rw [List.length_map]
theorem pop_cells (S : Sr) (R : Mem) (c : Int) (h : S.cells.getLast? = some c) : oPop (.ref 1) [] (srcM S ++ R) = .ok (.int c) (srcM { S with cells := S.cells.dropLast } ++ R) := by
  show (match (S.cells.map T.int).getLast? with
    | some y => Res.ok y _
    | none => .stuck) = _
  rw [List.getLast?_map, h]
  show Res.ok (T.int c) ((srcM S ++ R).set 1 (.lst ((S.cells.map T.int).dropLast))) = _
  rw [← List.map_dropLast]
  rfl
theorem i_lt (i j : Int) (M : Mem) : oLt (.int i) (.int j) M = .ok (.bl (decide (i < j))) M := rfl
theorem i_le (i j : Int) (M : Mem) : oLe (.int i) (.int j) M = .ok (.bl (decide (i ≤ j))) M := rfl
theorem i_gt (i j : Int) (M : Mem) : oGt (.int i) (.int j) M = .ok (.bl (decide (j < i))) M := rfl
theorem i_ge (i j : Int) (M : Mem) : oGe (.int i) (.int j) M = .ok (.bl (decide (j ≤ i))) M := rfl
theorem i_add (i j : Int) (M : Mem) : oAdd (.int i) (.int j) M = .ok (.int (i + j)) M := rfl
theorem i_sub (i j : Int) (M : Mem) : oSub (.int i) (.int j) M = .ok (.int (i - j)) M := rfl
theorem i_int (i : Int) (M : Mem) : oInt [.int i] M = .ok (.int i) M := rfl
theorem i_mod (i j : Int) (M : Mem) (h : 0 < j) : oMod (.int i) (.int j) M = .ok (.int (i % j)) M := by
  show (if 0 < j then _ else _) = _
  rw [if_pos h]
theorem i_fdiv (i j : Int) (M : Mem) (h : 0 < j) (h2 : j < 1073741824) : oFdiv (.int i) (.int j) M = .ok (.int (i / j)) M := by
  show (if 0 < j ∧ j.toNat < 1073741824 then _ else _) = _
  rw [if_pos ⟨h, by omega⟩]
theorem i_mul (i j : Int) (M : Mem) (h : mulOk i j = true) : oMul (.int i) (.int j) M = .ok (.int (i * j)) M := by
  show (if mulOk i j = true then _ else _) = _
  rw [if_pos h]
theorem i_eq (i j : Int) (M : Mem) : oEq (.int i) (.int j) M = .ok (.bl (decide (i = j))) M := by
  rw [eq_pl rfl rfl]
  congr 2
  rw [Bool.eq_iff_iff, decide_eq_true_eq, decide_eq_true_eq, T.int.injEq]
theorem ty_list (S : Sr) (R : Mem) : tyOk "list" (srcM S ++ R) (.ref 1) = true := rfl
theorem pick_while (sl : List (Option T)) (R : Mem) (a b : Option T) : ∀ (f : Nat) (S : Sr), S.cells.length < f → ∃ S' : Sr,
    whileL c1__law_pick b1__law_pick f (some (.ref 0) :: a :: some (.ref 1) :: sl) (srcM S ++ R) = .nx (some (.ref 0) :: a :: some (.ref 1) :: sl) (srcM S' ++ R) ∧ S'.cells.length ≤ S.cells.length
  | 0, S, h => absurd h (Nat.not_lt_zero _)
  | f + 1, S, h => by
    unfold whileL
    simp only [fnRes, startS, fSeq, fNext, fIfS, fSet, fAsg, gNm, gNms, fPar, fPar3, fRet, fRetN, fDrop, fBreak, fFor, fWhile, fVar, fC, fB, fOp, fAnd, fOr, fNot, fAndV, fOrV, fNotV, fIf, fTup, fLst, fNew, aNil, aCons, aStar, fIx, fSl, oNone, oSome, fCB, fCall, fMt, fPut, fNeg, fChain, fLcG, fLc2G, fRevL, iSeq, iR1, iR2, iEnumF, o1, gYes, endL, Res.bind_ok, Res.st_ok, Res.noex_ok, SRes.seq_nx, SRes.seq_rt, SRes.seq_bk, SRes.turn_nx, SRes.turn_rt, SRes.turn_bk, SRes.res, List.map_cons, List.map_nil, List.length_cons, List.length_nil, List.cons_append, List.nil_append, List.append_nil, List.replicate, List.getElem?_cons_zero, List.getElem?_cons_succ, List.set_cons_zero, List.set_cons_succ, List.zip_cons_cons, List.foldl_cons, List.foldl_nil, List.zip_nil_left, Nat.reduceAdd, Nat.reduceSub, Nat.reduceMul, Nat.reduceLeDiff, Nat.reduceLT, Nat.reduceEqDiff, if_true, if_false, reduceIte, Bool.false_eq_true, wipeS, lim0, lim1, lim2, lim3, c1__law_pick, b1__law_pick, look_left, i_lt, len_cells, i_gt]
    by_cases h1 : S.left < 2
    · rw [decide_eq_true h1]
      simp only [fnRes, startS, fSeq, fNext, fIfS, fSet, fAsg, gNm, gNms, fPar, fPar3, fRet, fRetN, fDrop, fBreak, fFor, fWhile, fVar, fC, fB, fOp, fAnd, fOr, fNot, fAndV, fOrV, fNotV, fIf, fTup, fLst, fNew, aNil, aCons, aStar, fIx, fSl, oNone, oSome, fCB, fCall, fMt, fPut, fNeg, fChain, fLcG, fLc2G, fRevL, iSeq, iR1, iR2, iEnumF, o1, gYes, endL, Res.bind_ok, Res.st_ok, Res.noex_ok, SRes.seq_nx, SRes.seq_rt, SRes.seq_bk, SRes.turn_nx, SRes.turn_rt, SRes.turn_bk, SRes.res, List.map_cons, List.map_nil, List.length_cons, List.length_nil, List.cons_append, List.nil_append, List.append_nil, List.replicate, List.getElem?_cons_zero, List.getElem?_cons_succ, List.set_cons_zero, List.set_cons_succ, List.zip_cons_cons, List.foldl_cons, List.foldl_nil, List.zip_nil_left, Nat.reduceAdd, Nat.reduceSub, Nat.reduceMul, Nat.reduceLeDiff, Nat.reduceLT, Nat.reduceEqDiff, if_true, if_false, reduceIte, Bool.false_eq_true, wipeS, lim0, lim1, lim2, lim3, len_cells, i_gt]
      by_cases h2 : 0 < (S.cells.length : Int)
      · obtain ⟨c, hc⟩ : ∃ c, S.cells.getLast? = some c := by
          cases hq : S.cells.getLast? with
          | some c => exact ⟨c, rfl⟩
          | none =>
            rw [List.getLast?_eq_none_iff] at hq
            rw [hq] at h2
            simp at h2
        rw [decide_eq_true h2]
        simp only [fnRes, startS, fSeq, fNext, fIfS, fSet, fAsg, gNm, gNms, fPar, fPar3, fRet, fRetN, fDrop, fBreak, fFor, fWhile, fVar, fC, fB, fOp, fAnd, fOr, fNot, fAndV, fOrV, fNotV, fIf, fTup, fLst, fNew, aNil, aCons, aStar, fIx, fSl, oNone, oSome, fCB, fCall, fMt, fPut, fNeg, fChain, fLcG, fLc2G, fRevL, iSeq, iR1, iR2, iEnumF, o1, gYes, endL, Res.bind_ok, Res.st_ok, Res.noex_ok, SRes.seq_nx, SRes.seq_rt, SRes.seq_bk, SRes.turn_nx, SRes.turn_rt, SRes.turn_bk, SRes.res, List.map_cons, List.map_nil, List.length_cons, List.length_nil, List.cons_append, List.nil_append, List.append_nil, List.replicate, List.getElem?_cons_zero, List.getElem?_cons_succ, List.set_cons_zero, List.set_cons_succ, List.zip_cons_cons, List.foldl_cons, List.foldl_nil, List.zip_nil_left, Nat.reduceAdd, Nat.reduceSub, Nat.reduceMul, Nat.reduceLeDiff, Nat.reduceLT, Nat.reduceEqDiff, if_true, if_false, reduceIte, Bool.false_eq_true, wipeS, lim0, lim1, lim2, lim3, ty_list, pop_cells S R c hc, put_left]
        have hdl : S.cells.dropLast.length < f := by
          rw [List.length_dropLast]
          omega
        obtain ⟨S', e1, e2⟩ := pick_while sl R a b f { S with cells := S.cells.dropLast, left := c } hdl
        refine ⟨S', e1, Nat.le_trans e2 ?_⟩
        show S.cells.dropLast.length ≤ _
        rw [List.length_dropLast]
        omega
      · rw [decide_eq_false h2]
        simp only [fnRes, startS, fSeq, fNext, fIfS, fSet, fAsg, gNm, gNms, fPar, fPar3, fRet, fRetN, fDrop, fBreak, fFor, fWhile, fVar, fC, fB, fOp, fAnd, fOr, fNot, fAndV, fOrV, fNotV, fIf, fTup, fLst, fNew, aNil, aCons, aStar, fIx, fSl, oNone, oSome, fCB, fCall, fMt, fPut, fNeg, fChain, fLcG, fLc2G, fRevL, iSeq, iR1, iR2, iEnumF, o1, gYes, endL, Res.bind_ok, Res.st_ok, Res.noex_ok, SRes.seq_nx, SRes.seq_rt, SRes.seq_bk, SRes.turn_nx, SRes.turn_rt, SRes.turn_bk, SRes.res, List.map_cons, List.map_nil, List.length_cons, List.length_nil, List.cons_append, List.nil_append, List.append_nil, List.replicate, List.getElem?_cons_zero, List.getElem?_cons_succ, List.set_cons_zero, List.set_cons_succ, List.zip_cons_cons, List.foldl_cons, List.foldl_nil, List.zip_nil_left, Nat.reduceAdd, Nat.reduceSub, Nat.reduceMul, Nat.reduceLeDiff, Nat.reduceLT, Nat.reduceEqDiff, if_true, if_false, reduceIte, Bool.false_eq_true, wipeS, lim0, lim1, lim2, lim3]
        exact ⟨S, rfl, Nat.le_refl _⟩
    · rw [decide_eq_false h1]
      simp only [fnRes, startS, fSeq, fNext, fIfS, fSet, fAsg, gNm, gNms, fPar, fPar3, fRet, fRetN, fDrop, fBreak, fFor, fWhile, fVar, fC, fB, fOp, fAnd, fOr, fNot, fAndV, fOrV, fNotV, fIf, fTup, fLst, fNew, aNil, aCons, aStar, fIx, fSl, oNone, oSome, fCB, fCall, fMt, fPut, fNeg, fChain, fLcG, fLc2G, fRevL, iSeq, iR1, iR2, iEnumF, o1, gYes, endL, Res.bind_ok, Res.st_ok, Res.noex_ok, SRes.seq_nx, SRes.seq_rt, SRes.seq_bk, SRes.turn_nx, SRes.turn_rt, SRes.turn_bk, SRes.res, List.map_cons, List.map_nil, List.length_cons, List.length_nil, List.cons_append, List.nil_append, List.append_nil, List.replicate, List.getElem?_cons_zero, List.getElem?_cons_succ, List.set_cons_zero, List.set_cons_succ, List.zip_cons_cons, List.foldl_cons, List.foldl_nil, List.zip_nil_left, Nat.reduceAdd, Nat.reduceSub, Nat.reduceMul, Nat.reduceLeDiff, Nat.reduceLT, Nat.reduceEqDiff, if_true, if_false, reduceIte, Bool.false_eq_true, wipeS, lim0, lim1, lim2, lim3]
      exact ⟨S, rfl, Nat.le_refl _⟩
theorem pick_ok (S : Sr) (R : Mem) (m : Nat) (hm : m < 1000) (hS : S.cells.length < 900) : ∃ (r : Nat) (S' : Sr), g__law_pick [.ref 0, .int m] (srcM S ++ R) = .ok (.int r) (srcM S' ++ R) ∧ r < max 1 m ∧ S'.cells.length ≤ S.cells.length := by
  unfold g__law_pick F__law_pick
  simp only [fnRes, startS, fSeq, fNext, fIfS, fSet, fAsg, gNm, gNms, fPar, fPar3, fRet, fRetN, fDrop, fBreak, fFor, fWhile, fVar, fC, fB, fOp, fAnd, fOr, fNot, fAndV, fOrV, fNotV, fIf, fTup, fLst, fNew, aNil, aCons, aStar, fIx, fSl, oNone, oSome, fCB, fCall, fMt, fPut, fNeg, fChain, fLcG, fLc2G, fRevL, iSeq, iR1, iR2, iEnumF, o1, gYes, endL, Res.bind_ok, Res.st_ok, Res.noex_ok, SRes.seq_nx, SRes.seq_rt, SRes.seq_bk, SRes.turn_nx, SRes.turn_rt, SRes.turn_bk, SRes.res, List.map_cons, List.map_nil, List.length_cons, List.length_nil, List.cons_append, List.nil_append, List.append_nil, List.replicate, List.getElem?_cons_zero, List.getElem?_cons_succ, List.set_cons_zero, List.set_cons_succ, List.zip_cons_cons, List.foldl_cons, List.foldl_nil, List.zip_nil_left, Nat.reduceAdd, Nat.reduceSub, Nat.reduceMul, Nat.reduceLeDiff, Nat.reduceLT, Nat.reduceEqDiff, if_true, if_false, reduceIte, Bool.false_eq_true, wipeS, lim0, lim1, lim2, lim3, i_lt]
  by_cases h : (m : Int) < 2
  · rw [decide_eq_true h]
    simp only [fnRes, startS, fSeq, fNext, fIfS, fSet, fAsg, gNm, gNms, fPar, fPar3, fRet, fRetN, fDrop, fBreak, fFor, fWhile, fVar, fC, fB, fOp, fAnd, fOr, fNot, fAndV, fOrV, fNotV, fIf, fTup, fLst, fNew, aNil, aCons, aStar, fIx, fSl, oNone, oSome, fCB, fCall, fMt, fPut, fNeg, fChain, fLcG, fLc2G, fRevL, iSeq, iR1, iR2, iEnumF, o1, gYes, endL, Res.bind_ok, Res.st_ok, Res.noex_ok, SRes.seq_nx, SRes.seq_rt, SRes.seq_bk, SRes.turn_nx, SRes.turn_rt, SRes.turn_bk, SRes.res, List.map_cons, List.map_nil, List.length_cons, List.length_nil, List.cons_append, List.nil_append, List.append_nil, List.replicate, List.getElem?_cons_zero, List.getElem?_cons_succ, List.set_cons_zero, List.set_cons_succ, List.zip_cons_cons, List.foldl_cons, List.foldl_nil, List.zip_nil_left, Nat.reduceAdd, Nat.reduceSub, Nat.reduceMul, Nat.reduceLeDiff, Nat.reduceLT, Nat.reduceEqDiff, if_true, if_false, reduceIte, Bool.false_eq_true, wipeS, lim0, lim1, lim2, lim3]
    exact ⟨0, S, rfl, by omega, Nat.le_refl _⟩
  rw [decide_eq_false h]
  simp only [fnRes, startS, fSeq, fNext, fIfS, fSet, fAsg, gNm, gNms, fPar, fPar3, fRet, fRetN, fDrop, fBreak, fFor, fWhile, fVar, fC, fB, fOp, fAnd, fOr, fNot, fAndV, fOrV, fNotV, fIf, fTup, fLst, fNew, aNil, aCons, aStar, fIx, fSl, oNone, oSome, fCB, fCall, fMt, fPut, fNeg, fChain, fLcG, fLc2G, fRevL, iSeq, iR1, iR2, iEnumF, o1, gYes, endL, Res.bind_ok, Res.st_ok, Res.noex_ok, SRes.seq_nx, SRes.seq_rt, SRes.seq_bk, SRes.turn_nx, SRes.turn_rt, SRes.turn_bk, SRes.res, List.map_cons, List.map_nil, List.length_cons, List.length_nil, List.cons_append, List.nil_append, List.append_nil, List.replicate, List.getElem?_cons_zero, List.getElem?_cons_succ, List.set_cons_zero, List.set_cons_succ, List.zip_cons_cons, List.foldl_cons, List.foldl_nil, List.zip_nil_left, Nat.reduceAdd, Nat.reduceSub, Nat.reduceMul, Nat.reduceLeDiff, Nat.reduceLT, Nat.reduceEqDiff, if_true, if_false, reduceIte, Bool.false_eq_true, wipeS, lim0, lim1, lim2, lim3, look_cells, fu]
  obtain ⟨S1, e1, hl⟩ := pick_while [none, none, none] R (some (.int m)) none 1000 S (by omega)
  rw [e1]
  simp only [fnRes, startS, fSeq, fNext, fIfS, fSet, fAsg, gNm, gNms, fPar, fPar3, fRet, fRetN, fDrop, fBreak, fFor, fWhile, fVar, fC, fB, fOp, fAnd, fOr, fNot, fAndV, fOrV, fNotV, fIf, fTup, fLst, fNew, aNil, aCons, aStar, fIx, fSl, oNone, oSome, fCB, fCall, fMt, fPut, fNeg, fChain, fLcG, fLc2G, fRevL, iSeq, iR1, iR2, iEnumF, o1, gYes, endL, Res.bind_ok, Res.st_ok, Res.noex_ok, SRes.seq_nx, SRes.seq_rt, SRes.seq_bk, SRes.turn_nx, SRes.turn_rt, SRes.turn_bk, SRes.res, List.map_cons, List.map_nil, List.length_cons, List.length_nil, List.cons_append, List.nil_append, List.append_nil, List.replicate, List.getElem?_cons_zero, List.getElem?_cons_succ, List.set_cons_zero, List.set_cons_succ, List.zip_cons_cons, List.foldl_cons, List.foldl_nil, List.zip_nil_left, Nat.reduceAdd, Nat.reduceSub, Nat.reduceMul, Nat.reduceLeDiff, Nat.reduceLT, Nat.reduceEqDiff, if_true, if_false, reduceIte, Bool.false_eq_true, wipeS, lim0, lim1, lim2, lim3, look_left, i_gt]
  by_cases h2 : 1 < S1.left
  · rw [decide_eq_true h2]
    simp only [fnRes, startS, fSeq, fNext, fIfS, fSet, fAsg, gNm, gNms, fPar, fPar3, fRet, fRetN, fDrop, fBreak, fFor, fWhile, fVar, fC, fB, fOp, fAnd, fOr, fNot, fAndV, fOrV, fNotV, fIf, fTup, fLst, fNew, aNil, aCons, aStar, fIx, fSl, oNone, oSome, fCB, fCall, fMt, fPut, fNeg, fChain, fLcG, fLc2G, fRevL, iSeq, iR1, iR2, iEnumF, o1, gYes, endL, Res.bind_ok, Res.st_ok, Res.noex_ok, SRes.seq_nx, SRes.seq_rt, SRes.seq_bk, SRes.turn_nx, SRes.turn_rt, SRes.turn_bk, SRes.res, List.map_cons, List.map_nil, List.length_cons, List.length_nil, List.cons_append, List.nil_append, List.append_nil, List.replicate, List.getElem?_cons_zero, List.getElem?_cons_succ, List.set_cons_zero, List.set_cons_succ, List.zip_cons_cons, List.foldl_cons, List.foldl_nil, List.zip_nil_left, Nat.reduceAdd, Nat.reduceSub, Nat.reduceMul, Nat.reduceLeDiff, Nat.reduceLT, Nat.reduceEqDiff, if_true, if_false, reduceIte, Bool.false_eq_true, wipeS, lim0, lim1, lim2, lim3, i_fdiv S1.left m _ (by omega) (by omega), put_left, i_int, i_mod S1.left m _ (by omega)]
    have h3 := Int.emod_lt_of_pos S1.left (show (0 : Int) < m by omega)
    have h4 := Int.emod_nonneg S1.left (show (m : Int) ≠ 0 by omega)
    refine ⟨(S1.left % m).toNat, { S1 with left := S1.left / m }, ?_, by omega, hl⟩
    rw [Int.toNat_of_nonneg h4]
  · rw [decide_eq_false h2]
    simp only [fnRes, startS, fSeq, fNext, fIfS, fSet, fAsg, gNm, gNms, fPar, fPar3, fRet, fRetN, fDrop, fBreak, fFor, fWhile, fVar, fC, fB, fOp, fAnd, fOr, fNot, fAndV, fOrV, fNotV, fIf, fTup, fLst, fNew, aNil, aCons, aStar, fIx, fSl, oNone, oSome, fCB, fCall, fMt, fPut, fNeg, fChain, fLcG, fLc2G, fRevL, iSeq, iR1, iR2, iEnumF, o1, gYes, endL, Res.bind_ok, Res.st_ok, Res.noex_ok, SRes.seq_nx, SRes.seq_rt, SRes.seq_bk, SRes.turn_nx, SRes.turn_rt, SRes.turn_bk, SRes.res, List.map_cons, List.map_nil, List.length_cons, List.length_nil, List.cons_append, List.nil_append, List.append_nil, List.replicate, List.getElem?_cons_zero, List.getElem?_cons_succ, List.set_cons_zero, List.set_cons_succ, List.zip_cons_cons, List.foldl_cons, List.foldl_nil, List.zip_nil_left, Nat.reduceAdd, Nat.reduceSub, Nat.reduceMul, Nat.reduceLeDiff, Nat.reduceLT, Nat.reduceEqDiff, if_true, if_false, reduceIte, Bool.false_eq_true, wipeS, lim0, lim1, lim2, lim3, look_turn, look_mixed, i_add, put_turn, i_int]
    rw [i_mul _ _ _ (by simp [mulOk])]
    simp only [fnRes, startS, fSeq, fNext, fIfS, fSet, fAsg, gNm, gNms, fPar, fPar3, fRet, fRetN, fDrop, fBreak, fFor, fWhile, fVar, fC, fB, fOp, fAnd, fOr, fNot, fAndV, fOrV, fNotV, fIf, fTup, fLst, fNew, aNil, aCons, aStar, fIx, fSl, oNone, oSome, fCB, fCall, fMt, fPut, fNeg, fChain, fLcG, fLc2G, fRevL, iSeq, iR1, iR2, iEnumF, o1, gYes, endL, Res.bind_ok, Res.st_ok, Res.noex_ok, SRes.seq_nx, SRes.seq_rt, SRes.seq_bk, SRes.turn_nx, SRes.turn_rt, SRes.turn_bk, SRes.res, List.map_cons, List.map_nil, List.length_cons, List.length_nil, List.cons_append, List.nil_append, List.append_nil, List.replicate, List.getElem?_cons_zero, List.getElem?_cons_succ, List.set_cons_zero, List.set_cons_succ, List.zip_cons_cons, List.foldl_cons, List.foldl_nil, List.zip_nil_left, Nat.reduceAdd, Nat.reduceSub, Nat.reduceMul, Nat.reduceLeDiff, Nat.reduceLT, Nat.reduceEqDiff, if_true, if_false, reduceIte, Bool.false_eq_true, wipeS, lim0, lim1, lim2, lim3, look_turn, look_mixed, i_add, put_turn, i_int]
    rw [i_mod _ _ _ (by decide)]
    simp only [fnRes, startS, fSeq, fNext, fIfS, fSet, fAsg, gNm, gNms, fPar, fPar3, fRet, fRetN, fDrop, fBreak, fFor, fWhile, fVar, fC, fB, fOp, fAnd, fOr, fNot, fAndV, fOrV, fNotV, fIf, fTup, fLst, fNew, aNil, aCons, aStar, fIx, fSl, oNone, oSome, fCB, fCall, fMt, fPut, fNeg, fChain, fLcG, fLc2G, fRevL, iSeq, iR1, iR2, iEnumF, o1, gYes, endL, Res.bind_ok, Res.st_ok, Res.noex_ok, SRes.seq_nx, SRes.seq_rt, SRes.seq_bk, SRes.turn_nx, SRes.turn_rt, SRes.turn_bk, SRes.res, List.map_cons, List.map_nil, List.length_cons, List.length_nil, List.cons_append, List.nil_append, List.append_nil, List.replicate, List.getElem?_cons_zero, List.getElem?_cons_succ, List.set_cons_zero, List.set_cons_succ, List.zip_cons_cons, List.foldl_cons, List.foldl_nil, List.zip_nil_left, Nat.reduceAdd, Nat.reduceSub, Nat.reduceMul, Nat.reduceLeDiff, Nat.reduceLT, Nat.reduceEqDiff, if_true, if_false, reduceIte, Bool.false_eq_true, wipeS, lim0, lim1, lim2, lim3, look_turn, look_mixed, i_add, put_turn, i_int]
    have hx := Int.emod_lt_of_pos (S1.mixed + (S1.turn + 1) * 104729) (show (0 : Int) < 998244353 by decide)
    have hy := Int.emod_nonneg (S1.mixed + (S1.turn + 1) * 104729) (show (998244353 : Int) ≠ 0 by decide)
    rw [i_mul _ _ _ (by
      unfold mulOk
      rw [decide_eq_true (show Int.natAbs _ < _ by omega)]
      rfl)]
    simp only [fnRes, startS, fSeq, fNext, fIfS, fSet, fAsg, gNm, gNms, fPar, fPar3, fRet, fRetN, fDrop, fBreak, fFor, fWhile, fVar, fC, fB, fOp, fAnd, fOr, fNot, fAndV, fOrV, fNotV, fIf, fTup, fLst, fNew, aNil, aCons, aStar, fIx, fSl, oNone, oSome, fCB, fCall, fMt, fPut, fNeg, fChain, fLcG, fLc2G, fRevL, iSeq, iR1, iR2, iEnumF, o1, gYes, endL, Res.bind_ok, Res.st_ok, Res.noex_ok, SRes.seq_nx, SRes.seq_rt, SRes.seq_bk, SRes.turn_nx, SRes.turn_rt, SRes.turn_bk, SRes.res, List.map_cons, List.map_nil, List.length_cons, List.length_nil, List.cons_append, List.nil_append, List.append_nil, List.replicate, List.getElem?_cons_zero, List.getElem?_cons_succ, List.set_cons_zero, List.set_cons_succ, List.zip_cons_cons, List.foldl_cons, List.foldl_nil, List.zip_nil_left, Nat.reduceAdd, Nat.reduceSub, Nat.reduceMul, Nat.reduceLeDiff, Nat.reduceLT, Nat.reduceEqDiff, if_true, if_false, reduceIte, Bool.false_eq_true, wipeS, lim0, lim1, lim2, lim3, look_turn, look_mixed, i_add, put_turn, i_int]
    rw [i_mul _ _ _ (by simp [mulOk])]
    simp only [fnRes, startS, fSeq, fNext, fIfS, fSet, fAsg, gNm, gNms, fPar, fPar3, fRet, fRetN, fDrop, fBreak, fFor, fWhile, fVar, fC, fB, fOp, fAnd, fOr, fNot, fAndV, fOrV, fNotV, fIf, fTup, fLst, fNew, aNil, aCons, aStar, fIx, fSl, oNone, oSome, fCB, fCall, fMt, fPut, fNeg, fChain, fLcG, fLc2G, fRevL, iSeq, iR1, iR2, iEnumF, o1, gYes, endL, Res.bind_ok, Res.st_ok, Res.noex_ok, SRes.seq_nx, SRes.seq_rt, SRes.seq_bk, SRes.turn_nx, SRes.turn_rt, SRes.turn_bk, SRes.res, List.map_cons, List.map_nil, List.length_cons, List.length_nil, List.cons_append, List.nil_append, List.append_nil, List.replicate, List.getElem?_cons_zero, List.getElem?_cons_succ, List.set_cons_zero, List.set_cons_succ, List.zip_cons_cons, List.foldl_cons, List.foldl_nil, List.zip_nil_left, Nat.reduceAdd, Nat.reduceSub, Nat.reduceMul, Nat.reduceLeDiff, Nat.reduceLT, Nat.reduceEqDiff, if_true, if_false, reduceIte, Bool.false_eq_true, wipeS, lim0, lim1, lim2, lim3, look_turn, look_mixed, i_add, put_turn, i_int]
    rw [i_mod _ _ _ (by decide)]
    simp only [fnRes, startS, fSeq, fNext, fIfS, fSet, fAsg, gNm, gNms, fPar, fPar3, fRet, fRetN, fDrop, fBreak, fFor, fWhile, fVar, fC, fB, fOp, fAnd, fOr, fNot, fAndV, fOrV, fNotV, fIf, fTup, fLst, fNew, aNil, aCons, aStar, fIx, fSl, oNone, oSome, fCB, fCall, fMt, fPut, fNeg, fChain, fLcG, fLc2G, fRevL, iSeq, iR1, iR2, iEnumF, o1, gYes, endL, Res.bind_ok, Res.st_ok, Res.noex_ok, SRes.seq_nx, SRes.seq_rt, SRes.seq_bk, SRes.turn_nx, SRes.turn_rt, SRes.turn_bk, SRes.res, List.map_cons, List.map_nil, List.length_cons, List.length_nil, List.cons_append, List.nil_append, List.append_nil, List.replicate, List.getElem?_cons_zero, List.getElem?_cons_succ, List.set_cons_zero, List.set_cons_succ, List.zip_cons_cons, List.foldl_cons, List.foldl_nil, List.zip_nil_left, Nat.reduceAdd, Nat.reduceSub, Nat.reduceMul, Nat.reduceLeDiff, Nat.reduceLT, Nat.reduceEqDiff, if_true, if_false, reduceIte, Bool.false_eq_true, wipeS, lim0, lim1, lim2, lim3, i_int]
    rw [i_fdiv _ _ _ (by decide) (by decide)]
    simp only [fnRes, startS, fSeq, fNext, fIfS, fSet, fAsg, gNm, gNms, fPar, fPar3, fRet, fRetN, fDrop, fBreak, fFor, fWhile, fVar, fC, fB, fOp, fAnd, fOr, fNot, fAndV, fOrV, fNotV, fIf, fTup, fLst, fNew, aNil, aCons, aStar, fIx, fSl, oNone, oSome, fCB, fCall, fMt, fPut, fNeg, fChain, fLcG, fLc2G, fRevL, iSeq, iR1, iR2, iEnumF, o1, gYes, endL, Res.bind_ok, Res.st_ok, Res.noex_ok, SRes.seq_nx, SRes.seq_rt, SRes.seq_bk, SRes.turn_nx, SRes.turn_rt, SRes.turn_bk, SRes.res, List.map_cons, List.map_nil, List.length_cons, List.length_nil, List.cons_append, List.nil_append, List.append_nil, List.replicate, List.getElem?_cons_zero, List.getElem?_cons_succ, List.set_cons_zero, List.set_cons_succ, List.zip_cons_cons, List.foldl_cons, List.foldl_nil, List.zip_nil_left, Nat.reduceAdd, Nat.reduceSub, Nat.reduceMul, Nat.reduceLeDiff, Nat.reduceLT, Nat.reduceEqDiff, if_true, if_false, reduceIte, Bool.false_eq_true, wipeS, lim0, lim1, lim2, lim3, i_int]
    rw [i_mod _ _ _ (by omega)]
    · generalize (((S1.mixed + (S1.turn + 1) * 104729) % 998244353 * ((S1.mixed + (S1.turn + 1) * 104729) % 998244353) + (S1.turn + 1) * 17) % 2147483647 / 16) = z
      have h3 := Int.emod_lt_of_pos z (show (0 : Int) < m by omega)
      have h4 := Int.emod_nonneg z (show (m : Int) ≠ 0 by omega)
      refine ⟨(z % m).toNat, { S1 with turn := S1.turn + 1 }, ?_, by omega, hl⟩
      rw [Int.toNat_of_nonneg h4]
      rfl
theorem pick_I (S : Sr) (R : Mem) (m : Int) (h0 : 0 ≤ m) (hm : m < 1000) (hS : S.cells.length < 900) : ∃ (r : Nat) (S' : Sr), g__law_pick [.ref 0, .int m] (srcM S ++ R) = .ok (.int r) (srcM S' ++ R) ∧ (r : Int) < max 1 m ∧ S'.cells.length ≤ S.cells.length := by
  obtain ⟨n, rfl⟩ := Int.eq_ofNat_of_zero_le h0
  obtain ⟨r, S', e1, e2, e3⟩ := pick_ok S R n (by omega) hS
  exact ⟨r, S', e1, by omega, e3⟩
end Fl
set_option Elab.async false
set_option linter.all false
set_option maxRecDepth 100000
set_option maxHeartbeats 4000000
/-! P2: the draws, on. -/
namespace Fl
open PySem PySem.Spec PyProof.Rows L2

/-! ### loops by an invariant -/
theorem lc_run {x : Src} {G : FG} {te : FE} {s : Slots} (I : Nat → List T → Mem → Prop) (hx : x.cell = none) : ∀ (ys : List T) (n : Nat) (acc : List T) (M : Mem),
    (∀ i y, ys[i]? = some y → ∀ acc M, I (n + i) acc M → ∃ s2 v M', G y s = some s2 ∧ te s2 M = .ok v M' ∧ I (n + i + 1) (acc ++ [v]) M') → I n acc M → acc.length + ys.length < lim →
    ∃ us M', lcLoop x G gYes te s ys acc M = .ok us M' ∧ I (n + ys.length) us M' ∧ us.length = acc.length + ys.length
  | [], n, acc, M, _, hI, _ => ⟨acc, M, by simp [lcLoop, srcOk, hx], hI, by simp⟩
  | y :: ys, n, acc, M, h, hI, hl => by
    obtain ⟨s2, v, M', e1, e2, e3⟩ := h 0 y rfl acc M hI
    have hl' : acc.length + ys.length + 1 < lim := by simpa [Nat.add_assoc] using hl
    obtain ⟨us, M2, f1, f2, f3⟩ := lc_run I hx ys (n + 1) (acc ++ [v]) M' (fun i z hz acc M hh => by
      have := h (i + 1) z (by simpa using hz) acc M (by rw [show n + (i + 1) = n + 1 + i by omega]; exact hh)
      rw [show n + (i + 1) + 1 = n + 1 + i + 1 by omega] at this
      exact this) e3 (by rw [List.length_append]; simp; omega)
    refine ⟨us, M2, ?_, by rw [List.length_cons, show n + (ys.length + 1) = n + 1 + ys.length by omega]; exact f2, by rw [f3]; simp; omega⟩
    unfold lcLoop
    rw [if_pos (by simp [srcOk, hx]), e1]
    simp only [gYes, Res.noex_ok, Res.bind_ok, if_true]
    rw [e2]
    simp only [Res.noex_ok, Res.bind_ok]
    rw [if_pos (by omega)]
    exact f1
theorem for_run {x : Src} {G : FG} {B : FS} (I : Nat → Slots → Mem → Prop) (hx : x.cell = none) : ∀ (ys : List T) (n : Nat) (s : Slots) (M : Mem),
    (∀ i y, ys[i]? = some y → ∀ s M, I (n + i) s M → ∃ s2 s3 M3, G y s = some s2 ∧ B s2 M = .nx s3 M3 ∧ I (n + i + 1) s3 M3) → I n s M →
    ∃ s' M', forL x G B ys s M = .nx s' M' ∧ I (n + ys.length) s' M'
  | [], n, s, M, _, hI => ⟨s, M, by simp [forL, srcOk, hx], hI⟩
  | y :: ys, n, s, M, h, hI => by
    obtain ⟨s2, s3, M3, e1, e2, e3⟩ := h 0 y rfl s M hI
    obtain ⟨s', M', f1, f2⟩ := for_run I hx ys (n + 1) s3 M3 (fun i z hz s M hh => by
      have := h (i + 1) z (by simpa using hz) s M (by rw [show n + (i + 1) = n + 1 + i by omega]; exact hh)
      rw [show n + (i + 1) + 1 = n + 1 + i + 1 by omega] at this
      exact this) e3
    refine ⟨s', M', ?_, by rw [List.length_cons, show n + (ys.length + 1) = n + 1 + ys.length by omega]; exact f2⟩
    unfold forL
    rw [if_pos (by simp [srcOk, hx]), e1]
    simp only
    rw [e2]
    exact f1
theorem rangeT_get {lo : Int} {n i : Nat} {y : T} (h : (rangeT lo n)[i]? = some y) : i < n ∧ y = .int (lo + i) := by
  unfold rangeT at h
  rw [List.getElem?_map] at h
  by_cases hi : i < n
  · rw [List.getElem?_range hi] at h
    exact ⟨hi, (Option.some.inj h).symm⟩
  · rw [List.getElem?_eq_none (by simpa using hi)] at h
    cases h
theorem rangeT_len (lo : Int) (n : Nat) : (rangeT lo n).length = n := by simp [rangeT]
theorem spanN {n : Int} (h0 : 0 ≤ n) (h : n < 1000000) : spanOk 0 n = true := by
  unfold spanOk
  rw [decide_eq_true (by omega), decide_eq_true (by omega)]
  rfl

theorem rangeS {n : Int} (h0 : 0 ≤ n) (h : n < 1000000) (M : Mem) : (if spanOk 0 n = true then Res.ok (⟨rangeT 0 n.toNat, none, []⟩ : Src) M else .stuck) = .ok ⟨rangeT 0 n.toNat, none, []⟩ M := if_pos (spanN h0 h)

/-! ### tables as values -/
def vals : List T := [.int 0, .int 1, .non, .str "yes", .tup [.int 0, .str "no"]]
def encE : Mt.Ent T → T
  | (.tup ts, none) => .tup ts
  | (.tup ts, some g) => .tup (ts ++ [.int (g : Nat)])
  | (l, _) => l
def encL (r : List (Mt.Ent T)) : T := .tup (r.map encE)
def encT (t : Mt.Tb T) : T := .tup (t.map encL)
inductive EntOk (n wide : Nat) : Mt.Ent T → Prop
  | clash : EntOk n wide (.tup [.str "clash"], none)
  | stuck : EntOk n wide (.tup [.str "stuck"], none)
  | good {o : List T} {g : Nat} : o.length = wide → (∀ v ∈ o, v ∈ vals) → g < n → EntOk n wide (.tup [.str "good", .tup o], some g)
structure TabOk (n k wide : Nat) (t : Mt.Tb T) : Prop where
  len : t.length = n
  pos : 0 < n
  le : n ≤ 7
  kpos : 0 < k
  kle : k ≤ 3
  wle : wide ≤ 2
  row : ∀ r ∈ t, r.length = k
  ent : ∀ r ∈ t, ∀ e ∈ r, EntOk n wide e

/-! ### drawing -/
theorem e1_entry_ok (S : Sr) (R : Mem) (sl : Slots) (hS : S.cells.length < 900) : ∃ (v : T) (S' : Sr), e1__law_draw_entry g__law_pick (some (.ref 0) :: sl) (srcM S ++ R) = .ok v (srcM S' ++ R) ∧ v ∈ vals ∧ S'.cells.length ≤ S.cells.length := by
  obtain ⟨r, S', e1, hr, l⟩ := pick_I S R 7 (by decide) (by decide) hS
  have l7 : (7 : Nat) ≤ lim := by unfold lim; decide
  have l5 : (5 : Nat) ≤ lim := by unfold lim; decide
  have l2 : (2 : Nat) ≤ lim := by unfold lim; decide
  unfold e1__law_draw_entry
  simp only [fnRes, startS, fSeq, fNext, fIfS, fSet, fAsg, gNm, gNms, fPar, fPar3, fRet, fRetN, fDrop, fBreak, fFor, fWhile, fVar, fC, fB, fOp, fAnd, fOr, fNot, fAndV, fOrV, fNotV, fIf, fTup, fLst, fNew, aNil, aCons, aStar, fIx, fSl, oNone, oSome, fCB, fCall, fMt, fPut, fNeg, fChain, fLcG, fLc2G, fRevL, iSeq, iR1, iR2, iEnumF, o1, gYes, endL, Res.bind_ok, Res.st_ok, Res.noex_ok, SRes.seq_nx, SRes.seq_rt, SRes.seq_bk, SRes.turn_nx, SRes.turn_rt, SRes.turn_bk, SRes.res, List.map_cons, List.map_nil, List.length_cons, List.length_nil, List.cons_append, List.nil_append, List.append_nil, List.replicate, List.getElem?_cons_zero, List.getElem?_cons_succ, List.set_cons_zero, List.set_cons_succ, List.zip_cons_cons, List.foldl_cons, List.foldl_nil, List.zip_nil_left, Nat.reduceAdd, Nat.reduceSub, Nat.reduceMul, Nat.reduceLeDiff, Nat.reduceLT, Nat.reduceEqDiff, if_true, if_false, reduceIte, Bool.false_eq_true, wipeS, lim0, lim1, lim2, lim3, l7, l5, l2, e1]
  have hr' : r < 7 := by omega
  obtain ⟨j, hj, hj5⟩ : ∃ j : Nat, oIx (.lst [.int 0, .int 0, .int 1, .int 1, .int 2, .int 3, .int 4]) (.int r) (srcM S' ++ R) = .ok (.int j) (srcM S' ++ R) ∧ j < 5 := by
    have : r = 0 ∨ r = 1 ∨ r = 2 ∨ r = 3 ∨ r = 4 ∨ r = 5 ∨ r = 6 := by omega
    rcases this with rfl | rfl | rfl | rfl | rfl | rfl | rfl
    · exact ⟨0, rfl, by decide⟩
    · exact ⟨0, rfl, by decide⟩
    · exact ⟨1, rfl, by decide⟩
    · exact ⟨1, rfl, by decide⟩
    · exact ⟨2, rfl, by decide⟩
    · exact ⟨3, rfl, by decide⟩
    · exact ⟨4, rfl, by decide⟩
  rw [hj]
  simp only [fnRes, startS, fSeq, fNext, fIfS, fSet, fAsg, gNm, gNms, fPar, fPar3, fRet, fRetN, fDrop, fBreak, fFor, fWhile, fVar, fC, fB, fOp, fAnd, fOr, fNot, fAndV, fOrV, fNotV, fIf, fTup, fLst, fNew, aNil, aCons, aStar, fIx, fSl, oNone, oSome, fCB, fCall, fMt, fPut, fNeg, fChain, fLcG, fLc2G, fRevL, iSeq, iR1, iR2, iEnumF, o1, gYes, endL, Res.bind_ok, Res.st_ok, Res.noex_ok, SRes.seq_nx, SRes.seq_rt, SRes.seq_bk, SRes.turn_nx, SRes.turn_rt, SRes.turn_bk, SRes.res, List.map_cons, List.map_nil, List.length_cons, List.length_nil, List.cons_append, List.nil_append, List.append_nil, List.replicate, List.getElem?_cons_zero, List.getElem?_cons_succ, List.set_cons_zero, List.set_cons_succ, List.zip_cons_cons, List.foldl_cons, List.foldl_nil, List.zip_nil_left, Nat.reduceAdd, Nat.reduceSub, Nat.reduceMul, Nat.reduceLeDiff, Nat.reduceLT, Nat.reduceEqDiff, if_true, if_false, reduceIte, Bool.false_eq_true, wipeS, lim0, lim1, lim2, lim3]
  have : j = 0 ∨ j = 1 ∨ j = 2 ∨ j = 3 ∨ j = 4 := by omega
  rcases this with rfl | rfl | rfl | rfl | rfl
  · exact ⟨_, S', rfl, by simp [vals], l⟩
  · exact ⟨_, S', rfl, by simp [vals], l⟩
  · exact ⟨_, S', rfl, by simp [vals], l⟩
  · exact ⟨_, S', rfl, by simp [vals], l⟩
  · exact ⟨_, S', rfl, by simp [vals], l⟩
theorem entry_ok (S : Sr) (R : Mem) (n wide : Nat) (hn : 0 < n) (hn2 : n ≤ 7) (hw : wide ≤ 2) (hS : S.cells.length < 900) : ∃ (e : Mt.Ent T) (S' : Sr), g__law_draw_entry g__law_pick [.ref 0, .int (n : Nat), .int (wide : Nat)] (srcM S ++ R) = .ok (encE e) (srcM S' ++ R) ∧ EntOk n wide e ∧ S'.cells.length ≤ S.cells.length := by
  have l1 : (1 : Nat) ≤ lim := by unfold lim; decide
  have l3 : (3 : Nat) ≤ lim := by unfold lim; decide
  unfold g__law_draw_entry F__law_draw_entry
  obtain ⟨r, S1, e1, _, q1⟩ := pick_I S R 9 (by decide) (by decide) hS
  simp only [fnRes, startS, fSeq, fNext, fIfS, fSet, fAsg, gNm, gNms, fPar, fPar3, fRet, fRetN, fDrop, fBreak, fFor, fWhile, fVar, fC, fB, fOp, fAnd, fOr, fNot, fAndV, fOrV, fNotV, fIf, fTup, fLst, fNew, aNil, aCons, aStar, fIx, fSl, oNone, oSome, fCB, fCall, fMt, fPut, fNeg, fChain, fLcG, fLc2G, fRevL, iSeq, iR1, iR2, iEnumF, o1, gYes, endL, Res.bind_ok, Res.st_ok, Res.noex_ok, SRes.seq_nx, SRes.seq_rt, SRes.seq_bk, SRes.turn_nx, SRes.turn_rt, SRes.turn_bk, SRes.res, List.map_cons, List.map_nil, List.length_cons, List.length_nil, List.cons_append, List.nil_append, List.append_nil, List.replicate, List.getElem?_cons_zero, List.getElem?_cons_succ, List.set_cons_zero, List.set_cons_succ, List.zip_cons_cons, List.foldl_cons, List.foldl_nil, List.zip_nil_left, Nat.reduceAdd, Nat.reduceSub, Nat.reduceMul, Nat.reduceLeDiff, Nat.reduceLT, Nat.reduceEqDiff, if_true, if_false, reduceIte, Bool.false_eq_true, wipeS, lim0, lim1, lim2, lim3, e1, i_eq]
  by_cases h : (r : Int) = 0
  · rw [decide_eq_true h]
    obtain ⟨r2, S2, e2, _, q2⟩ := pick_I S1 R 2 (by decide) (by decide) (by omega)
    simp only [fnRes, startS, fSeq, fNext, fIfS, fSet, fAsg, gNm, gNms, fPar, fPar3, fRet, fRetN, fDrop, fBreak, fFor, fWhile, fVar, fC, fB, fOp, fAnd, fOr, fNot, fAndV, fOrV, fNotV, fIf, fTup, fLst, fNew, aNil, aCons, aStar, fIx, fSl, oNone, oSome, fCB, fCall, fMt, fPut, fNeg, fChain, fLcG, fLc2G, fRevL, iSeq, iR1, iR2, iEnumF, o1, gYes, endL, Res.bind_ok, Res.st_ok, Res.noex_ok, SRes.seq_nx, SRes.seq_rt, SRes.seq_bk, SRes.turn_nx, SRes.turn_rt, SRes.turn_bk, SRes.res, List.map_cons, List.map_nil, List.length_cons, List.length_nil, List.cons_append, List.nil_append, List.append_nil, List.replicate, List.getElem?_cons_zero, List.getElem?_cons_succ, List.set_cons_zero, List.set_cons_succ, List.zip_cons_cons, List.foldl_cons, List.foldl_nil, List.zip_nil_left, Nat.reduceAdd, Nat.reduceSub, Nat.reduceMul, Nat.reduceLeDiff, Nat.reduceLT, Nat.reduceEqDiff, if_true, if_false, reduceIte, Bool.false_eq_true, wipeS, lim0, lim1, lim2, lim3, e2, i_eq]
    by_cases h2 : (r2 : Int) = 0
    · rw [decide_eq_true h2]
      simp only [fnRes, startS, fSeq, fNext, fIfS, fSet, fAsg, gNm, gNms, fPar, fPar3, fRet, fRetN, fDrop, fBreak, fFor, fWhile, fVar, fC, fB, fOp, fAnd, fOr, fNot, fAndV, fOrV, fNotV, fIf, fTup, fLst, fNew, aNil, aCons, aStar, fIx, fSl, oNone, oSome, fCB, fCall, fMt, fPut, fNeg, fChain, fLcG, fLc2G, fRevL, iSeq, iR1, iR2, iEnumF, o1, gYes, endL, Res.bind_ok, Res.st_ok, Res.noex_ok, SRes.seq_nx, SRes.seq_rt, SRes.seq_bk, SRes.turn_nx, SRes.turn_rt, SRes.turn_bk, SRes.res, List.map_cons, List.map_nil, List.length_cons, List.length_nil, List.cons_append, List.nil_append, List.append_nil, List.replicate, List.getElem?_cons_zero, List.getElem?_cons_succ, List.set_cons_zero, List.set_cons_succ, List.zip_cons_cons, List.foldl_cons, List.foldl_nil, List.zip_nil_left, Nat.reduceAdd, Nat.reduceSub, Nat.reduceMul, Nat.reduceLeDiff, Nat.reduceLT, Nat.reduceEqDiff, if_true, if_false, reduceIte, Bool.false_eq_true, wipeS, lim0, lim1, lim2, lim3, l1]
      exact ⟨_, S2, rfl, .clash, by omega⟩
    · rw [decide_eq_false h2]
      simp only [fnRes, startS, fSeq, fNext, fIfS, fSet, fAsg, gNm, gNms, fPar, fPar3, fRet, fRetN, fDrop, fBreak, fFor, fWhile, fVar, fC, fB, fOp, fAnd, fOr, fNot, fAndV, fOrV, fNotV, fIf, fTup, fLst, fNew, aNil, aCons, aStar, fIx, fSl, oNone, oSome, fCB, fCall, fMt, fPut, fNeg, fChain, fLcG, fLc2G, fRevL, iSeq, iR1, iR2, iEnumF, o1, gYes, endL, Res.bind_ok, Res.st_ok, Res.noex_ok, SRes.seq_nx, SRes.seq_rt, SRes.seq_bk, SRes.turn_nx, SRes.turn_rt, SRes.turn_bk, SRes.res, List.map_cons, List.map_nil, List.length_cons, List.length_nil, List.cons_append, List.nil_append, List.append_nil, List.replicate, List.getElem?_cons_zero, List.getElem?_cons_succ, List.set_cons_zero, List.set_cons_succ, List.zip_cons_cons, List.foldl_cons, List.foldl_nil, List.zip_nil_left, Nat.reduceAdd, Nat.reduceSub, Nat.reduceMul, Nat.reduceLeDiff, Nat.reduceLT, Nat.reduceEqDiff, if_true, if_false, reduceIte, Bool.false_eq_true, wipeS, lim0, lim1, lim2, lim3, l1]
      exact ⟨_, S2, rfl, .stuck, by omega⟩
  · rw [decide_eq_false h]
    simp only [fnRes, startS, fSeq, fNext, fIfS, fSet, fAsg, gNm, gNms, fPar, fPar3, fRet, fRetN, fDrop, fBreak, fFor, fWhile, fVar, fC, fB, fOp, fAnd, fOr, fNot, fAndV, fOrV, fNotV, fIf, fTup, fLst, fNew, aNil, aCons, aStar, fIx, fSl, oNone, oSome, fCB, fCall, fMt, fPut, fNeg, fChain, fLcG, fLc2G, fRevL, iSeq, iR1, iR2, iEnumF, o1, gYes, endL, Res.bind_ok, Res.st_ok, Res.noex_ok, SRes.seq_nx, SRes.seq_rt, SRes.seq_bk, SRes.turn_nx, SRes.turn_rt, SRes.turn_bk, SRes.res, List.map_cons, List.map_nil, List.length_cons, List.length_nil, List.cons_append, List.nil_append, List.append_nil, List.replicate, List.getElem?_cons_zero, List.getElem?_cons_succ, List.set_cons_zero, List.set_cons_succ, List.zip_cons_cons, List.foldl_cons, List.foldl_nil, List.zip_nil_left, Nat.reduceAdd, Nat.reduceSub, Nat.reduceMul, Nat.reduceLeDiff, Nat.reduceLT, Nat.reduceEqDiff, if_true, if_false, reduceIte, Bool.false_eq_true, wipeS, lim0, lim1, lim2, lim3]
    rw [rangeS (n := (wide : Int)) (by omega) (by omega)]
    simp only [fnRes, startS, fSeq, fNext, fIfS, fSet, fAsg, gNm, gNms, fPar, fPar3, fRet, fRetN, fDrop, fBreak, fFor, fWhile, fVar, fC, fB, fOp, fAnd, fOr, fNot, fAndV, fOrV, fNotV, fIf, fTup, fLst, fNew, aNil, aCons, aStar, fIx, fSl, oNone, oSome, fCB, fCall, fMt, fPut, fNeg, fChain, fLcG, fLc2G, fRevL, iSeq, iR1, iR2, iEnumF, o1, gYes, endL, Res.bind_ok, Res.st_ok, Res.noex_ok, SRes.seq_nx, SRes.seq_rt, SRes.seq_bk, SRes.turn_nx, SRes.turn_rt, SRes.turn_bk, SRes.res, List.map_cons, List.map_nil, List.length_cons, List.length_nil, List.cons_append, List.nil_append, List.append_nil, List.replicate, List.getElem?_cons_zero, List.getElem?_cons_succ, List.set_cons_zero, List.set_cons_succ, List.zip_cons_cons, List.foldl_cons, List.foldl_nil, List.zip_nil_left, Nat.reduceAdd, Nat.reduceSub, Nat.reduceMul, Nat.reduceLeDiff, Nat.reduceLT, Nat.reduceEqDiff, if_true, if_false, reduceIte, Bool.false_eq_true, wipeS, lim0, lim1, lim2, lim3]
    obtain ⟨us, M2, e2, ⟨S2, rfl, q2, hu⟩, hl⟩ := lc_run (x := ⟨rangeT 0 ((wide : Int)).toNat, none, []⟩) (G := gNm 4) (te := e1__law_draw_entry g__law_pick) (s := [some (.ref 0), some (.int (n : Nat)), some (.int (wide : Nat)), none, none])
      (fun _ acc M => ∃ S' : Sr, M = srcM S' ++ R ∧ S'.cells.length ≤ S.cells.length ∧ ∀ v ∈ acc, v ∈ vals) rfl (rangeT 0 ((wide : Int)).toNat) 0 [] (srcM S1 ++ R) (by
        rintro i y hy acc M ⟨S', rfl, hl', hacc⟩
        obtain ⟨v, S2, f1, f2, f3⟩ := e1_entry_ok S' R [some (.int (n : Nat)), some (.int (wide : Nat)), none, some y] (by omega)
        refine ⟨_, v, _, rfl, f1, S2, rfl, by omega, fun u hu => ?_⟩
        rcases List.mem_append.mp hu with hu | hu
        · exact hacc u hu
        · rw [List.mem_singleton.mp hu]
          exact f2) ⟨S1, rfl, q1, fun v hv => nomatch hv⟩ (by rw [rangeT_len]; unfold lim; simp; omega)
    rw [e2]
    obtain ⟨r3, S3, e3, hr3, q3⟩ := pick_I S2 R n (by omega) (by omega) (by omega)
    simp only [fnRes, startS, fSeq, fNext, fIfS, fSet, fAsg, gNm, gNms, fPar, fPar3, fRet, fRetN, fDrop, fBreak, fFor, fWhile, fVar, fC, fB, fOp, fAnd, fOr, fNot, fAndV, fOrV, fNotV, fIf, fTup, fLst, fNew, aNil, aCons, aStar, fIx, fSl, oNone, oSome, fCB, fCall, fMt, fPut, fNeg, fChain, fLcG, fLc2G, fRevL, iSeq, iR1, iR2, iEnumF, o1, gYes, endL, Res.bind_ok, Res.st_ok, Res.noex_ok, SRes.seq_nx, SRes.seq_rt, SRes.seq_bk, SRes.turn_nx, SRes.turn_rt, SRes.turn_bk, SRes.res, List.map_cons, List.map_nil, List.length_cons, List.length_nil, List.cons_append, List.nil_append, List.append_nil, List.replicate, List.getElem?_cons_zero, List.getElem?_cons_succ, List.set_cons_zero, List.set_cons_succ, List.zip_cons_cons, List.foldl_cons, List.foldl_nil, List.zip_nil_left, Nat.reduceAdd, Nat.reduceSub, Nat.reduceMul, Nat.reduceLeDiff, Nat.reduceLT, Nat.reduceEqDiff, if_true, if_false, reduceIte, Bool.false_eq_true, wipeS, lim0, lim1, lim2, lim3, oTuple, items, e3, l3]
    refine ⟨(.tup [.str "good", .tup us], some r3), S3, rfl, .good ?_ hu (by omega), by omega⟩
    rw [hl, rangeT_len]
    simp
end Fl
set_option Elab.async false
set_option linter.all false
set_option maxRecDepth 100000
set_option maxHeartbeats 4000000
/-! P3: whole tables drawn. -/
namespace Fl
open PySem PySem.Spec PyProof.Rows L2

mutual
theorem pl_clo : ∀ (t : T) (d n : Nat), T.pl d t = true → T.clo n t
  | .non, _, _, _ => trivial
  | .int _, _, _, _ => trivial
  | .str x, _, _, _ => trivial
  | .tup ts, d, n, h => by
    simp only [T.pl, Bool.and_eq_true, decide_eq_true_eq] at h
    exact pls_clo ts (d - 1) n h.2
  | .lst ts, d, n, h => by
    simp only [T.pl, Bool.and_eq_true, decide_eq_true_eq] at h
    exact pls_clo ts (d - 1) n h.2
  | .bl _, _, _, h => by simp [T.pl] at h
  | .scr _, _, _, h => by simp [T.pl] at h
  | .iset _, _, _, h => by simp [T.pl] at h
  | .rng _ _, _, _, h => by simp [T.pl] at h
  | .ref _, _, _, h => by simp [T.pl] at h
  | .adr _, _, _, h => by simp [T.pl] at h
  | .ty _, _, _, h => by simp [T.pl] at h
theorem pls_clo : ∀ (ts : List T) (d n : Nat), T.pls d ts = true → T.clos n ts
  | [], _, _, _ => trivial
  | t :: ts, d, n, h => by
    simp only [T.pls, Bool.and_eq_true] at h
    exact ⟨pl_clo t d n h.1, pls_clo ts d n h.2⟩
end
theorem ok_good : PyData.strOk "good" = true := by decide +kernel
theorem ok_clash : PyData.strOk "clash" = true := by decide +kernel
theorem ok_stuck : PyData.strOk "stuck" = true := by decide +kernel
theorem ok_yes : PyData.strOk "yes" = true := by decide +kernel
theorem ok_no : PyData.strOk "no" = true := by decide +kernel
theorem vals_pl : ∀ v ∈ vals, T.pl 1 v = true := by
  intro v hv
  simp only [vals, List.mem_cons, List.not_mem_nil, or_false] at hv
  rcases hv with rfl | rfl | rfl | rfl | rfl <;> simp [T.pl, T.pls, ok_yes, ok_no]
theorem lab_pl {n w : Nat} {e : Mt.Ent T} (h : EntOk n w e) : T.pl 3 e.1 = true := by
  cases h with
  | clash => simp [encE, T.pl, T.pls, ok_clash]
  | stuck => simp [encE, T.pl, T.pls, ok_stuck]
  | good h1 h2 h3 =>
    have : T.pls 1 _ = true := (pls_iff 1 _).mpr fun v hv => vals_pl v (h2 v hv)
    simp [T.pl, T.pls, this, ok_good]
theorem ent_pl {n w : Nat} {e : Mt.Ent T} (h : EntOk n w e) : T.pl 3 (encE e) = true := by
  cases h with
  | clash => simp [encE, T.pl, T.pls, ok_clash]
  | stuck => simp [encE, T.pl, T.pls, ok_stuck]
  | good h1 h2 h3 =>
    have : T.pls 1 _ = true := (pls_iff 1 _).mpr fun v hv => vals_pl v (h2 v hv)
    simp [encE, T.pl, T.pls, this, ok_good]
theorem line_pl {n w : Nat} {r : List (Mt.Ent T)} (h : ∀ e ∈ r, EntOk n w e) : T.pl 4 (encL r) = true := by
  have : T.pls 3 (r.map encE) = true := (pls_iff 3 _).mpr fun v hv => by
    obtain ⟨e, he, rfl⟩ := List.mem_map.mp hv
    exact ent_pl (h e he)
  unfold encL
  simp only [T.pl, Nat.reduceSub, Nat.reduceLT, decide_true, Bool.true_and]
  exact this
theorem tab_pl {n w : Nat} {t : Mt.Tb T} (h : ∀ r ∈ t, ∀ e ∈ r, EntOk n w e) : T.pl 5 (encT t) = true := by
  have : T.pls 4 (t.map encL) = true := (pls_iff 4 _).mpr fun v hv => by
    obtain ⟨r, hr, rfl⟩ := List.mem_map.mp hv
    exact line_pl (h r hr)
  unfold encT
  simp only [T.pl, Nat.reduceSub, Nat.reduceLT, decide_true, Bool.true_and]
  exact this
theorem src_clo (S : Sr) : ∀ c ∈ srcM S, Cell.clo (srcM S).length c := by
  intro c hc
  simp only [srcM, List.mem_cons, List.not_mem_nil, or_false] at hc
  rcases hc with rfl | rfl
  · simp only [Cell.clo, List.map_cons, List.map_nil, T.clos, T.clo, srcM, List.length_cons, List.length_nil]
    exact ⟨by decide, trivial, trivial, trivial, trivial⟩
  · simp only [Cell.clo]
    exact (T.clos_iff _ _).mpr fun t ht => by
      obtain ⟨i, _, rfl⟩ := List.mem_map.mp ht
      trivial
/-! ### a cell behind the source -/
theorem ix_cell (S : Sr) (us : List T) (r : Nat) (t : T) (h : us[r]? = some t) : oIx (.ref 2) (.int (r : Nat)) (srcM S ++ [.lst us]) = .ok t (srcM S ++ [.lst us]) := by
  show (match atI us (r : Int) with
    | some t => Res.ok t _
    | none => .stuck) = _
  rw [atI_nat h]
theorem app_cell (S : Sr) (us : List T) (y : T) (h : us.length < lim) : oAppend (.ref 2) [y] (srcM S ++ [.lst us]) = .ok .non (srcM S ++ [.lst (us ++ [y])]) := by
  show (if us.length < lim then _ else _) = _
  rw [if_pos h]
  rfl
theorem ty_cell (S : Sr) (us : List T) : tyOk "list" (srcM S ++ [.lst us]) (.ref 2) = true := rfl
theorem len_cell (S : Sr) (us : List T) : oLen [.ref 2] (srcM S ++ [.lst us]) = .ok (.int (us.length : Nat)) (srcM S ++ [.lst us]) := rfl
theorem tup_cell (S : Sr) (us : List T) : oTuple [.ref 2] (srcM S ++ [.lst us]) = .ok (.tup us) (srcM S ++ [.lst us]) := rfl
theorem ref2 (S : Sr) : (T.ref (srcM S).length) = .ref 2 := rfl
/-! ### lines -/
theorem e1_lines_ok (S : Sr) (R : Mem) (n wide : Nat) (a : Option T) (sl : Slots) (hn : 0 < n) (hn2 : n ≤ 7) (hw : wide ≤ 2) (hS : S.cells.length < 900) : ∃ (e : Mt.Ent T) (S' : Sr),
    e1__law_draw_lines (g__law_draw_entry g__law_pick) g__law_pick (some (.ref 0) :: some (.int (n : Nat)) :: a :: some (.int (wide : Nat)) :: sl) (srcM S ++ R) = .ok (encE e) (srcM S' ++ R) ∧ EntOk n wide e ∧ S'.cells.length ≤ S.cells.length := by
  obtain ⟨e, S', e1, e2, e3⟩ := entry_ok S R n wide hn hn2 hw hS
  refine ⟨e, S', ?_, e2, e3⟩
  unfold e1__law_draw_lines
  simp only [fnRes, startS, fSeq, fNext, fIfS, fSet, fAsg, gNm, gNms, fPar, fPar3, fRet, fRetN, fDrop, fBreak, fFor, fWhile, fVar, fC, fB, fOp, fAnd, fOr, fNot, fAndV, fOrV, fNotV, fIf, fTup, fLst, fNew, aNil, aCons, aStar, fIx, fSl, oNone, oSome, fCB, fCall, fMt, fPut, fNeg, fChain, fLcG, fLc2G, fRevL, iSeq, iR1, iR2, iEnumF, o1, gYes, endL, Res.bind_ok, Res.st_ok, Res.noex_ok, SRes.seq_nx, SRes.seq_rt, SRes.seq_bk, SRes.turn_nx, SRes.turn_rt, SRes.turn_bk, SRes.res, List.map_cons, List.map_nil, List.length_cons, List.length_nil, List.cons_append, List.nil_append, List.append_nil, List.replicate, List.getElem?_cons_zero, List.getElem?_cons_succ, List.set_cons_zero, List.set_cons_succ, List.zip_cons_cons, List.foldl_cons, List.foldl_nil, List.zip_nil_left, Nat.reduceAdd, Nat.reduceSub, Nat.reduceMul, Nat.reduceLeDiff, Nat.reduceLT, Nat.reduceEqDiff, if_true, if_false, reduceIte, Bool.false_eq_true, wipeS, lim0, lim1, lim2, lim3, e1]
theorem b1_lines_ok (S : Sr) (n k wide : Nat) (rows : Mt.Tb T) (a b c : Option T) (i : Nat) (hi : i = rows.length) (hn : 0 < n) (hn2 : n ≤ 7) (hk : 0 < k) (hk2 : k ≤ 3) (hw : wide ≤ 2) (hi2 : i < 900) (hS : S.cells.length < 900)
    (hr : ∀ r ∈ rows, r.length = k ∧ ∀ e ∈ r, EntOk n wide e) : ∃ (r : List (Mt.Ent T)) (S' : Sr) (b' c' : Option T),
    b1__law_draw_lines (g__law_draw_entry g__law_pick) g__law_pick [some (.ref 0), some (.int (n : Nat)), some (.int (k : Nat)), some (.int (wide : Nat)), some (.ref 2), some (.int (i : Nat)), b, c] (srcM S ++ [.lst (rows.map encL)]) =
      .nx [some (.ref 0), some (.int (n : Nat)), some (.int (k : Nat)), some (.int (wide : Nat)), some (.ref 2), some (.int (i : Nat)), b', c'] (srcM S' ++ [.lst ((rows ++ [r]).map encL)]) ∧ (r.length = k ∧ ∀ e ∈ r, EntOk n wide e) ∧ S'.cells.length ≤ S.cells.length := by
  unfold b1__law_draw_lines
  simp only [fnRes, startS, fSeq, fNext, fIfS, fSet, fAsg, gNm, gNms, fPar, fPar3, fRet, fRetN, fDrop, fBreak, fFor, fWhile, fVar, fC, fB, fOp, fAnd, fOr, fNot, fAndV, fOrV, fNotV, fIf, fTup, fLst, fNew, aNil, aCons, aStar, fIx, fSl, oNone, oSome, fCB, fCall, fMt, fPut, fNeg, fChain, fLcG, fLc2G, fRevL, iSeq, iR1, iR2, iEnumF, o1, gYes, endL, Res.bind_ok, Res.st_ok, Res.noex_ok, SRes.seq_nx, SRes.seq_rt, SRes.seq_bk, SRes.turn_nx, SRes.turn_rt, SRes.turn_bk, SRes.res, List.map_cons, List.map_nil, List.length_cons, List.length_nil, List.cons_append, List.nil_append, List.append_nil, List.replicate, List.getElem?_cons_zero, List.getElem?_cons_succ, List.set_cons_zero, List.set_cons_succ, List.zip_cons_cons, List.foldl_cons, List.foldl_nil, List.zip_nil_left, Nat.reduceAdd, Nat.reduceSub, Nat.reduceMul, Nat.reduceLeDiff, Nat.reduceLT, Nat.reduceEqDiff, if_true, if_false, reduceIte, Bool.false_eq_true, wipeS, lim0, lim1, lim2, lim3]
  rw [rangeS (n := (k : Int)) (by omega) (by omega)]
  simp only [fnRes, startS, fSeq, fNext, fIfS, fSet, fAsg, gNm, gNms, fPar, fPar3, fRet, fRetN, fDrop, fBreak, fFor, fWhile, fVar, fC, fB, fOp, fAnd, fOr, fNot, fAndV, fOrV, fNotV, fIf, fTup, fLst, fNew, aNil, aCons, aStar, fIx, fSl, oNone, oSome, fCB, fCall, fMt, fPut, fNeg, fChain, fLcG, fLc2G, fRevL, iSeq, iR1, iR2, iEnumF, o1, gYes, endL, Res.bind_ok, Res.st_ok, Res.noex_ok, SRes.seq_nx, SRes.seq_rt, SRes.seq_bk, SRes.turn_nx, SRes.turn_rt, SRes.turn_bk, SRes.res, List.map_cons, List.map_nil, List.length_cons, List.length_nil, List.cons_append, List.nil_append, List.append_nil, List.replicate, List.getElem?_cons_zero, List.getElem?_cons_succ, List.set_cons_zero, List.set_cons_succ, List.zip_cons_cons, List.foldl_cons, List.foldl_nil, List.zip_nil_left, Nat.reduceAdd, Nat.reduceSub, Nat.reduceMul, Nat.reduceLeDiff, Nat.reduceLT, Nat.reduceEqDiff, if_true, if_false, reduceIte, Bool.false_eq_true, wipeS, lim0, lim1, lim2, lim3]
  obtain ⟨us, M2, e2, ⟨S2, es, rfl, rfl, q2, hu⟩, hl⟩ := lc_run (x := ⟨rangeT 0 ((k : Int)).toNat, none, []⟩) (G := gNm 7) (te := e1__law_draw_lines (g__law_draw_entry g__law_pick) g__law_pick) (s := [some (.ref 0), some (.int (n : Nat)), some (.int (k : Nat)), some (.int (wide : Nat)), some (.ref 2), some (.int (i : Nat)), b, none])
      (fun _ acc M => ∃ (S' : Sr) (es : List (Mt.Ent T)), M = srcM S' ++ [.lst (rows.map encL)] ∧ acc = es.map encE ∧ S'.cells.length ≤ S.cells.length ∧ ∀ e ∈ es, EntOk n wide e) rfl (rangeT 0 ((k : Int)).toNat) 0 [] (srcM S ++ [.lst (rows.map encL)]) (by
        rintro i' y hy acc M ⟨S', es, rfl, rfl, hl', hacc⟩
        obtain ⟨v, S2, f1, f2, f3⟩ := e1_lines_ok S' [.lst (rows.map encL)] n wide (some (.int (k : Nat))) [some (.ref 2), some (.int (i : Nat)), b, some y] hn hn2 hw (by omega)
        refine ⟨_, _, _, rfl, f1, S2, es ++ [v], rfl, by simp, by omega, fun u hu => ?_⟩
        rcases List.mem_append.mp hu with hu | hu
        · exact hacc u hu
        · rw [List.mem_singleton.mp hu]
          exact f2) ⟨S, [], rfl, rfl, Nat.le_refl _, fun v hv => nomatch hv⟩ (by rw [rangeT_len]; unfold lim; simp; omega)
  have hes : es.length = k := by
    have := hl
    rw [List.length_map, rangeT_len] at this
    simpa using this
  rw [e2]
  simp only [fnRes, startS, fSeq, fNext, fIfS, fSet, fAsg, gNm, gNms, fPar, fPar3, fRet, fRetN, fDrop, fBreak, fFor, fWhile, fVar, fC, fB, fOp, fAnd, fOr, fNot, fAndV, fOrV, fNotV, fIf, fTup, fLst, fNew, aNil, aCons, aStar, fIx, fSl, oNone, oSome, fCB, fCall, fMt, fPut, fNeg, fChain, fLcG, fLc2G, fRevL, iSeq, iR1, iR2, iEnumF, o1, gYes, endL, Res.bind_ok, Res.st_ok, Res.noex_ok, SRes.seq_nx, SRes.seq_rt, SRes.seq_bk, SRes.turn_nx, SRes.turn_rt, SRes.turn_bk, SRes.res, List.map_cons, List.map_nil, List.length_cons, List.length_nil, List.cons_append, List.nil_append, List.append_nil, List.replicate, List.getElem?_cons_zero, List.getElem?_cons_succ, List.set_cons_zero, List.set_cons_succ, List.zip_cons_cons, List.foldl_cons, List.foldl_nil, List.zip_nil_left, Nat.reduceAdd, Nat.reduceSub, Nat.reduceMul, Nat.reduceLeDiff, Nat.reduceLT, Nat.reduceEqDiff, if_true, if_false, reduceIte, Bool.false_eq_true, wipeS, lim0, lim1, lim2, lim3, oTuple, items, i_gt]
  have done : ∀ (S3 : Sr) (r : List (Mt.Ent T)), oAppend (.ref 2) [encL r] (srcM S3 ++ [.lst (rows.map encL)]) = .ok .non (srcM S3 ++ [.lst ((rows ++ [r]).map encL)]) := fun S3 r => by
    rw [app_cell _ _ _ (by rw [List.length_map]; unfold lim; omega)]
    simp
  by_cases h0 : (0 : Int) < (i : Int)
  · rw [decide_eq_true h0]
    obtain ⟨r2, S3, e3, _, q3⟩ := pick_I S2 [.lst (rows.map encL)] 2 (by decide) (by decide) (by omega)
    simp only [fnRes, startS, fSeq, fNext, fIfS, fSet, fAsg, gNm, gNms, fPar, fPar3, fRet, fRetN, fDrop, fBreak, fFor, fWhile, fVar, fC, fB, fOp, fAnd, fOr, fNot, fAndV, fOrV, fNotV, fIf, fTup, fLst, fNew, aNil, aCons, aStar, fIx, fSl, oNone, oSome, fCB, fCall, fMt, fPut, fNeg, fChain, fLcG, fLc2G, fRevL, iSeq, iR1, iR2, iEnumF, o1, gYes, endL, Res.bind_ok, Res.st_ok, Res.noex_ok, SRes.seq_nx, SRes.seq_rt, SRes.seq_bk, SRes.turn_nx, SRes.turn_rt, SRes.turn_bk, SRes.res, List.map_cons, List.map_nil, List.length_cons, List.length_nil, List.cons_append, List.nil_append, List.append_nil, List.replicate, List.getElem?_cons_zero, List.getElem?_cons_succ, List.set_cons_zero, List.set_cons_succ, List.zip_cons_cons, List.foldl_cons, List.foldl_nil, List.zip_nil_left, Nat.reduceAdd, Nat.reduceSub, Nat.reduceMul, Nat.reduceLeDiff, Nat.reduceLT, Nat.reduceEqDiff, if_true, if_false, reduceIte, Bool.false_eq_true, wipeS, lim0, lim1, lim2, lim3, e3, i_eq]
    by_cases h1 : (r2 : Int) = 0
    · rw [decide_eq_true h1]
      obtain ⟨r3, S4, e4, hr3, q4⟩ := pick_I S3 [.lst (rows.map encL)] (i : Int) (by omega) (by omega) (by omega)
      simp only [fnRes, startS, fSeq, fNext, fIfS, fSet, fAsg, gNm, gNms, fPar, fPar3, fRet, fRetN, fDrop, fBreak, fFor, fWhile, fVar, fC, fB, fOp, fAnd, fOr, fNot, fAndV, fOrV, fNotV, fIf, fTup, fLst, fNew, aNil, aCons, aStar, fIx, fSl, oNone, oSome, fCB, fCall, fMt, fPut, fNeg, fChain, fLcG, fLc2G, fRevL, iSeq, iR1, iR2, iEnumF, o1, gYes, endL, Res.bind_ok, Res.st_ok, Res.noex_ok, SRes.seq_nx, SRes.seq_rt, SRes.seq_bk, SRes.turn_nx, SRes.turn_rt, SRes.turn_bk, SRes.res, List.map_cons, List.map_nil, List.length_cons, List.length_nil, List.cons_append, List.nil_append, List.append_nil, List.replicate, List.getElem?_cons_zero, List.getElem?_cons_succ, List.set_cons_zero, List.set_cons_succ, List.zip_cons_cons, List.foldl_cons, List.foldl_nil, List.zip_nil_left, Nat.reduceAdd, Nat.reduceSub, Nat.reduceMul, Nat.reduceLeDiff, Nat.reduceLT, Nat.reduceEqDiff, if_true, if_false, reduceIte, Bool.false_eq_true, wipeS, lim0, lim1, lim2, lim3, e4]
      have hlt : r3 < rows.length := by omega
      rw [ix_cell S4 (rows.map encL) r3 (encL rows[r3]) (by rw [List.getElem?_map, List.getElem?_eq_getElem hlt]; rfl)]
      simp only [fnRes, startS, fSeq, fNext, fIfS, fSet, fAsg, gNm, gNms, fPar, fPar3, fRet, fRetN, fDrop, fBreak, fFor, fWhile, fVar, fC, fB, fOp, fAnd, fOr, fNot, fAndV, fOrV, fNotV, fIf, fTup, fLst, fNew, aNil, aCons, aStar, fIx, fSl, oNone, oSome, fCB, fCall, fMt, fPut, fNeg, fChain, fLcG, fLc2G, fRevL, iSeq, iR1, iR2, iEnumF, o1, gYes, endL, Res.bind_ok, Res.st_ok, Res.noex_ok, SRes.seq_nx, SRes.seq_rt, SRes.seq_bk, SRes.turn_nx, SRes.turn_rt, SRes.turn_bk, SRes.res, List.map_cons, List.map_nil, List.length_cons, List.length_nil, List.cons_append, List.nil_append, List.append_nil, List.replicate, List.getElem?_cons_zero, List.getElem?_cons_succ, List.set_cons_zero, List.set_cons_succ, List.zip_cons_cons, List.foldl_cons, List.foldl_nil, List.zip_nil_left, Nat.reduceAdd, Nat.reduceSub, Nat.reduceMul, Nat.reduceLeDiff, Nat.reduceLT, Nat.reduceEqDiff, if_true, if_false, reduceIte, Bool.false_eq_true, wipeS, lim0, lim1, lim2, lim3, ty_cell, done]
      exact ⟨rows[r3], S4, _, _, rfl, hr _ (List.getElem_mem hlt), by omega⟩
    · rw [decide_eq_false h1]
      simp only [fnRes, startS, fSeq, fNext, fIfS, fSet, fAsg, gNm, gNms, fPar, fPar3, fRet, fRetN, fDrop, fBreak, fFor, fWhile, fVar, fC, fB, fOp, fAnd, fOr, fNot, fAndV, fOrV, fNotV, fIf, fTup, fLst, fNew, aNil, aCons, aStar, fIx, fSl, oNone, oSome, fCB, fCall, fMt, fPut, fNeg, fChain, fLcG, fLc2G, fRevL, iSeq, iR1, iR2, iEnumF, o1, gYes, endL, Res.bind_ok, Res.st_ok, Res.noex_ok, SRes.seq_nx, SRes.seq_rt, SRes.seq_bk, SRes.turn_nx, SRes.turn_rt, SRes.turn_bk, SRes.res, List.map_cons, List.map_nil, List.length_cons, List.length_nil, List.cons_append, List.nil_append, List.append_nil, List.replicate, List.getElem?_cons_zero, List.getElem?_cons_succ, List.set_cons_zero, List.set_cons_succ, List.zip_cons_cons, List.foldl_cons, List.foldl_nil, List.zip_nil_left, Nat.reduceAdd, Nat.reduceSub, Nat.reduceMul, Nat.reduceLeDiff, Nat.reduceLT, Nat.reduceEqDiff, if_true, if_false, reduceIte, Bool.false_eq_true, wipeS, lim0, lim1, lim2, lim3, ty_cell]
      rw [show T.tup (es.map encE) = encL es from rfl, done]
      simp only [fnRes, startS, fSeq, fNext, fIfS, fSet, fAsg, gNm, gNms, fPar, fPar3, fRet, fRetN, fDrop, fBreak, fFor, fWhile, fVar, fC, fB, fOp, fAnd, fOr, fNot, fAndV, fOrV, fNotV, fIf, fTup, fLst, fNew, aNil, aCons, aStar, fIx, fSl, oNone, oSome, fCB, fCall, fMt, fPut, fNeg, fChain, fLcG, fLc2G, fRevL, iSeq, iR1, iR2, iEnumF, o1, gYes, endL, Res.bind_ok, Res.st_ok, Res.noex_ok, SRes.seq_nx, SRes.seq_rt, SRes.seq_bk, SRes.turn_nx, SRes.turn_rt, SRes.turn_bk, SRes.res, List.map_cons, List.map_nil, List.length_cons, List.length_nil, List.cons_append, List.nil_append, List.append_nil, List.replicate, List.getElem?_cons_zero, List.getElem?_cons_succ, List.set_cons_zero, List.set_cons_succ, List.zip_cons_cons, List.foldl_cons, List.foldl_nil, List.zip_nil_left, Nat.reduceAdd, Nat.reduceSub, Nat.reduceMul, Nat.reduceLeDiff, Nat.reduceLT, Nat.reduceEqDiff, if_true, if_false, reduceIte, Bool.false_eq_true, wipeS, lim0, lim1, lim2, lim3]
      exact ⟨es, S3, _, _, rfl, ⟨hes, hu⟩, by omega⟩
  · rw [decide_eq_false h0]
    simp only [fnRes, startS, fSeq, fNext, fIfS, fSet, fAsg, gNm, gNms, fPar, fPar3, fRet, fRetN, fDrop, fBreak, fFor, fWhile, fVar, fC, fB, fOp, fAnd, fOr, fNot, fAndV, fOrV, fNotV, fIf, fTup, fLst, fNew, aNil, aCons, aStar, fIx, fSl, oNone, oSome, fCB, fCall, fMt, fPut, fNeg, fChain, fLcG, fLc2G, fRevL, iSeq, iR1, iR2, iEnumF, o1, gYes, endL, Res.bind_ok, Res.st_ok, Res.noex_ok, SRes.seq_nx, SRes.seq_rt, SRes.seq_bk, SRes.turn_nx, SRes.turn_rt, SRes.turn_bk, SRes.res, List.map_cons, List.map_nil, List.length_cons, List.length_nil, List.cons_append, List.nil_append, List.append_nil, List.replicate, List.getElem?_cons_zero, List.getElem?_cons_succ, List.set_cons_zero, List.set_cons_succ, List.zip_cons_cons, List.foldl_cons, List.foldl_nil, List.zip_nil_left, Nat.reduceAdd, Nat.reduceSub, Nat.reduceMul, Nat.reduceLeDiff, Nat.reduceLT, Nat.reduceEqDiff, if_true, if_false, reduceIte, Bool.false_eq_true, wipeS, lim0, lim1, lim2, lim3, ty_cell]
    rw [show T.tup (es.map encE) = encL es from rfl, done]
    simp only [fnRes, startS, fSeq, fNext, fIfS, fSet, fAsg, gNm, gNms, fPar, fPar3, fRet, fRetN, fDrop, fBreak, fFor, fWhile, fVar, fC, fB, fOp, fAnd, fOr, fNot, fAndV, fOrV, fNotV, fIf, fTup, fLst, fNew, aNil, aCons, aStar, fIx, fSl, oNone, oSome, fCB, fCall, fMt, fPut, fNeg, fChain, fLcG, fLc2G, fRevL, iSeq, iR1, iR2, iEnumF, o1, gYes, endL, Res.bind_ok, Res.st_ok, Res.noex_ok, SRes.seq_nx, SRes.seq_rt, SRes.seq_bk, SRes.turn_nx, SRes.turn_rt, SRes.turn_bk, SRes.res, List.map_cons, List.map_nil, List.length_cons, List.length_nil, List.cons_append, List.nil_append, List.append_nil, List.replicate, List.getElem?_cons_zero, List.getElem?_cons_succ, List.set_cons_zero, List.set_cons_succ, List.zip_cons_cons, List.foldl_cons, List.foldl_nil, List.zip_nil_left, Nat.reduceAdd, Nat.reduceSub, Nat.reduceMul, Nat.reduceLeDiff, Nat.reduceLT, Nat.reduceEqDiff, if_true, if_false, reduceIte, Bool.false_eq_true, wipeS, lim0, lim1, lim2, lim3]
    exact ⟨es, S2, _, _, rfl, ⟨hes, hu⟩, by omega⟩
/-- a table is drawn -/
theorem lines_ok (S : Sr) (n k wide : Nat) (hn : 0 < n) (hn2 : n ≤ 7) (hk : 0 < k) (hk2 : k ≤ 3) (hw : wide ≤ 2) (hS : S.cells.length < 900) : ∃ (t : Mt.Tb T) (S' : Sr),
    cln (g__law_draw_lines (g__law_draw_entry g__law_pick) g__law_pick) [.ref 0, .int (n : Nat), .int (k : Nat), .int (wide : Nat)] (srcM S) = .ok (encT t) (srcM S') ∧ TabOk n k wide t ∧ S'.cells.length ≤ S.cells.length := by
  obtain ⟨s', M', e1, ⟨S', t, a, b, c, rfl, rfl, hl, hr, hS'⟩⟩ := for_run (x := ⟨rangeT 0 ((n : Int)).toNat, none, []⟩) (G := gNm 5) (B := b1__law_draw_lines (g__law_draw_entry g__law_pick) g__law_pick)
    (fun i s M => ∃ (S' : Sr) (rows : Mt.Tb T) (a b c : Option T), s = [some (.ref 0), some (.int (n : Nat)), some (.int (k : Nat)), some (.int (wide : Nat)), some (.ref 2), a, b, c] ∧ M = srcM S' ++ [.lst (rows.map encL)] ∧ rows.length = i ∧ (∀ r ∈ rows, r.length = k ∧ ∀ e ∈ r, EntOk n wide e) ∧ S'.cells.length ≤ S.cells.length)
    rfl (rangeT 0 ((n : Int)).toNat) 0 [some (.ref 0), some (.int (n : Nat)), some (.int (k : Nat)), some (.int (wide : Nat)), some (.ref 2), none, none, none] (srcM S ++ [.lst []]) (by
      rintro i y hy s M ⟨S', rows, a, b, c, rfl, rfl, hl, hr, hS'⟩
      obtain ⟨hi, rfl⟩ := rangeT_get hy
      obtain ⟨r, S2, b', c', f1, f2, f3⟩ := b1_lines_ok S' n k wide rows (some (.int (i : Nat))) b c i (by omega) hn hn2 hk hk2 hw (by omega) (by omega) hr
      rw [Int.zero_add]
      refine ⟨_, _, _, rfl, f1, S2, rows ++ [r], _, b', c', rfl, rfl, by rw [List.length_append]; simp; omega, fun r' hr' => ?_, by omega⟩
      · rcases List.mem_append.mp hr' with h | h
        · exact hr r' h
        · rw [List.mem_singleton.mp h]
          exact f2) ⟨S, [], none, none, none, rfl, rfl, rfl, fun r hr => (nomatch hr), Nat.le_refl _⟩
  have hpl := tab_pl (t := t) (n := n) (w := wide) fun r h => (hr r h).2
  refine ⟨t, S', cln_ok (J := [.lst (t.map encL)]) (v := encT t) ?_ rfl (.same (pl_clo _ 5 _ hpl)) (src_clo S'), ⟨?_, hn, hn2, hk, hk2, hw, fun r h => (hr r h).1, fun r h => (hr r h).2⟩, hS'⟩
  · unfold g__law_draw_lines F__law_draw_lines
    simp only [fnRes, startS, fSeq, fNext, fIfS, fSet, fAsg, gNm, gNms, fPar, fPar3, fRet, fRetN, fDrop, fBreak, fFor, fWhile, fVar, fC, fB, fOp, fAnd, fOr, fNot, fAndV, fOrV, fNotV, fIf, fTup, fLst, fNew, aNil, aCons, aStar, fIx, fSl, oNone, oSome, fCB, fCall, fMt, fPut, fNeg, fChain, fLcG, fLc2G, fRevL, iSeq, iR1, iR2, iEnumF, o1, gYes, endL, Res.bind_ok, Res.st_ok, Res.noex_ok, SRes.seq_nx, SRes.seq_rt, SRes.seq_bk, SRes.turn_nx, SRes.turn_rt, SRes.turn_bk, SRes.res, List.map_cons, List.map_nil, List.length_cons, List.length_nil, List.cons_append, List.nil_append, List.append_nil, List.replicate, List.getElem?_cons_zero, List.getElem?_cons_succ, List.set_cons_zero, List.set_cons_succ, List.zip_cons_cons, List.foldl_cons, List.foldl_nil, List.zip_nil_left, Nat.reduceAdd, Nat.reduceSub, Nat.reduceMul, Nat.reduceLeDiff, Nat.reduceLT, Nat.reduceEqDiff, if_true, if_false, reduceIte, Bool.false_eq_true, wipeS, lim0, lim1, lim2, lim3, ref2]
    rw [rangeS (n := (n : Int)) (by omega) (by omega)]
    simp only [fnRes, startS, fSeq, fNext, fIfS, fSet, fAsg, gNm, gNms, fPar, fPar3, fRet, fRetN, fDrop, fBreak, fFor, fWhile, fVar, fC, fB, fOp, fAnd, fOr, fNot, fAndV, fOrV, fNotV, fIf, fTup, fLst, fNew, aNil, aCons, aStar, fIx, fSl, oNone, oSome, fCB, fCall, fMt, fPut, fNeg, fChain, fLcG, fLc2G, fRevL, iSeq, iR1, iR2, iEnumF, o1, gYes, endL, Res.bind_ok, Res.st_ok, Res.noex_ok, SRes.seq_nx, SRes.seq_rt, SRes.seq_bk, SRes.turn_nx, SRes.turn_rt, SRes.turn_bk, SRes.res, List.map_cons, List.map_nil, List.length_cons, List.length_nil, List.cons_append, List.nil_append, List.append_nil, List.replicate, List.getElem?_cons_zero, List.getElem?_cons_succ, List.set_cons_zero, List.set_cons_succ, List.zip_cons_cons, List.foldl_cons, List.foldl_nil, List.zip_nil_left, Nat.reduceAdd, Nat.reduceSub, Nat.reduceMul, Nat.reduceLeDiff, Nat.reduceLT, Nat.reduceEqDiff, if_true, if_false, reduceIte, Bool.false_eq_true, wipeS, lim0, lim1, lim2, lim3]
    rw [e1]
    simp only [fnRes, startS, fSeq, fNext, fIfS, fSet, fAsg, gNm, gNms, fPar, fPar3, fRet, fRetN, fDrop, fBreak, fFor, fWhile, fVar, fC, fB, fOp, fAnd, fOr, fNot, fAndV, fOrV, fNotV, fIf, fTup, fLst, fNew, aNil, aCons, aStar, fIx, fSl, oNone, oSome, fCB, fCall, fMt, fPut, fNeg, fChain, fLcG, fLc2G, fRevL, iSeq, iR1, iR2, iEnumF, o1, gYes, endL, Res.bind_ok, Res.st_ok, Res.noex_ok, SRes.seq_nx, SRes.seq_rt, SRes.seq_bk, SRes.turn_nx, SRes.turn_rt, SRes.turn_bk, SRes.res, List.map_cons, List.map_nil, List.length_cons, List.length_nil, List.cons_append, List.nil_append, List.append_nil, List.replicate, List.getElem?_cons_zero, List.getElem?_cons_succ, List.set_cons_zero, List.set_cons_succ, List.zip_cons_cons, List.foldl_cons, List.foldl_nil, List.zip_nil_left, Nat.reduceAdd, Nat.reduceSub, Nat.reduceMul, Nat.reduceLeDiff, Nat.reduceLT, Nat.reduceEqDiff, if_true, if_false, reduceIte, Bool.false_eq_true, wipeS, lim0, lim1, lim2, lim3, tup_cell]
    rfl
  · rw [hl, rangeT_len]
    simp
end Fl
set_option Elab.async false
set_option linter.all false
set_option maxRecDepth 100000
set_option maxHeartbeats 4000000
/-! P4: any order, tables shuffled, the cells opened. -/
namespace Fl
open PySem PySem.Spec PyProof.Rows L2

theorem pop_cell (S : Sr) (us : List T) (r : Nat) (y : T) (h : us[r]? = some y) (hr : r < 1000) : oPopAt (.ref 2) [.int (r : Nat)] (srcM S ++ [.lst us]) = .ok y (srcM S ++ [.lst (us.eraseIdx r)]) := by
  show (if 0 ≤ (r : Int) ∧ ((r : Int)).toNat < 4611686018427387904 then _ else _) = _
  rw [if_pos ⟨by omega, by omega⟩, Int.toNat_natCast, h]
  rfl
theorem erase_mem {us : List T} {r : Nat} {y : T} (h : us[r]? = some y) (acc : List T) (t : T) : t ∈ acc ++ [y] ++ us.eraseIdx r ↔ t ∈ acc ++ us := by
  obtain ⟨hr, e⟩ := List.getElem?_eq_some_iff.mp h
  have hp : t ∈ us ↔ t = y ∨ t ∈ us.eraseIdx r := by
    rw [List.eraseIdx_eq_take_drop_succ]
    have := List.take_append_drop r us
    rw [List.drop_eq_getElem_cons hr, e] at this
    constructor
    · intro ht
      rw [← this] at ht
      rcases List.mem_append.mp ht with h | h
      · exact .inr (List.mem_append_left _ h)
      · rcases List.mem_cons.mp h with h | h
        · exact .inl h
        · exact .inr (List.mem_append_right _ h)
    · intro ht
      rw [← this]
      rcases ht with h | h
      · exact List.mem_append_right _ (List.mem_cons.mpr (.inl h))
      · rcases List.mem_append.mp h with h | h
        · exact List.mem_append_left _ h
        · exact List.mem_append_right _ (List.mem_cons_of_mem _ h)
  simp only [List.mem_append, List.mem_singleton]
  rw [hp]
  constructor
  · rintro ((h | h) | h)
    · exact .inl h
    · exact .inr (.inl h)
    · exact .inr (.inr h)
  · rintro (h | h | h)
    · exact .inl (.inl h)
    · exact .inl (.inr h)
    · exact .inr h
theorem order_ok (S : Sr) (things : List T) (hl : things.length < 100) (hpl : T.pls 3 things = true) (hS : S.cells.length < 900) : ∃ (us : List T) (S' : Sr), cln (g__law_any_order g__law_pick) [.ref 0, .lst things] (srcM S) = .ok (.lst us) (srcM S') ∧
    (∀ t, t ∈ us ↔ t ∈ things) ∧ us.length = things.length ∧ S'.cells.length ≤ S.cells.length := by
  obtain ⟨us, M2, e2, ⟨S2, rest, rfl, q1, q2, q3⟩, hl2⟩ := lc_run (x := ⟨rangeT 0 ((things.length : Int)).toNat, none, []⟩) (G := gNm 3) (te := e1__law_any_order g__law_pick) (s := [some (.ref 0), some (.lst things), some (.ref 2), none])
    (fun i acc M => ∃ (S' : Sr) (rest : List T), M = srcM S' ++ [.lst rest] ∧ S'.cells.length ≤ S.cells.length ∧ i + rest.length = things.length ∧ ∀ t, t ∈ acc ++ rest ↔ t ∈ things) rfl (rangeT 0 ((things.length : Int)).toNat) 0 [] (srcM S ++ [.lst things]) (by
      rintro i y hy acc M ⟨S', rest, rfl, p1, p2, p3⟩
      obtain ⟨hi, _⟩ := rangeT_get hy
      obtain ⟨r, S3, e3, hr, q3⟩ := pick_I S' [.lst rest] (rest.length : Int) (by omega) (by omega) (by omega)
      have hlt : r < rest.length := by omega
      have hg := List.getElem?_eq_getElem hlt
      refine ⟨_, rest[r], srcM S3 ++ [.lst (rest.eraseIdx r)], rfl, ?_, S3, rest.eraseIdx r, rfl, by omega, ?_, fun t => ?_⟩
      · unfold e1__law_any_order
        simp only [fnRes, startS, fSeq, fNext, fIfS, fSet, fAsg, gNm, gNms, fPar, fPar3, fRet, fRetN, fDrop, fBreak, fFor, fWhile, fVar, fC, fB, fOp, fAnd, fOr, fNot, fAndV, fOrV, fNotV, fIf, fTup, fLst, fNew, aNil, aCons, aStar, fIx, fSl, oNone, oSome, fCB, fCall, fMt, fPut, fNeg, fChain, fLcG, fLc2G, fRevL, iSeq, iR1, iR2, iEnumF, o1, gYes, endL, Res.bind_ok, Res.st_ok, Res.noex_ok, SRes.seq_nx, SRes.seq_rt, SRes.seq_bk, SRes.turn_nx, SRes.turn_rt, SRes.turn_bk, SRes.res, List.map_cons, List.map_nil, List.length_cons, List.length_nil, List.cons_append, List.nil_append, List.append_nil, List.replicate, List.getElem?_cons_zero, List.getElem?_cons_succ, List.set_cons_zero, List.set_cons_succ, List.zip_cons_cons, List.foldl_cons, List.foldl_nil, List.zip_nil_left, Nat.reduceAdd, Nat.reduceSub, Nat.reduceMul, Nat.reduceLeDiff, Nat.reduceLT, Nat.reduceEqDiff, if_true, if_false, reduceIte, Bool.false_eq_true, wipeS, lim0, lim1, lim2, lim3, ty_cell, len_cell, e3]
        rw [pop_cell S3 rest r _ hg (by omega)]
      · rw [List.length_eraseIdx_of_lt hlt]
        omega
      · rw [erase_mem hg]
        exact p3 t) ⟨S, things, rfl, Nat.le_refl _, by omega, fun t => by simp⟩ (by rw [rangeT_len]; unfold lim; simp; omega)
  have hrest : rest = [] := by
    rw [rangeT_len] at q2
    exact List.eq_nil_of_length_eq_zero (by omega)
  subst hrest
  have hm : ∀ t, t ∈ us ↔ t ∈ things := fun t => by
    have := q3 t
    simpa using this
  have hup : T.pls 3 us = true := (pls_iff 3 _).mpr fun t ht => (pls_iff 3 _).mp hpl t ((hm t).mp ht)
  refine ⟨us, S2, cln_ok (J := [.lst []]) (v := .lst us) ?_ rfl (.same (by simp only [T.clo]; exact pls_clo us 3 _ hup)) (src_clo S2), hm, ?_, q1⟩
  · unfold g__law_any_order F__law_any_order
    simp only [fnRes, startS, fSeq, fNext, fIfS, fSet, fAsg, gNm, gNms, fPar, fPar3, fRet, fRetN, fDrop, fBreak, fFor, fWhile, fVar, fC, fB, fOp, fAnd, fOr, fNot, fAndV, fOrV, fNotV, fIf, fTup, fLst, fNew, aNil, aCons, aStar, fIx, fSl, oNone, oSome, fCB, fCall, fMt, fPut, fNeg, fChain, fLcG, fLc2G, fRevL, iSeq, iR1, iR2, iEnumF, o1, gYes, endL, Res.bind_ok, Res.st_ok, Res.noex_ok, SRes.seq_nx, SRes.seq_rt, SRes.seq_bk, SRes.turn_nx, SRes.turn_rt, SRes.turn_bk, SRes.res, List.map_cons, List.map_nil, List.length_cons, List.length_nil, List.cons_append, List.nil_append, List.append_nil, List.replicate, List.getElem?_cons_zero, List.getElem?_cons_succ, List.set_cons_zero, List.set_cons_succ, List.zip_cons_cons, List.foldl_cons, List.foldl_nil, List.zip_nil_left, Nat.reduceAdd, Nat.reduceSub, Nat.reduceMul, Nat.reduceLeDiff, Nat.reduceLT, Nat.reduceEqDiff, if_true, if_false, reduceIte, Bool.false_eq_true, wipeS, lim0, lim1, lim2, lim3]
    rw [show oListN [.lst things] (srcM S) = .ok (.ref 2) (srcM S ++ [.lst things]) from rfl]
    simp only [fnRes, startS, fSeq, fNext, fIfS, fSet, fAsg, gNm, gNms, fPar, fPar3, fRet, fRetN, fDrop, fBreak, fFor, fWhile, fVar, fC, fB, fOp, fAnd, fOr, fNot, fAndV, fOrV, fNotV, fIf, fTup, fLst, fNew, aNil, aCons, aStar, fIx, fSl, oNone, oSome, fCB, fCall, fMt, fPut, fNeg, fChain, fLcG, fLc2G, fRevL, iSeq, iR1, iR2, iEnumF, o1, gYes, endL, Res.bind_ok, Res.st_ok, Res.noex_ok, SRes.seq_nx, SRes.seq_rt, SRes.seq_bk, SRes.turn_nx, SRes.turn_rt, SRes.turn_bk, SRes.res, List.map_cons, List.map_nil, List.length_cons, List.length_nil, List.cons_append, List.nil_append, List.append_nil, List.replicate, List.getElem?_cons_zero, List.getElem?_cons_succ, List.set_cons_zero, List.set_cons_succ, List.zip_cons_cons, List.foldl_cons, List.foldl_nil, List.zip_nil_left, Nat.reduceAdd, Nat.reduceSub, Nat.reduceMul, Nat.reduceLeDiff, Nat.reduceLT, Nat.reduceEqDiff, if_true, if_false, reduceIte, Bool.false_eq_true, wipeS, lim0, lim1, lim2, lim3, len_cell]
    rw [rangeS (n := (things.length : Int)) (by omega) (by omega)]
    simp only [fnRes, startS, fSeq, fNext, fIfS, fSet, fAsg, gNm, gNms, fPar, fPar3, fRet, fRetN, fDrop, fBreak, fFor, fWhile, fVar, fC, fB, fOp, fAnd, fOr, fNot, fAndV, fOrV, fNotV, fIf, fTup, fLst, fNew, aNil, aCons, aStar, fIx, fSl, oNone, oSome, fCB, fCall, fMt, fPut, fNeg, fChain, fLcG, fLc2G, fRevL, iSeq, iR1, iR2, iEnumF, o1, gYes, endL, Res.bind_ok, Res.st_ok, Res.noex_ok, SRes.seq_nx, SRes.seq_rt, SRes.seq_bk, SRes.turn_nx, SRes.turn_rt, SRes.turn_bk, SRes.res, List.map_cons, List.map_nil, List.length_cons, List.length_nil, List.cons_append, List.nil_append, List.append_nil, List.replicate, List.getElem?_cons_zero, List.getElem?_cons_succ, List.set_cons_zero, List.set_cons_succ, List.zip_cons_cons, List.foldl_cons, List.foldl_nil, List.zip_nil_left, Nat.reduceAdd, Nat.reduceSub, Nat.reduceMul, Nat.reduceLeDiff, Nat.reduceLT, Nat.reduceEqDiff, if_true, if_false, reduceIte, Bool.false_eq_true, wipeS, lim0, lim1, lim2, lim3]
    rw [e2]
    simp only [fnRes, startS, fSeq, fNext, fIfS, fSet, fAsg, gNm, gNms, fPar, fPar3, fRet, fRetN, fDrop, fBreak, fFor, fWhile, fVar, fC, fB, fOp, fAnd, fOr, fNot, fAndV, fOrV, fNotV, fIf, fTup, fLst, fNew, aNil, aCons, aStar, fIx, fSl, oNone, oSome, fCB, fCall, fMt, fPut, fNeg, fChain, fLcG, fLc2G, fRevL, iSeq, iR1, iR2, iEnumF, o1, gYes, endL, Res.bind_ok, Res.st_ok, Res.noex_ok, SRes.seq_nx, SRes.seq_rt, SRes.seq_bk, SRes.turn_nx, SRes.turn_rt, SRes.turn_bk, SRes.res, List.map_cons, List.map_nil, List.length_cons, List.length_nil, List.cons_append, List.nil_append, List.append_nil, List.replicate, List.getElem?_cons_zero, List.getElem?_cons_succ, List.set_cons_zero, List.set_cons_succ, List.zip_cons_cons, List.foldl_cons, List.foldl_nil, List.zip_nil_left, Nat.reduceAdd, Nat.reduceSub, Nat.reduceMul, Nat.reduceLeDiff, Nat.reduceLT, Nat.reduceEqDiff, if_true, if_false, reduceIte, Bool.false_eq_true, wipeS, lim0, lim1, lim2, lim3]
  · rw [hl2, rangeT_len]
    simp
theorem firstAt_pl {y : T} (hy : T.pl 64 y = true) : ∀ {us : List T}, T.pls 63 us = true → firstAt y.data us = Mt.ixOf y us
  | [], _ => rfl
  | u :: us, h => by
    simp only [T.pls, Bool.and_eq_true] at h
    unfold firstAt Mt.ixOf
    rw [pl_eqvb h.1 hy, firstAt_pl hy h.2]
    by_cases e : u = y
    · rw [if_pos (decide_eq_true e), if_pos e]
    · rw [if_neg (by rw [decide_eq_false e]; decide), if_neg e]
theorem index_pl {y : T} {us : List T} {M : Mem} {j : Nat} (hy : T.pl 64 y = true) (h : T.pls 63 us = true) (e : Mt.ixOf y us = some j) : oIndex (.lst us) [y] M = .ok (.int (j : Nat)) M := by
  show (if (SeqAt.shaped y.data && SeqAt.shaped (.list (T.datas us))) = true then _ else _) = _
  rw [pl_shaped hy (Nat.le_refl _), pls_shaped h (Nat.le_refl _), if_pos (show (true && true) = true from rfl), firstAt_pl hy h, e]
theorem map_get {β : Type} (f : β → T) (us : List β) (i : Nat) (h : i < us.length) : (us.map f)[i]? = some (f us[i]) := by
  rw [List.getElem?_map, List.getElem?_eq_getElem h]
  rfl
theorem ix_tup (ts : List T) (i : Nat) (t : T) (M : Mem) (h : ts[i]? = some t) : oIx (.tup ts) (.int (i : Nat)) M = .ok t M := by
  show (match atI ts (i : Int) with
    | some t => Res.ok t _
    | none => .stuck) = _
  rw [atI_nat h]
theorem ix_lst (ts : List T) (i : Nat) (t : T) (M : Mem) (h : ts[i]? = some t) : oIx (.lst ts) (.int (i : Nat)) M = .ok t M := by
  show (match atI ts (i : Int) with
    | some t => Res.ok t _
    | none => .stuck) = _
  rw [atI_nat h]
/-! ### an entry's parts -/
theorem e_first {n w : Nat} {e : Mt.Ent T} (h : EntOk n w e) (M : Mem) : ∃ s : Str, oIx (encE e) (.int 0) M = .ok (.str s) M ∧ PyData.strOk s = true ∧ (s = "good" ↔ e.2.isSome = true) := by
  cases h with
  | clash => exact ⟨"clash", rfl, ok_clash, by decide +kernel⟩
  | stuck => exact ⟨"stuck", rfl, ok_stuck, by decide +kernel⟩
  | good h1 h2 h3 => exact ⟨"good", rfl, ok_good, by simp⟩
theorem e_good {n w : Nat} {e : Mt.Ent T} (h : EntOk n w e) (M : Mem) : (oIx (encE e) (.int 0) M).bind (fun a M1 => oEq a (.str "good") M1) = .ok (.bl e.2.isSome) M := by
  obtain ⟨s, h1, h2, h3⟩ := e_first h M
  rw [h1]
  simp only [Res.bind_ok]
  rw [eq_pl (by simpa [T.pl] using h2) (by simpa [T.pl] using ok_good)]
  congr 2
  rw [Bool.eq_iff_iff, decide_eq_true_eq, T.str.injEq, h3]
theorem e_lab {n w : Nat} {e : Mt.Ent T} (h : EntOk n w e) (M : Mem) : oSl (encE e) none (some 2) M = .ok e.1 M := by
  cases h with
  | clash => rfl
  | stuck => rfl
  | good h1 h2 h3 => rfl
theorem e_nx {n w : Nat} {e : Mt.Ent T} (h : EntOk n w e) {g : Nat} (hg : e.2 = some g) (M : Mem) : oIx (encE e) (.int 2) M = .ok (.int (g : Nat)) M := by
  cases h with
  | clash => cases hg
  | stuck => cases hg
  | good h1 h2 h3 =>
    cases hg
    rfl
theorem e_mk {n w : Nat} {e : Mt.Ent T} (h : EntOk n w e) (g : Nat) (hs : e.2.isSome = true) : ∃ ts, e.1 = .tup ts ∧ ts.length = 2 ∧ encE (e.1, some g) = .tup (ts ++ [.int (g : Nat)]) := by
  cases h with
  | clash => cases hs
  | stuck => cases hs
  | good h1 h2 h3 => exact ⟨_, rfl, rfl, rfl⟩
theorem e_set {n m w : Nat} {e : Mt.Ent T} (h : EntOk n w e) {g : Nat} (hg : g < m) (hs : e.2.isSome = true) : EntOk m w (e.1, some g) := by
  cases h with
  | clash => cases hs
  | stuck => cases hs
  | good h1 h2 h3 => exact .good h1 h2 hg
theorem e_bad {n m w : Nat} {e : Mt.Ent T} (h : EntOk n w e) (hs : e.2 = none) : EntOk m w e := by
  cases h with
  | clash => exact .clash
  | stuck => exact .stuck
  | good h1 h2 h3 => cases hs
/-! ### shuffled -/
theorem e1_shuf_ok (M : Mem) (n w : Nat) (e : Mt.Ent T) (ord : List T) (he : EntOk n w e) (hpl : T.pls 3 ord = true) (hm : ∀ g, g < n → T.int (g : Nat) ∈ ord) (a b c d f : Option T) : ∃ e' : Mt.Ent T,
    e1__law_shuffled (cln (g__law_any_order g__law_pick)) g__law_pick [a, b, some (.lst ord), c, d, f, some (encE e)] M = .ok (encE e') M ∧ EntOk ord.length w e' := by
  unfold e1__law_shuffled
  have hp : T.pls 63 ord = true := pls_mono ord 3 63 (by decide) hpl
  cases hs : e.2 with
  | none =>
    have h1 := e_good he M
    rw [hs] at h1
    simp only [fnRes, startS, fSeq, fNext, fIfS, fSet, fAsg, gNm, gNms, fPar, fPar3, fRet, fRetN, fDrop, fBreak, fFor, fWhile, fVar, fC, fB, fOp, fAnd, fOr, fNot, fAndV, fOrV, fNotV, fIf, fTup, fLst, fNew, aNil, aCons, aStar, fIx, fSl, oNone, oSome, fCB, fCall, fMt, fPut, fNeg, fChain, fLcG, fLc2G, fRevL, iSeq, iR1, iR2, iEnumF, o1, gYes, endL, Res.bind_ok, Res.st_ok, Res.noex_ok, SRes.seq_nx, SRes.seq_rt, SRes.seq_bk, SRes.turn_nx, SRes.turn_rt, SRes.turn_bk, SRes.res, List.map_cons, List.map_nil, List.length_cons, List.length_nil, List.cons_append, List.nil_append, List.append_nil, List.replicate, List.getElem?_cons_zero, List.getElem?_cons_succ, List.set_cons_zero, List.set_cons_succ, List.zip_cons_cons, List.foldl_cons, List.foldl_nil, List.zip_nil_left, Nat.reduceAdd, Nat.reduceSub, Nat.reduceMul, Nat.reduceLeDiff, Nat.reduceLT, Nat.reduceEqDiff, if_true, if_false, reduceIte, Bool.false_eq_true, wipeS, lim0, lim1, lim2, lim3]
    rw [h1]
    simp only [fnRes, startS, fSeq, fNext, fIfS, fSet, fAsg, gNm, gNms, fPar, fPar3, fRet, fRetN, fDrop, fBreak, fFor, fWhile, fVar, fC, fB, fOp, fAnd, fOr, fNot, fAndV, fOrV, fNotV, fIf, fTup, fLst, fNew, aNil, aCons, aStar, fIx, fSl, oNone, oSome, fCB, fCall, fMt, fPut, fNeg, fChain, fLcG, fLc2G, fRevL, iSeq, iR1, iR2, iEnumF, o1, gYes, endL, Res.bind_ok, Res.st_ok, Res.noex_ok, SRes.seq_nx, SRes.seq_rt, SRes.seq_bk, SRes.turn_nx, SRes.turn_rt, SRes.turn_bk, SRes.res, List.map_cons, List.map_nil, List.length_cons, List.length_nil, List.cons_append, List.nil_append, List.append_nil, List.replicate, List.getElem?_cons_zero, List.getElem?_cons_succ, List.set_cons_zero, List.set_cons_succ, List.zip_cons_cons, List.foldl_cons, List.foldl_nil, List.zip_nil_left, Nat.reduceAdd, Nat.reduceSub, Nat.reduceMul, Nat.reduceLeDiff, Nat.reduceLT, Nat.reduceEqDiff, if_true, if_false, reduceIte, Bool.false_eq_true, wipeS, lim0, lim1, lim2, lim3, Option.isSome_none]
    exact ⟨e, rfl, e_bad he hs⟩
  | some g =>
    have h1 := e_good he M
    rw [hs] at h1
    have hs' : e.2.isSome = true := by rw [hs]; rfl
    have hg : g < n := by
      cases he with
      | clash => cases hs
      | stuck => cases hs
      | good _ _ h3 => cases hs; exact h3
    obtain ⟨j, hj⟩ := Mt.ixOf_mem (hm g hg)
    obtain ⟨ts, t1, t2, t3⟩ := e_mk he j hs'
    have l1 : (1 : Nat) ≤ lim := by unfold lim; decide
    simp only [fnRes, startS, fSeq, fNext, fIfS, fSet, fAsg, gNm, gNms, fPar, fPar3, fRet, fRetN, fDrop, fBreak, fFor, fWhile, fVar, fC, fB, fOp, fAnd, fOr, fNot, fAndV, fOrV, fNotV, fIf, fTup, fLst, fNew, aNil, aCons, aStar, fIx, fSl, oNone, oSome, fCB, fCall, fMt, fPut, fNeg, fChain, fLcG, fLc2G, fRevL, iSeq, iR1, iR2, iEnumF, o1, gYes, endL, Res.bind_ok, Res.st_ok, Res.noex_ok, SRes.seq_nx, SRes.seq_rt, SRes.seq_bk, SRes.turn_nx, SRes.turn_rt, SRes.turn_bk, SRes.res, List.map_cons, List.map_nil, List.length_cons, List.length_nil, List.cons_append, List.nil_append, List.append_nil, List.replicate, List.getElem?_cons_zero, List.getElem?_cons_succ, List.set_cons_zero, List.set_cons_succ, List.zip_cons_cons, List.foldl_cons, List.foldl_nil, List.zip_nil_left, Nat.reduceAdd, Nat.reduceSub, Nat.reduceMul, Nat.reduceLeDiff, Nat.reduceLT, Nat.reduceEqDiff, if_true, if_false, reduceIte, Bool.false_eq_true, wipeS, lim0, lim1, lim2, lim3]
    rw [h1]
    simp only [fnRes, startS, fSeq, fNext, fIfS, fSet, fAsg, gNm, gNms, fPar, fPar3, fRet, fRetN, fDrop, fBreak, fFor, fWhile, fVar, fC, fB, fOp, fAnd, fOr, fNot, fAndV, fOrV, fNotV, fIf, fTup, fLst, fNew, aNil, aCons, aStar, fIx, fSl, oNone, oSome, fCB, fCall, fMt, fPut, fNeg, fChain, fLcG, fLc2G, fRevL, iSeq, iR1, iR2, iEnumF, o1, gYes, endL, Res.bind_ok, Res.st_ok, Res.noex_ok, SRes.seq_nx, SRes.seq_rt, SRes.seq_bk, SRes.turn_nx, SRes.turn_rt, SRes.turn_bk, SRes.res, List.map_cons, List.map_nil, List.length_cons, List.length_nil, List.cons_append, List.nil_append, List.append_nil, List.replicate, List.getElem?_cons_zero, List.getElem?_cons_succ, List.set_cons_zero, List.set_cons_succ, List.zip_cons_cons, List.foldl_cons, List.foldl_nil, List.zip_nil_left, Nat.reduceAdd, Nat.reduceSub, Nat.reduceMul, Nat.reduceLeDiff, Nat.reduceLT, Nat.reduceEqDiff, if_true, if_false, reduceIte, Bool.false_eq_true, wipeS, lim0, lim1, lim2, lim3, Option.isSome_some]
    rw [e_lab he]
    simp only [fnRes, startS, fSeq, fNext, fIfS, fSet, fAsg, gNm, gNms, fPar, fPar3, fRet, fRetN, fDrop, fBreak, fFor, fWhile, fVar, fC, fB, fOp, fAnd, fOr, fNot, fAndV, fOrV, fNotV, fIf, fTup, fLst, fNew, aNil, aCons, aStar, fIx, fSl, oNone, oSome, fCB, fCall, fMt, fPut, fNeg, fChain, fLcG, fLc2G, fRevL, iSeq, iR1, iR2, iEnumF, o1, gYes, endL, Res.bind_ok, Res.st_ok, Res.noex_ok, SRes.seq_nx, SRes.seq_rt, SRes.seq_bk, SRes.turn_nx, SRes.turn_rt, SRes.turn_bk, SRes.res, List.map_cons, List.map_nil, List.length_cons, List.length_nil, List.cons_append, List.nil_append, List.append_nil, List.replicate, List.getElem?_cons_zero, List.getElem?_cons_succ, List.set_cons_zero, List.set_cons_succ, List.zip_cons_cons, List.foldl_cons, List.foldl_nil, List.zip_nil_left, Nat.reduceAdd, Nat.reduceSub, Nat.reduceMul, Nat.reduceLeDiff, Nat.reduceLT, Nat.reduceEqDiff, if_true, if_false, reduceIte, Bool.false_eq_true, wipeS, lim0, lim1, lim2, lim3, show tyOk "list" M (.lst ord) = true from rfl]
    rw [e_nx he hs]
    simp only [fnRes, startS, fSeq, fNext, fIfS, fSet, fAsg, gNm, gNms, fPar, fPar3, fRet, fRetN, fDrop, fBreak, fFor, fWhile, fVar, fC, fB, fOp, fAnd, fOr, fNot, fAndV, fOrV, fNotV, fIf, fTup, fLst, fNew, aNil, aCons, aStar, fIx, fSl, oNone, oSome, fCB, fCall, fMt, fPut, fNeg, fChain, fLcG, fLc2G, fRevL, iSeq, iR1, iR2, iEnumF, o1, gYes, endL, Res.bind_ok, Res.st_ok, Res.noex_ok, SRes.seq_nx, SRes.seq_rt, SRes.seq_bk, SRes.turn_nx, SRes.turn_rt, SRes.turn_bk, SRes.res, List.map_cons, List.map_nil, List.length_cons, List.length_nil, List.cons_append, List.nil_append, List.append_nil, List.replicate, List.getElem?_cons_zero, List.getElem?_cons_succ, List.set_cons_zero, List.set_cons_succ, List.zip_cons_cons, List.foldl_cons, List.foldl_nil, List.zip_nil_left, Nat.reduceAdd, Nat.reduceSub, Nat.reduceMul, Nat.reduceLeDiff, Nat.reduceLT, Nat.reduceEqDiff, if_true, if_false, reduceIte, Bool.false_eq_true, wipeS, lim0, lim1, lim2, lim3]
    rw [index_pl rfl hp hj]
    simp only [fnRes, startS, fSeq, fNext, fIfS, fSet, fAsg, gNm, gNms, fPar, fPar3, fRet, fRetN, fDrop, fBreak, fFor, fWhile, fVar, fC, fB, fOp, fAnd, fOr, fNot, fAndV, fOrV, fNotV, fIf, fTup, fLst, fNew, aNil, aCons, aStar, fIx, fSl, oNone, oSome, fCB, fCall, fMt, fPut, fNeg, fChain, fLcG, fLc2G, fRevL, iSeq, iR1, iR2, iEnumF, o1, gYes, endL, Res.bind_ok, Res.st_ok, Res.noex_ok, SRes.seq_nx, SRes.seq_rt, SRes.seq_bk, SRes.turn_nx, SRes.turn_rt, SRes.turn_bk, SRes.res, List.map_cons, List.map_nil, List.length_cons, List.length_nil, List.cons_append, List.nil_append, List.append_nil, List.replicate, List.getElem?_cons_zero, List.getElem?_cons_succ, List.set_cons_zero, List.set_cons_succ, List.zip_cons_cons, List.foldl_cons, List.foldl_nil, List.zip_nil_left, Nat.reduceAdd, Nat.reduceSub, Nat.reduceMul, Nat.reduceLeDiff, Nat.reduceLT, Nat.reduceEqDiff, if_true, if_false, reduceIte, Bool.false_eq_true, wipeS, lim0, lim1, lim2, lim3, l1, t1]
    refine ⟨(e.1, some j), ?_, e_set he (Mt.ixOf_lt hj) hs'⟩
    rw [t3]
    show (if ts.length + 1 ≤ lim then _ else _) = _
    rw [if_pos (by rw [t2]; unfold lim; decide)]
theorem b1_shuf_ok (S : Sr) (n k w : Nat) (t rows : Mt.Tb T) (ord : List T) (i : Nat) (a b : Option T) (ht : TabOk n k w t) (hi : i < n) (hpl : T.pls 3 ord = true) (hm : ∀ g, g < n → T.int (g : Nat) ∈ ord) (hrl : rows.length < 900) : ∃ (r : List (Mt.Ent T)) (a' b' : Option T),
    b1__law_shuffled (cln (g__law_any_order g__law_pick)) g__law_pick [some (.ref 0), some (encT t), some (.lst ord), some (.ref 2), some (.int (i : Nat)), a, b] (srcM S ++ [.lst (rows.map encL)]) =
      .nx [some (.ref 0), some (encT t), some (.lst ord), some (.ref 2), some (.int (i : Nat)), a', b'] (srcM S ++ [.lst ((rows ++ [r]).map encL)]) ∧ (r.length = k ∧ ∀ e ∈ r, EntOk ord.length w e) := by
  have hit : i < t.length := by rw [ht.len]; exact hi
  have hrow := ht.row _ (List.getElem_mem hit)
  have hent := ht.ent _ (List.getElem_mem hit)
  unfold b1__law_shuffled
  simp only [fnRes, startS, fSeq, fNext, fIfS, fSet, fAsg, gNm, gNms, fPar, fPar3, fRet, fRetN, fDrop, fBreak, fFor, fWhile, fVar, fC, fB, fOp, fAnd, fOr, fNot, fAndV, fOrV, fNotV, fIf, fTup, fLst, fNew, aNil, aCons, aStar, fIx, fSl, oNone, oSome, fCB, fCall, fMt, fPut, fNeg, fChain, fLcG, fLc2G, fRevL, iSeq, iR1, iR2, iEnumF, o1, gYes, endL, Res.bind_ok, Res.st_ok, Res.noex_ok, SRes.seq_nx, SRes.seq_rt, SRes.seq_bk, SRes.turn_nx, SRes.turn_rt, SRes.turn_bk, SRes.res, List.map_cons, List.map_nil, List.length_cons, List.length_nil, List.cons_append, List.nil_append, List.append_nil, List.replicate, List.getElem?_cons_zero, List.getElem?_cons_succ, List.set_cons_zero, List.set_cons_succ, List.zip_cons_cons, List.foldl_cons, List.foldl_nil, List.zip_nil_left, Nat.reduceAdd, Nat.reduceSub, Nat.reduceMul, Nat.reduceLeDiff, Nat.reduceLT, Nat.reduceEqDiff, if_true, if_false, reduceIte, Bool.false_eq_true, wipeS, lim0, lim1, lim2, lim3]
  rw [show oIx (encT t) (.int (i : Nat)) (srcM S ++ [.lst (rows.map encL)]) = .ok (encL t[i]) (srcM S ++ [.lst (rows.map encL)]) from ix_tup _ _ _ _ (map_get encL t i hit)]
  simp only [fnRes, startS, fSeq, fNext, fIfS, fSet, fAsg, gNm, gNms, fPar, fPar3, fRet, fRetN, fDrop, fBreak, fFor, fWhile, fVar, fC, fB, fOp, fAnd, fOr, fNot, fAndV, fOrV, fNotV, fIf, fTup, fLst, fNew, aNil, aCons, aStar, fIx, fSl, oNone, oSome, fCB, fCall, fMt, fPut, fNeg, fChain, fLcG, fLc2G, fRevL, iSeq, iR1, iR2, iEnumF, o1, gYes, endL, Res.bind_ok, Res.st_ok, Res.noex_ok, SRes.seq_nx, SRes.seq_rt, SRes.seq_bk, SRes.turn_nx, SRes.turn_rt, SRes.turn_bk, SRes.res, List.map_cons, List.map_nil, List.length_cons, List.length_nil, List.cons_append, List.nil_append, List.append_nil, List.replicate, List.getElem?_cons_zero, List.getElem?_cons_succ, List.set_cons_zero, List.set_cons_succ, List.zip_cons_cons, List.foldl_cons, List.foldl_nil, List.zip_nil_left, Nat.reduceAdd, Nat.reduceSub, Nat.reduceMul, Nat.reduceLeDiff, Nat.reduceLT, Nat.reduceEqDiff, if_true, if_false, reduceIte, Bool.false_eq_true, wipeS, lim0, lim1, lim2, lim3]
  rw [show srcOf (srcM S ++ [.lst (rows.map encL)]) (encL t[i]) = some ⟨t[i].map encE, none, []⟩ from rfl]
  simp only [fnRes, startS, fSeq, fNext, fIfS, fSet, fAsg, gNm, gNms, fPar, fPar3, fRet, fRetN, fDrop, fBreak, fFor, fWhile, fVar, fC, fB, fOp, fAnd, fOr, fNot, fAndV, fOrV, fNotV, fIf, fTup, fLst, fNew, aNil, aCons, aStar, fIx, fSl, oNone, oSome, fCB, fCall, fMt, fPut, fNeg, fChain, fLcG, fLc2G, fRevL, iSeq, iR1, iR2, iEnumF, o1, gYes, endL, Res.bind_ok, Res.st_ok, Res.noex_ok, SRes.seq_nx, SRes.seq_rt, SRes.seq_bk, SRes.turn_nx, SRes.turn_rt, SRes.turn_bk, SRes.res, List.map_cons, List.map_nil, List.length_cons, List.length_nil, List.cons_append, List.nil_append, List.append_nil, List.replicate, List.getElem?_cons_zero, List.getElem?_cons_succ, List.set_cons_zero, List.set_cons_succ, List.zip_cons_cons, List.foldl_cons, List.foldl_nil, List.zip_nil_left, Nat.reduceAdd, Nat.reduceSub, Nat.reduceMul, Nat.reduceLeDiff, Nat.reduceLT, Nat.reduceEqDiff, if_true, if_false, reduceIte, Bool.false_eq_true, wipeS, lim0, lim1, lim2, lim3]
  obtain ⟨us, M2, e2, ⟨es, rfl, rfl, hu⟩, hl⟩ := lc_run (x := ⟨t[i].map encE, none, []⟩) (G := gNm 6) (te := e1__law_shuffled (cln (g__law_any_order g__law_pick)) g__law_pick) (s := [some (.ref 0), some (encT t), some (.lst ord), some (.ref 2), some (.int (i : Nat)), a, none])
    (fun _ acc M => ∃ (es : List (Mt.Ent T)), M = srcM S ++ [.lst (rows.map encL)] ∧ acc = es.map encE ∧ ∀ e ∈ es, EntOk ord.length w e) rfl (t[i].map encE) 0 [] (srcM S ++ [.lst (rows.map encL)]) (by
      rintro j y hy acc M ⟨es, rfl, rfl, hacc⟩
      obtain ⟨e, he, rfl⟩ : ∃ e ∈ t[i], y = encE e := by
        obtain ⟨e, h1, h2⟩ := List.mem_map.mp (List.mem_of_getElem? hy)
        exact ⟨e, h1, h2.symm⟩
      obtain ⟨e', f1, f2⟩ := e1_shuf_ok (srcM S ++ [.lst (rows.map encL)]) n w e ord (hent e he) hpl hm (some (.ref 0)) (some (encT t)) (some (.ref 2)) (some (.int (i : Nat))) a
      refine ⟨_, _, _, rfl, f1, es ++ [e'], rfl, by simp, fun u hu => ?_⟩
      rcases List.mem_append.mp hu with hu | hu
      · exact hacc u hu
      · rw [List.mem_singleton.mp hu]
        exact f2) ⟨[], rfl, rfl, fun v hv => nomatch hv⟩ (by rw [List.length_map, hrow]; have := ht.kle; unfold lim; simp; omega)
  rw [e2]
  simp only [fnRes, startS, fSeq, fNext, fIfS, fSet, fAsg, gNm, gNms, fPar, fPar3, fRet, fRetN, fDrop, fBreak, fFor, fWhile, fVar, fC, fB, fOp, fAnd, fOr, fNot, fAndV, fOrV, fNotV, fIf, fTup, fLst, fNew, aNil, aCons, aStar, fIx, fSl, oNone, oSome, fCB, fCall, fMt, fPut, fNeg, fChain, fLcG, fLc2G, fRevL, iSeq, iR1, iR2, iEnumF, o1, gYes, endL, Res.bind_ok, Res.st_ok, Res.noex_ok, SRes.seq_nx, SRes.seq_rt, SRes.seq_bk, SRes.turn_nx, SRes.turn_rt, SRes.turn_bk, SRes.res, List.map_cons, List.map_nil, List.length_cons, List.length_nil, List.cons_append, List.nil_append, List.append_nil, List.replicate, List.getElem?_cons_zero, List.getElem?_cons_succ, List.set_cons_zero, List.set_cons_succ, List.zip_cons_cons, List.foldl_cons, List.foldl_nil, List.zip_nil_left, Nat.reduceAdd, Nat.reduceSub, Nat.reduceMul, Nat.reduceLeDiff, Nat.reduceLT, Nat.reduceEqDiff, if_true, if_false, reduceIte, Bool.false_eq_true, wipeS, lim0, lim1, lim2, lim3, oTuple, items, ty_cell]
  rw [show T.tup (es.map encE) = encL es from rfl, app_cell _ _ _ (by rw [List.length_map]; unfold lim; omega)]
  simp only [fnRes, startS, fSeq, fNext, fIfS, fSet, fAsg, gNm, gNms, fPar, fPar3, fRet, fRetN, fDrop, fBreak, fFor, fWhile, fVar, fC, fB, fOp, fAnd, fOr, fNot, fAndV, fOrV, fNotV, fIf, fTup, fLst, fNew, aNil, aCons, aStar, fIx, fSl, oNone, oSome, fCB, fCall, fMt, fPut, fNeg, fChain, fLcG, fLc2G, fRevL, iSeq, iR1, iR2, iEnumF, o1, gYes, endL, Res.bind_ok, Res.st_ok, Res.noex_ok, SRes.seq_nx, SRes.seq_rt, SRes.seq_bk, SRes.turn_nx, SRes.turn_rt, SRes.turn_bk, SRes.res, List.map_cons, List.map_nil, List.length_cons, List.length_nil, List.cons_append, List.nil_append, List.append_nil, List.replicate, List.getElem?_cons_zero, List.getElem?_cons_succ, List.set_cons_zero, List.set_cons_succ, List.zip_cons_cons, List.foldl_cons, List.foldl_nil, List.zip_nil_left, Nat.reduceAdd, Nat.reduceSub, Nat.reduceMul, Nat.reduceLeDiff, Nat.reduceLT, Nat.reduceEqDiff, if_true, if_false, reduceIte, Bool.false_eq_true, wipeS, lim0, lim1, lim2, lim3]
  refine ⟨es, _, _, by simp; exact ⟨rfl, rfl⟩, ?_, hu⟩
  rw [List.length_map, List.length_map, hrow] at hl
  simpa using hl
/-- another table drawn: the same one with its states in another order, one of its lines once more -/
theorem shuf_ok (S : Sr) (n k w : Nat) (t : Mt.Tb T) (ht : TabOk n k w t) (hn : n ≤ 6) (hS : S.cells.length < 900) : ∃ (u : Mt.Tb T) (S' : Sr),
    cln (g__law_shuffled (cln (g__law_any_order g__law_pick)) g__law_pick) [.ref 0, encT t] (srcM S) = .ok (encT u) (srcM S') ∧ TabOk (n + 1) k w u ∧ S'.cells.length ≤ S.cells.length := by
  have hnp := ht.pos
  have hn1 : ((n : Int) - 1).toNat = n - 1 := by omega
  obtain ⟨us, S1, e1, hm, hlen, q1⟩ := order_ok S (rangeT 1 ((n : Int) - 1).toNat) (by rw [rangeT_len]; omega) ((pls_iff 3 _).mpr fun t ht => by
    obtain ⟨i, hi⟩ := List.mem_iff_getElem?.mp ht
    obtain ⟨_, rfl⟩ := rangeT_get hi
    rfl) hS
  have hmem : ∀ y : T, y ∈ T.int 0 :: us ↔ ∃ g, g < n ∧ y = T.int (g : Nat) := fun y => by
    rw [List.mem_cons, hm y, List.mem_iff_getElem?]
    constructor
    · rintro (rfl | ⟨i, hi⟩)
      · exact ⟨0, hnp, rfl⟩
      · obtain ⟨h1, rfl⟩ := rangeT_get hi
        refine ⟨i + 1, by omega, ?_⟩
        congr 1
        omega
    · rintro ⟨g, hg, rfl⟩
      cases g with
      | zero => exact .inl rfl
      | succ g =>
        refine .inr ⟨g, ?_⟩
        unfold rangeT
        rw [List.getElem?_map, List.getElem?_range (by omega)]
        show some (T.int (1 + (g : Int))) = _
        congr 2
        omega
  have hol : (T.int 0 :: us).length = n := by
    rw [List.length_cons, hlen, rangeT_len]
    omega
  have hopl : T.pls 3 (T.int 0 :: us) = true := (pls_iff 3 _).mpr fun y hy => by
    obtain ⟨g, _, rfl⟩ := (hmem y).mp hy
    rfl
  obtain ⟨s', M', e2, ⟨rows, a, b, c, rfl, rfl, hl, hr⟩⟩ := for_run (x := ⟨T.int 0 :: us, none, []⟩) (G := gNm 4) (B := b1__law_shuffled (cln (g__law_any_order g__law_pick)) g__law_pick)
    (fun i s M => ∃ (rows : Mt.Tb T) (a b c : Option T), s = [some (.ref 0), some (encT t), some (.lst (T.int 0 :: us)), some (.ref 2), a, b, c] ∧ M = srcM S1 ++ [.lst (rows.map encL)] ∧ rows.length = i ∧ (∀ r ∈ rows, r.length = k ∧ ∀ e ∈ r, EntOk n w e))
    rfl (T.int 0 :: us) 0 [some (.ref 0), some (encT t), some (.lst (T.int 0 :: us)), some (.ref 2), none, none, none] (srcM S1 ++ [.lst []]) (by
      rintro i y hy s M ⟨rows, a, b, c, rfl, rfl, hl, hr⟩
      obtain ⟨g, hg, rfl⟩ := (hmem y).mp (List.mem_of_getElem? hy)
      have hi := (List.getElem?_eq_some_iff.mp hy).1
      obtain ⟨r, b', c', f1, f2⟩ := b1_shuf_ok S1 n k w t rows (T.int 0 :: us) g b c ht hg hopl (fun g hg => (hmem _).mpr ⟨g, hg, rfl⟩) (by omega)
      rw [hol] at f2
      refine ⟨_, _, _, rfl, f1, rows ++ [r], _, b', c', rfl, rfl, by rw [List.length_append]; simp; omega, fun r' hr' => ?_⟩
      rcases List.mem_append.mp hr' with h | h
      · exact hr r' h
      · rw [List.mem_singleton.mp h]
        exact f2) ⟨[], none, none, none, rfl, rfl, rfl, fun r hr => (nomatch hr)⟩
  rw [hol] at hl
  obtain ⟨r2, S2, e3, hr2, q2⟩ := pick_I S1 [.lst (rows.map encL)] (rows.length : Int) (by omega) (by omega) (by omega)
  have hlt : r2 < rows.length := by omega
  have hup : ∀ r ∈ rows ++ [rows[r2]], r.length = k ∧ ∀ e ∈ r, EntOk (n + 1) w e := fun r hr' => by
    have : r ∈ rows := by
      rcases List.mem_append.mp hr' with h | h
      · exact h
      · rw [List.mem_singleton.mp h]
        exact List.getElem_mem hlt
    refine ⟨(hr r this).1, fun e he => ?_⟩
    cases (hr r this).2 e he with
    | clash => exact .clash
    | stuck => exact .stuck
    | good h1 h2 h3 => exact .good h1 h2 (by omega)
  have hpl := tab_pl (t := rows ++ [rows[r2]]) (n := n + 1) (w := w) fun r h => (hup r h).2
  refine ⟨rows ++ [rows[r2]], S2, cln_ok (J := [.lst (rows.map encL)]) (v := encT (rows ++ [rows[r2]])) ?_ rfl (.same (pl_clo _ 5 _ hpl)) (src_clo S2), ⟨by rw [List.length_append]; simp; omega, by omega, by omega, ht.kpos, ht.kle, ht.wle, fun r h => (hup r h).1, fun r h => (hup r h).2⟩, by omega⟩
  have l1 : (1 : Nat) ≤ lim := by unfold lim; decide
  unfold g__law_shuffled F__law_shuffled
  simp only [fnRes, startS, fSeq, fNext, fIfS, fSet, fAsg, gNm, gNms, fPar, fPar3, fRet, fRetN, fDrop, fBreak, fFor, fWhile, fVar, fC, fB, fOp, fAnd, fOr, fNot, fAndV, fOrV, fNotV, fIf, fTup, fLst, fNew, aNil, aCons, aStar, fIx, fSl, oNone, oSome, fCB, fCall, fMt, fPut, fNeg, fChain, fLcG, fLc2G, fRevL, iSeq, iR1, iR2, iEnumF, o1, gYes, endL, Res.bind_ok, Res.st_ok, Res.noex_ok, SRes.seq_nx, SRes.seq_rt, SRes.seq_bk, SRes.turn_nx, SRes.turn_rt, SRes.turn_bk, SRes.res, List.map_cons, List.map_nil, List.length_cons, List.length_nil, List.cons_append, List.nil_append, List.append_nil, List.replicate, List.getElem?_cons_zero, List.getElem?_cons_succ, List.set_cons_zero, List.set_cons_succ, List.zip_cons_cons, List.foldl_cons, List.foldl_nil, List.zip_nil_left, Nat.reduceAdd, Nat.reduceSub, Nat.reduceMul, Nat.reduceLeDiff, Nat.reduceLT, Nat.reduceEqDiff, if_true, if_false, reduceIte, Bool.false_eq_true, wipeS, lim0, lim1, lim2, lim3, l1]
  rw [show oLen [encT t] (srcM S) = .ok (.int (n : Nat)) (srcM S) by
    show Res.ok (T.int ((t.map encL).length : Nat)) _ = _
    rw [List.length_map, ht.len]]
  simp only [fnRes, startS, fSeq, fNext, fIfS, fSet, fAsg, gNm, gNms, fPar, fPar3, fRet, fRetN, fDrop, fBreak, fFor, fWhile, fVar, fC, fB, fOp, fAnd, fOr, fNot, fAndV, fOrV, fNotV, fIf, fTup, fLst, fNew, aNil, aCons, aStar, fIx, fSl, oNone, oSome, fCB, fCall, fMt, fPut, fNeg, fChain, fLcG, fLc2G, fRevL, iSeq, iR1, iR2, iEnumF, o1, gYes, endL, Res.bind_ok, Res.st_ok, Res.noex_ok, SRes.seq_nx, SRes.seq_rt, SRes.seq_bk, SRes.turn_nx, SRes.turn_rt, SRes.turn_bk, SRes.res, List.map_cons, List.map_nil, List.length_cons, List.length_nil, List.cons_append, List.nil_append, List.append_nil, List.replicate, List.getElem?_cons_zero, List.getElem?_cons_succ, List.set_cons_zero, List.set_cons_succ, List.zip_cons_cons, List.foldl_cons, List.foldl_nil, List.zip_nil_left, Nat.reduceAdd, Nat.reduceSub, Nat.reduceMul, Nat.reduceLeDiff, Nat.reduceLT, Nat.reduceEqDiff, if_true, if_false, reduceIte, Bool.false_eq_true, wipeS, lim0, lim1, lim2, lim3]
  rw [show oRange [.int 1, .int (n : Nat)] (srcM S) = .ok (.rng 1 (n : Nat)) (srcM S) from rfl]
  simp only [fnRes, startS, fSeq, fNext, fIfS, fSet, fAsg, gNm, gNms, fPar, fPar3, fRet, fRetN, fDrop, fBreak, fFor, fWhile, fVar, fC, fB, fOp, fAnd, fOr, fNot, fAndV, fOrV, fNotV, fIf, fTup, fLst, fNew, aNil, aCons, aStar, fIx, fSl, oNone, oSome, fCB, fCall, fMt, fPut, fNeg, fChain, fLcG, fLc2G, fRevL, iSeq, iR1, iR2, iEnumF, o1, gYes, endL, Res.bind_ok, Res.st_ok, Res.noex_ok, SRes.seq_nx, SRes.seq_rt, SRes.seq_bk, SRes.turn_nx, SRes.turn_rt, SRes.turn_bk, SRes.res, List.map_cons, List.map_nil, List.length_cons, List.length_nil, List.cons_append, List.nil_append, List.append_nil, List.replicate, List.getElem?_cons_zero, List.getElem?_cons_succ, List.set_cons_zero, List.set_cons_succ, List.zip_cons_cons, List.foldl_cons, List.foldl_nil, List.zip_nil_left, Nat.reduceAdd, Nat.reduceSub, Nat.reduceMul, Nat.reduceLeDiff, Nat.reduceLT, Nat.reduceEqDiff, if_true, if_false, reduceIte, Bool.false_eq_true, wipeS, lim0, lim1, lim2, lim3]
  rw [show oList [.rng 1 (n : Nat)] (srcM S) = .ok (.lst (rangeT 1 ((n : Int) - 1).toNat)) (srcM S) by
    show (match (if spanOk 1 (n : Int) = true ∧ ((n : Int) - 1).toNat ≤ lim then some (rangeT 1 ((n : Int) - 1).toNat) else none) with
      | some us => Res.ok (T.lst us) _
      | none => .stuck) = _
    rw [if_pos ⟨by unfold spanOk; rw [decide_eq_true (by omega), decide_eq_true (by omega)]; rfl, by unfold lim; omega⟩]]
  simp only [fnRes, startS, fSeq, fNext, fIfS, fSet, fAsg, gNm, gNms, fPar, fPar3, fRet, fRetN, fDrop, fBreak, fFor, fWhile, fVar, fC, fB, fOp, fAnd, fOr, fNot, fAndV, fOrV, fNotV, fIf, fTup, fLst, fNew, aNil, aCons, aStar, fIx, fSl, oNone, oSome, fCB, fCall, fMt, fPut, fNeg, fChain, fLcG, fLc2G, fRevL, iSeq, iR1, iR2, iEnumF, o1, gYes, endL, Res.bind_ok, Res.st_ok, Res.noex_ok, SRes.seq_nx, SRes.seq_rt, SRes.seq_bk, SRes.turn_nx, SRes.turn_rt, SRes.turn_bk, SRes.res, List.map_cons, List.map_nil, List.length_cons, List.length_nil, List.cons_append, List.nil_append, List.append_nil, List.replicate, List.getElem?_cons_zero, List.getElem?_cons_succ, List.set_cons_zero, List.set_cons_succ, List.zip_cons_cons, List.foldl_cons, List.foldl_nil, List.zip_nil_left, Nat.reduceAdd, Nat.reduceSub, Nat.reduceMul, Nat.reduceLeDiff, Nat.reduceLT, Nat.reduceEqDiff, if_true, if_false, reduceIte, Bool.false_eq_true, wipeS, lim0, lim1, lim2, lim3, e1]
  rw [show oAdd (.lst [.int 0]) (.lst us) (srcM S1) = .ok (.lst (T.int 0 :: us)) (srcM S1) by
    show (if 1 + us.length ≤ lim then _ else _) = _
    rw [if_pos (by rw [hlen, rangeT_len]; unfold lim; omega)]
    rfl]
  simp only [fnRes, startS, fSeq, fNext, fIfS, fSet, fAsg, gNm, gNms, fPar, fPar3, fRet, fRetN, fDrop, fBreak, fFor, fWhile, fVar, fC, fB, fOp, fAnd, fOr, fNot, fAndV, fOrV, fNotV, fIf, fTup, fLst, fNew, aNil, aCons, aStar, fIx, fSl, oNone, oSome, fCB, fCall, fMt, fPut, fNeg, fChain, fLcG, fLc2G, fRevL, iSeq, iR1, iR2, iEnumF, o1, gYes, endL, Res.bind_ok, Res.st_ok, Res.noex_ok, SRes.seq_nx, SRes.seq_rt, SRes.seq_bk, SRes.turn_nx, SRes.turn_rt, SRes.turn_bk, SRes.res, List.map_cons, List.map_nil, List.length_cons, List.length_nil, List.cons_append, List.nil_append, List.append_nil, List.replicate, List.getElem?_cons_zero, List.getElem?_cons_succ, List.set_cons_zero, List.set_cons_succ, List.zip_cons_cons, List.foldl_cons, List.foldl_nil, List.zip_nil_left, Nat.reduceAdd, Nat.reduceSub, Nat.reduceMul, Nat.reduceLeDiff, Nat.reduceLT, Nat.reduceEqDiff, if_true, if_false, reduceIte, Bool.false_eq_true, wipeS, lim0, lim1, lim2, lim3, ref2]
  rw [show srcOf (srcM S1 ++ [.lst []]) (.lst (T.int 0 :: us)) = some ⟨T.int 0 :: us, none, []⟩ from rfl]
  simp only [fnRes, startS, fSeq, fNext, fIfS, fSet, fAsg, gNm, gNms, fPar, fPar3, fRet, fRetN, fDrop, fBreak, fFor, fWhile, fVar, fC, fB, fOp, fAnd, fOr, fNot, fAndV, fOrV, fNotV, fIf, fTup, fLst, fNew, aNil, aCons, aStar, fIx, fSl, oNone, oSome, fCB, fCall, fMt, fPut, fNeg, fChain, fLcG, fLc2G, fRevL, iSeq, iR1, iR2, iEnumF, o1, gYes, endL, Res.bind_ok, Res.st_ok, Res.noex_ok, SRes.seq_nx, SRes.seq_rt, SRes.seq_bk, SRes.turn_nx, SRes.turn_rt, SRes.turn_bk, SRes.res, List.map_cons, List.map_nil, List.length_cons, List.length_nil, List.cons_append, List.nil_append, List.append_nil, List.replicate, List.getElem?_cons_zero, List.getElem?_cons_succ, List.set_cons_zero, List.set_cons_succ, List.zip_cons_cons, List.foldl_cons, List.foldl_nil, List.zip_nil_left, Nat.reduceAdd, Nat.reduceSub, Nat.reduceMul, Nat.reduceLeDiff, Nat.reduceLT, Nat.reduceEqDiff, if_true, if_false, reduceIte, Bool.false_eq_true, wipeS, lim0, lim1, lim2, lim3]
  rw [e2]
  simp only [fnRes, startS, fSeq, fNext, fIfS, fSet, fAsg, gNm, gNms, fPar, fPar3, fRet, fRetN, fDrop, fBreak, fFor, fWhile, fVar, fC, fB, fOp, fAnd, fOr, fNot, fAndV, fOrV, fNotV, fIf, fTup, fLst, fNew, aNil, aCons, aStar, fIx, fSl, oNone, oSome, fCB, fCall, fMt, fPut, fNeg, fChain, fLcG, fLc2G, fRevL, iSeq, iR1, iR2, iEnumF, o1, gYes, endL, Res.bind_ok, Res.st_ok, Res.noex_ok, SRes.seq_nx, SRes.seq_rt, SRes.seq_bk, SRes.turn_nx, SRes.turn_rt, SRes.turn_bk, SRes.res, List.map_cons, List.map_nil, List.length_cons, List.length_nil, List.cons_append, List.nil_append, List.append_nil, List.replicate, List.getElem?_cons_zero, List.getElem?_cons_succ, List.set_cons_zero, List.set_cons_succ, List.zip_cons_cons, List.foldl_cons, List.foldl_nil, List.zip_nil_left, Nat.reduceAdd, Nat.reduceSub, Nat.reduceMul, Nat.reduceLeDiff, Nat.reduceLT, Nat.reduceEqDiff, if_true, if_false, reduceIte, Bool.false_eq_true, wipeS, lim0, lim1, lim2, lim3, tup_cell, len_cell]
  rw [List.length_map, e3]
  simp only [fnRes, startS, fSeq, fNext, fIfS, fSet, fAsg, gNm, gNms, fPar, fPar3, fRet, fRetN, fDrop, fBreak, fFor, fWhile, fVar, fC, fB, fOp, fAnd, fOr, fNot, fAndV, fOrV, fNotV, fIf, fTup, fLst, fNew, aNil, aCons, aStar, fIx, fSl, oNone, oSome, fCB, fCall, fMt, fPut, fNeg, fChain, fLcG, fLc2G, fRevL, iSeq, iR1, iR2, iEnumF, o1, gYes, endL, Res.bind_ok, Res.st_ok, Res.noex_ok, SRes.seq_nx, SRes.seq_rt, SRes.seq_bk, SRes.turn_nx, SRes.turn_rt, SRes.turn_bk, SRes.res, List.map_cons, List.map_nil, List.length_cons, List.length_nil, List.cons_append, List.nil_append, List.append_nil, List.replicate, List.getElem?_cons_zero, List.getElem?_cons_succ, List.set_cons_zero, List.set_cons_succ, List.zip_cons_cons, List.foldl_cons, List.foldl_nil, List.zip_nil_left, Nat.reduceAdd, Nat.reduceSub, Nat.reduceMul, Nat.reduceLeDiff, Nat.reduceLT, Nat.reduceEqDiff, if_true, if_false, reduceIte, Bool.false_eq_true, wipeS, lim0, lim1, lim2, lim3]
  rw [ix_cell S2 (rows.map encL) r2 (encL rows[r2]) (map_get encL rows r2 hlt)]
  simp only [fnRes, startS, fSeq, fNext, fIfS, fSet, fAsg, gNm, gNms, fPar, fPar3, fRet, fRetN, fDrop, fBreak, fFor, fWhile, fVar, fC, fB, fOp, fAnd, fOr, fNot, fAndV, fOrV, fNotV, fIf, fTup, fLst, fNew, aNil, aCons, aStar, fIx, fSl, oNone, oSome, fCB, fCall, fMt, fPut, fNeg, fChain, fLcG, fLc2G, fRevL, iSeq, iR1, iR2, iEnumF, o1, gYes, endL, Res.bind_ok, Res.st_ok, Res.noex_ok, SRes.seq_nx, SRes.seq_rt, SRes.seq_bk, SRes.turn_nx, SRes.turn_rt, SRes.turn_bk, SRes.res, List.map_cons, List.map_nil, List.length_cons, List.length_nil, List.cons_append, List.nil_append, List.append_nil, List.replicate, List.getElem?_cons_zero, List.getElem?_cons_succ, List.set_cons_zero, List.set_cons_succ, List.zip_cons_cons, List.foldl_cons, List.foldl_nil, List.zip_nil_left, Nat.reduceAdd, Nat.reduceSub, Nat.reduceMul, Nat.reduceLeDiff, Nat.reduceLT, Nat.reduceEqDiff, if_true, if_false, reduceIte, Bool.false_eq_true, wipeS, lim0, lim1, lim2, lim3, l1]
  rw [show oAdd (.tup (rows.map encL)) (.tup [encL rows[r2]]) (srcM S2 ++ [.lst (rows.map encL)]) = .ok (encT (rows ++ [rows[r2]])) (srcM S2 ++ [.lst (rows.map encL)]) by
    show (if (rows.map encL).length + 1 ≤ lim then _ else _) = _
    rw [if_pos (by rw [List.length_map]; unfold lim; omega)]
    simp [encT]]
  simp only [fnRes, startS, fSeq, fNext, fIfS, fSet, fAsg, gNm, gNms, fPar, fPar3, fRet, fRetN, fDrop, fBreak, fFor, fWhile, fVar, fC, fB, fOp, fAnd, fOr, fNot, fAndV, fOrV, fNotV, fIf, fTup, fLst, fNew, aNil, aCons, aStar, fIx, fSl, oNone, oSome, fCB, fCall, fMt, fPut, fNeg, fChain, fLcG, fLc2G, fRevL, iSeq, iR1, iR2, iEnumF, o1, gYes, endL, Res.bind_ok, Res.st_ok, Res.noex_ok, SRes.seq_nx, SRes.seq_rt, SRes.seq_bk, SRes.turn_nx, SRes.turn_rt, SRes.turn_bk, SRes.res, List.map_cons, List.map_nil, List.length_cons, List.length_nil, List.cons_append, List.nil_append, List.append_nil, List.replicate, List.getElem?_cons_zero, List.getElem?_cons_succ, List.set_cons_zero, List.set_cons_succ, List.zip_cons_cons, List.foldl_cons, List.foldl_nil, List.zip_nil_left, Nat.reduceAdd, Nat.reduceSub, Nat.reduceMul, Nat.reduceLeDiff, Nat.reduceLT, Nat.reduceEqDiff, if_true, if_false, reduceIte, Bool.false_eq_true, wipeS, lim0, lim1, lim2, lim3]
end Fl
set_option Elab.async false
set_option linter.all false
set_option maxRecDepth 100000
set_option maxHeartbeats 4000000
/-! P5: the searches. -/
namespace Fl
open PySem PySem.Spec PyProof.Rows L2

/-! ### cells by their place -/
theorem ix_at {M : Mem} {n : Nat} {us : List T} (h : M[n]? = some (.lst us)) {r : Nat} {t : T} (hr : us[r]? = some t) : oIx (.ref n) (.int (r : Nat)) M = .ok t M := by
  unfold oIx
  simp only [h]
  rw [atI_nat hr]
theorem app_at {M : Mem} {n : Nat} {us : List T} (h : M[n]? = some (.lst us)) (y : T) (hl : us.length < lim) : oAppend (.ref n) [y] M = .ok .non (M.set n (.lst (us ++ [y]))) := by
  unfold oAppend cellL
  simp only [h]
  rw [if_pos hl]
theorem ty_at {M : Mem} {n : Nat} {us : List T} (h : M[n]? = some (.lst us)) : tyOk "list" M (.ref n) = true := by
  unfold tyOk
  simp only [h]
  decide
theorem len_at {M : Mem} {n : Nat} {us : List T} (h : M[n]? = some (.lst us)) : oLen [.ref n] M = .ok (.int (us.length : Nat)) M := by
  unfold oLen o1 items
  simp only [h]
theorem tup_at {M : Mem} {n : Nat} {us : List T} (h : M[n]? = some (.lst us)) : oTuple [.ref n] M = .ok (.tup us) M := by
  unfold oTuple o1 items
  simp only [h]
theorem seq_at {M : Mem} {n : Nat} {us : List T} (h : M[n]? = some (.lst us)) : seqOf M (.ref n) = some (false, us) := by
  unfold seqOf
  simp only [h]
theorem at_a (B : Mem) (c d : Cell) : (B ++ [c, d])[B.length]? = some c := by simp
theorem at_b (B : Mem) (c d : Cell) : (B ++ [c, d])[B.length + 1]? = some d := by simp
theorem set_a (B : Mem) (c d e : Cell) : (B ++ [c, d]).set B.length e = B ++ [e, d] := by simp
theorem set_b (B : Mem) (c d e : Cell) : (B ++ [c, d]).set (B.length + 1) e = B ++ [c, e] := by
  rw [List.set_append_right _ _ (by omega), Nat.add_sub_cancel_left]
  rfl
def encP (p : Nat × Nat) : T := .tup [.int (p.1 : Nat), .int (p.2 : Nat)]
def encW (w : List Nat) : T := .tup (w.map fun (i : Nat) => T.int (i : Nat))
theorem encP_inj {p q : Nat × Nat} (h : encP p = encP q) : p = q := by
  unfold encP at h
  simp only [T.tup.injEq, List.cons.injEq, T.int.injEq, and_true] at h
  exact Prod.ext (by omega) (by omega)
theorem encP_mem {p : Nat × Nat} {ps : List (Nat × Nat)} : encP p ∈ ps.map encP ↔ p ∈ ps := by
  rw [List.mem_map]
  constructor
  · rintro ⟨q, hq, e⟩
    rw [← encP_inj e]
    exact hq
  · intro h
    exact ⟨p, h, rfl⟩
theorem encP_pls (ps : List (Nat × Nat)) : T.pls 63 (ps.map encP) = true := (pls_iff 63 _).mpr fun v hv => by
  obtain ⟨p, _, rfl⟩ := List.mem_map.mp hv
  rfl
def mem2 (B : Mem) (ps : List (Nat × Nat)) (ws : List (List Nat)) : Mem := B ++ [.lst (ps.map encP), .lst (ws.map encW)]
section
variable (B : Mem) (ps : List (Nat × Nat)) (ws : List (List Nat))
theorem mp_ix {q : Nat} {p : Nat × Nat} (h : ps[q]? = some p) : oIx (.ref B.length) (.int (q : Nat)) (mem2 B ps ws) = .ok (encP p) (mem2 B ps ws) := ix_at (at_a _ _ _) (by rw [List.getElem?_map, h]; rfl)
theorem mw_ix {q : Nat} {w : List Nat} (h : ws[q]? = some w) : oIx (.ref (B.length + 1)) (.int (q : Nat)) (mem2 B ps ws) = .ok (encW w) (mem2 B ps ws) := ix_at (at_b _ _ _) (by rw [List.getElem?_map, h]; rfl)
theorem mp_len : oLen [.ref B.length] (mem2 B ps ws) = .ok (.int (ps.length : Nat)) (mem2 B ps ws) := by
  have := len_at (at_a B (.lst (ps.map encP)) (.lst (ws.map encW)))
  rw [List.length_map] at this
  exact this
theorem mp_ty : tyOk "list" (mem2 B ps ws) (.ref B.length) = true := ty_at (at_a _ _ _)
theorem mw_ty : tyOk "list" (mem2 B ps ws) (.ref (B.length + 1)) = true := ty_at (at_b _ _ _)
theorem mp_notin (g h : Nat) : oNotIn (.tup [.int (g : Nat), .int (h : Nat)]) (.ref B.length) (mem2 B ps ws) = .ok (.bl (!decide ((g, h) ∈ ps))) (mem2 B ps ws) := by
  have := notin_pl (M := mem2 B ps ws) (seq_at (at_a B (.lst (ps.map encP)) (.lst (ws.map encW)))) (show T.pl 64 (encP (g, h)) = true from rfl) (encP_pls ps)
  rw [show decide (encP (g, h) ∈ ps.map encP) = decide ((g, h) ∈ ps) from by rw [Bool.eq_iff_iff, decide_eq_true_eq, decide_eq_true_eq, encP_mem]] at this
  exact this
theorem mp_app (g h : Nat) (hl : ps.length < 900000) : oAppend (.ref B.length) [.tup [.int (g : Nat), .int (h : Nat)]] (mem2 B ps ws) = .ok .non (mem2 B (ps ++ [(g, h)]) ws) := by
  have := app_at (at_a B (.lst (ps.map encP)) (.lst (ws.map encW))) (encP (g, h)) (by rw [List.length_map]; unfold lim; omega)
  rw [set_a] at this
  unfold mem2
  rw [List.map_append]
  exact this
theorem mw_app (z : List Nat) (hl : ws.length < 900000) : oAppend (.ref (B.length + 1)) [encW z] (mem2 B ps ws) = .ok .non (mem2 B ps (ws ++ [z])) := by
  have := app_at (at_b B (.lst (ps.map encP)) (.lst (ws.map encW))) (encW z) (by rw [List.length_map]; unfold lim; omega)
  rw [set_b] at this
  unfold mem2
  rw [List.map_append]
  exact this
end
theorem oNe_lab {n m w w' : Nat} {e f : Mt.Ent T} (he : EntOk n w e) (hf : EntOk m w' f) (M : Mem) : oNe e.1 f.1 M = .ok (.bl (!decide (e.1 = f.1))) M :=
  ne_pl (pl_mono _ 3 64 (by decide) (lab_pl he)) (pl_mono _ 3 64 (by decide) (lab_pl hf))
theorem some_of {n m w w' : Nat} {e f : Mt.Ent T} (he : EntOk n w e) (hf : EntOk m w' f) (h : e.1 = f.1) : e.2.isSome = f.2.isSome := by
  obtain ⟨s, _, _, h3⟩ := e_first he []
  cases he <;> cases hf <;> simp_all
theorem way_ok (w : List Nat) (p : Nat) : T.tup ((w.map fun (i : Nat) => T.int (i : Nat)) ++ [.int (p : Nat)]) = encW (w ++ [p]) := by
  unfold encW
  rw [List.map_append]
  rfl
section
variable {t u : Mt.Tb T} {n m k w w' : Nat}
theorem b1_tp (B : Mem) (q i j p : Nat) (ps : List (Nat × Nat)) (ws : List (List Nat)) (wy : List Nat) (c d : Option T) (ht : TabOk n k w t) (hu : TabOk m k w' u) (hi : i < n) (hj : j < m) (hq : ps[q]? = some (i, j)) (hw : ws[q]? = some wy) (hpl : ps.length < 900000) (hwl : ws.length < 900000) (hwy : wy.length < 900000)
    (e f : Mt.Ent T) (he : e ∈ t.getD i []) (hf : (u.getD j [])[p]? = some f) : ∃ c' d' : Option T,
    b1_tables_parted [some (encT t), some (encT u), some (.int (q : Nat)), some (.ref B.length), some (.ref (B.length + 1)), some (.int (p : Nat)), some (encE e), c, d] (mem2 B ps ws) =
      if e.1 ≠ f.1 then .rt (encW (wy ++ [p])) (mem2 B ps ws) else match e.2, f.2 with
        | some g, some h => if (g, h) ∈ ps then .nx [some (encT t), some (encT u), some (.int (q : Nat)), some (.ref B.length), some (.ref (B.length + 1)), some (.int (p : Nat)), some (encE e), c', d'] (mem2 B ps ws)
          else .nx [some (encT t), some (encT u), some (.int (q : Nat)), some (.ref B.length), some (.ref (B.length + 1)), some (.int (p : Nat)), some (encE e), c', d'] (mem2 B (ps ++ [(g, h)]) (ws ++ [wy ++ [p]]))
        | _, _ => .nx [some (encT t), some (encT u), some (.int (q : Nat)), some (.ref B.length), some (.ref (B.length + 1)), some (.int (p : Nat)), some (encE e), c', d'] (mem2 B ps ws) := by
  have hit : i < t.length := by rw [ht.len]; exact hi
  have hjt : j < u.length := by rw [hu.len]; exact hj
  have hgi : t.getD i [] = t[i] := by rw [List.getD_eq_getElem?_getD, List.getElem?_eq_getElem hit]; rfl
  have hgj : u.getD j [] = u[j] := by rw [List.getD_eq_getElem?_getD, List.getElem?_eq_getElem hjt]; rfl
  rw [hgi] at he
  rw [hgj] at hf
  have heo := ht.ent _ (List.getElem_mem hit) e he
  have hfo := hu.ent _ (List.getElem_mem hjt) f (List.mem_of_getElem? hf)
  have x1 := mp_ix B ps ws hq
  have x2 := mw_ix B ps ws hw
  have x3 : oIx (encP (i, j)) (.int 1) (mem2 B ps ws) = .ok (.int (j : Nat)) (mem2 B ps ws) := rfl
  have x4 : oIx (encT u) (.int (j : Nat)) (mem2 B ps ws) = .ok (encL u[j]) (mem2 B ps ws) := ix_tup _ _ _ _ (map_get encL u j hjt)
  have x5 : oIx (encL u[j]) (.int (p : Nat)) (mem2 B ps ws) = .ok (encE f) (mem2 B ps ws) := ix_tup _ _ _ _ (by rw [List.getElem?_map, hf]; rfl)
  have x6 : items (mem2 B ps ws) (encW wy) = some (wy.map fun (i : Nat) => T.int (i : Nat)) := rfl
  have x7 : ∀ M : Mem, (oIx (encE e) (.int 0) M).bind (fun a M1 => oEq a (.str "good") M1) = .ok (.bl e.2.isSome) M := fun M => e_good heo M
  refine ⟨some (encE f), some (encW (wy ++ [p])), ?_⟩
  unfold b1_tables_parted
  simp only [fnRes, startS, fSeq, fNext, fIfS, fSet, fAsg, gNm, gNms, fPar, fPar3, fRet, fRetN, fDrop, fBreak, fFor, fWhile, fVar, fC, fB, fOp, fAnd, fOr, fNot, fAndV, fOrV, fNotV, fIf, fTup, fLst, fNew, aNil, aCons, aStar, fIx, fSl, oNone, oSome, fCB, fCall, fMt, fPut, fNeg, fChain, fLcG, fLc2G, fRevL, iSeq, iR1, iR2, iEnumF, o1, gYes, endL, Res.bind_ok, Res.st_ok, Res.noex_ok, SRes.seq_nx, SRes.seq_rt, SRes.seq_bk, SRes.turn_nx, SRes.turn_rt, SRes.turn_bk, SRes.res, List.map_cons, List.map_nil, List.length_cons, List.length_nil, List.cons_append, List.nil_append, List.append_nil, List.replicate, List.getElem?_cons_zero, List.getElem?_cons_succ, List.set_cons_zero, List.set_cons_succ, List.zip_cons_cons, List.foldl_cons, List.foldl_nil, List.zip_nil_left, Nat.reduceAdd, Nat.reduceSub, Nat.reduceMul, Nat.reduceLeDiff, Nat.reduceLT, Nat.reduceEqDiff, if_true, if_false, reduceIte, Bool.false_eq_true, wipeS, lim0, lim1, lim2, lim3, x1, x2, x3, x4, x5, x6]
  rw [if_pos (by simp; unfold lim; omega), way_ok]
  simp only [fnRes, startS, fSeq, fNext, fIfS, fSet, fAsg, gNm, gNms, fPar, fPar3, fRet, fRetN, fDrop, fBreak, fFor, fWhile, fVar, fC, fB, fOp, fAnd, fOr, fNot, fAndV, fOrV, fNotV, fIf, fTup, fLst, fNew, aNil, aCons, aStar, fIx, fSl, oNone, oSome, fCB, fCall, fMt, fPut, fNeg, fChain, fLcG, fLc2G, fRevL, iSeq, iR1, iR2, iEnumF, o1, gYes, endL, Res.bind_ok, Res.st_ok, Res.noex_ok, SRes.seq_nx, SRes.seq_rt, SRes.seq_bk, SRes.turn_nx, SRes.turn_rt, SRes.turn_bk, SRes.res, List.map_cons, List.map_nil, List.length_cons, List.length_nil, List.cons_append, List.nil_append, List.append_nil, List.replicate, List.getElem?_cons_zero, List.getElem?_cons_succ, List.set_cons_zero, List.set_cons_succ, List.zip_cons_cons, List.foldl_cons, List.foldl_nil, List.zip_nil_left, Nat.reduceAdd, Nat.reduceSub, Nat.reduceMul, Nat.reduceLeDiff, Nat.reduceLT, Nat.reduceEqDiff, if_true, if_false, reduceIte, Bool.false_eq_true, wipeS, lim0, lim1, lim2, lim3, e_lab heo, e_lab hfo]
  rw [oNe_lab heo hfo]
  by_cases hl : e.1 = f.1
  · rw [decide_eq_true hl, if_neg (fun z : e.1 ≠ f.1 => z hl)]
    simp only [fnRes, startS, fSeq, fNext, fIfS, fSet, fAsg, gNm, gNms, fPar, fPar3, fRet, fRetN, fDrop, fBreak, fFor, fWhile, fVar, fC, fB, fOp, fAnd, fOr, fNot, fAndV, fOrV, fNotV, fIf, fTup, fLst, fNew, aNil, aCons, aStar, fIx, fSl, oNone, oSome, fCB, fCall, fMt, fPut, fNeg, fChain, fLcG, fLc2G, fRevL, iSeq, iR1, iR2, iEnumF, o1, gYes, endL, Res.bind_ok, Res.st_ok, Res.noex_ok, SRes.seq_nx, SRes.seq_rt, SRes.seq_bk, SRes.turn_nx, SRes.turn_rt, SRes.turn_bk, SRes.res, List.map_cons, List.map_nil, List.length_cons, List.length_nil, List.cons_append, List.nil_append, List.append_nil, List.replicate, List.getElem?_cons_zero, List.getElem?_cons_succ, List.set_cons_zero, List.set_cons_succ, List.zip_cons_cons, List.foldl_cons, List.foldl_nil, List.zip_nil_left, Nat.reduceAdd, Nat.reduceSub, Nat.reduceMul, Nat.reduceLeDiff, Nat.reduceLT, Nat.reduceEqDiff, if_true, if_false, reduceIte, Bool.false_eq_true, wipeS, lim0, lim1, lim2, lim3, Bool.not_true]
    rw [x7]
    have hsm := some_of heo hfo hl
    cases he2 : e.2 with
    | none =>
      simp only [fnRes, startS, fSeq, fNext, fIfS, fSet, fAsg, gNm, gNms, fPar, fPar3, fRet, fRetN, fDrop, fBreak, fFor, fWhile, fVar, fC, fB, fOp, fAnd, fOr, fNot, fAndV, fOrV, fNotV, fIf, fTup, fLst, fNew, aNil, aCons, aStar, fIx, fSl, oNone, oSome, fCB, fCall, fMt, fPut, fNeg, fChain, fLcG, fLc2G, fRevL, iSeq, iR1, iR2, iEnumF, o1, gYes, endL, Res.bind_ok, Res.st_ok, Res.noex_ok, SRes.seq_nx, SRes.seq_rt, SRes.seq_bk, SRes.turn_nx, SRes.turn_rt, SRes.turn_bk, SRes.res, List.map_cons, List.map_nil, List.length_cons, List.length_nil, List.cons_append, List.nil_append, List.append_nil, List.replicate, List.getElem?_cons_zero, List.getElem?_cons_succ, List.set_cons_zero, List.set_cons_succ, List.zip_cons_cons, List.foldl_cons, List.foldl_nil, List.zip_nil_left, Nat.reduceAdd, Nat.reduceSub, Nat.reduceMul, Nat.reduceLeDiff, Nat.reduceLT, Nat.reduceEqDiff, if_true, if_false, reduceIte, Bool.false_eq_true, wipeS, lim0, lim1, lim2, lim3, Option.isSome_none]
    | some g =>
      cases hf2 : f.2 with
      | none => rw [he2, hf2] at hsm; cases hsm
      | some h =>
        simp only [fnRes, startS, fSeq, fNext, fIfS, fSet, fAsg, gNm, gNms, fPar, fPar3, fRet, fRetN, fDrop, fBreak, fFor, fWhile, fVar, fC, fB, fOp, fAnd, fOr, fNot, fAndV, fOrV, fNotV, fIf, fTup, fLst, fNew, aNil, aCons, aStar, fIx, fSl, oNone, oSome, fCB, fCall, fMt, fPut, fNeg, fChain, fLcG, fLc2G, fRevL, iSeq, iR1, iR2, iEnumF, o1, gYes, endL, Res.bind_ok, Res.st_ok, Res.noex_ok, SRes.seq_nx, SRes.seq_rt, SRes.seq_bk, SRes.turn_nx, SRes.turn_rt, SRes.turn_bk, SRes.res, List.map_cons, List.map_nil, List.length_cons, List.length_nil, List.cons_append, List.nil_append, List.append_nil, List.replicate, List.getElem?_cons_zero, List.getElem?_cons_succ, List.set_cons_zero, List.set_cons_succ, List.zip_cons_cons, List.foldl_cons, List.foldl_nil, List.zip_nil_left, Nat.reduceAdd, Nat.reduceSub, Nat.reduceMul, Nat.reduceLeDiff, Nat.reduceLT, Nat.reduceEqDiff, if_true, if_false, reduceIte, Bool.false_eq_true, wipeS, lim0, lim1, lim2, lim3, Option.isSome_some, e_nx heo he2, e_nx hfo hf2]
        rw [mp_notin]
        by_cases hm : (g, h) ∈ ps
        · rw [if_pos hm, decide_eq_true hm]
          simp only [fnRes, startS, fSeq, fNext, fIfS, fSet, fAsg, gNm, gNms, fPar, fPar3, fRet, fRetN, fDrop, fBreak, fFor, fWhile, fVar, fC, fB, fOp, fAnd, fOr, fNot, fAndV, fOrV, fNotV, fIf, fTup, fLst, fNew, aNil, aCons, aStar, fIx, fSl, oNone, oSome, fCB, fCall, fMt, fPut, fNeg, fChain, fLcG, fLc2G, fRevL, iSeq, iR1, iR2, iEnumF, o1, gYes, endL, Res.bind_ok, Res.st_ok, Res.noex_ok, SRes.seq_nx, SRes.seq_rt, SRes.seq_bk, SRes.turn_nx, SRes.turn_rt, SRes.turn_bk, SRes.res, List.map_cons, List.map_nil, List.length_cons, List.length_nil, List.cons_append, List.nil_append, List.append_nil, List.replicate, List.getElem?_cons_zero, List.getElem?_cons_succ, List.set_cons_zero, List.set_cons_succ, List.zip_cons_cons, List.foldl_cons, List.foldl_nil, List.zip_nil_left, Nat.reduceAdd, Nat.reduceSub, Nat.reduceMul, Nat.reduceLeDiff, Nat.reduceLT, Nat.reduceEqDiff, if_true, if_false, reduceIte, Bool.false_eq_true, wipeS, lim0, lim1, lim2, lim3, Bool.not_true]
        · rw [if_neg hm, decide_eq_false hm]
          simp only [fnRes, startS, fSeq, fNext, fIfS, fSet, fAsg, gNm, gNms, fPar, fPar3, fRet, fRetN, fDrop, fBreak, fFor, fWhile, fVar, fC, fB, fOp, fAnd, fOr, fNot, fAndV, fOrV, fNotV, fIf, fTup, fLst, fNew, aNil, aCons, aStar, fIx, fSl, oNone, oSome, fCB, fCall, fMt, fPut, fNeg, fChain, fLcG, fLc2G, fRevL, iSeq, iR1, iR2, iEnumF, o1, gYes, endL, Res.bind_ok, Res.st_ok, Res.noex_ok, SRes.seq_nx, SRes.seq_rt, SRes.seq_bk, SRes.turn_nx, SRes.turn_rt, SRes.turn_bk, SRes.res, List.map_cons, List.map_nil, List.length_cons, List.length_nil, List.cons_append, List.nil_append, List.append_nil, List.replicate, List.getElem?_cons_zero, List.getElem?_cons_succ, List.set_cons_zero, List.set_cons_succ, List.zip_cons_cons, List.foldl_cons, List.foldl_nil, List.zip_nil_left, Nat.reduceAdd, Nat.reduceSub, Nat.reduceMul, Nat.reduceLeDiff, Nat.reduceLT, Nat.reduceEqDiff, if_true, if_false, reduceIte, Bool.false_eq_true, wipeS, lim0, lim1, lim2, lim3, Bool.not_false, mp_ty, mp_app B ps ws g h hpl, mw_ty, mw_app B (ps ++ [(g, h)]) ws (wy ++ [p]) hwl, e_nx heo he2, e_nx hfo hf2]
  · rw [decide_eq_false hl, if_pos hl]
    simp only [fnRes, startS, fSeq, fNext, fIfS, fSet, fAsg, gNm, gNms, fPar, fPar3, fRet, fRetN, fDrop, fBreak, fFor, fWhile, fVar, fC, fB, fOp, fAnd, fOr, fNot, fAndV, fOrV, fNotV, fIf, fTup, fLst, fNew, aNil, aCons, aStar, fIx, fSl, oNone, oSome, fCB, fCall, fMt, fPut, fNeg, fChain, fLcG, fLc2G, fRevL, iSeq, iR1, iR2, iEnumF, o1, gYes, endL, Res.bind_ok, Res.st_ok, Res.noex_ok, SRes.seq_nx, SRes.seq_rt, SRes.seq_bk, SRes.turn_nx, SRes.turn_rt, SRes.turn_bk, SRes.res, List.map_cons, List.map_nil, List.length_cons, List.length_nil, List.cons_append, List.nil_append, List.append_nil, List.replicate, List.getElem?_cons_zero, List.getElem?_cons_succ, List.set_cons_zero, List.set_cons_succ, List.zip_cons_cons, List.foldl_cons, List.foldl_nil, List.zip_nil_left, Nat.reduceAdd, Nat.reduceSub, Nat.reduceMul, Nat.reduceLeDiff, Nat.reduceLT, Nat.reduceEqDiff, if_true, if_false, reduceIte, Bool.false_eq_true, wipeS, lim0, lim1, lim2, lim3, Bool.not_false]
end
end Fl
set_option Elab.async false
set_option linter.all false
set_option maxRecDepth 100000
set_option maxHeartbeats 4000000
/-! P6: tables_parted is the search. -/
namespace Fl
open PySem PySem.Spec PyProof.Rows L2
section
variable {t u : Mt.Tb T} {n m k w w' : Nat}
/-- what the loop over a row gives -/
def endS (B : Mem) (sl : Option T → Option T → Option T → Option T → Slots) : Except (List Nat) (List (Nat × Nat) × List (List Nat)) → SRes → Prop
  | .error wy, r => ∃ J, r = .rt (encW wy) (B ++ J)
  | .ok (ps, ws), r => ∃ a b c d, r = .nx (sl a b c d) (mem2 B ps ws)
theorem i_eqN (i j : Nat) (M : Mem) : oEq (.int (i : Int)) (.int (j : Int)) M = .ok (.bl (decide (i = j))) M := by
  rw [i_eq]
  congr 2
  rw [Bool.eq_iff_iff, decide_eq_true_eq, decide_eq_true_eq]
  omega
theorem forL_nil {x : Src} {G : FG} {F : FS} {s : Slots} {M : Mem} (hx : x.cell = none) : forL x G F [] s M = .nx s M := by
  show (if srcOk x M = true then SRes.nx s M else SRes.stuck) = _
  rw [if_pos (by simp [srcOk, hx])]
theorem row_of (t : Mt.Tb T) (i : Nat) : Mt.row t i = t.getD i [] := rfl
theorem scan_tp (B : Mem) (q i j : Nat) (wy : List Nat) (x : Src) (hx : x.cell = none) (ht : TabOk n k w t) (hu : TabOk m k w' u) (hi : i < n) (hj : j < m) (hwy : wy.length < 900000) : ∀ (es fs : List (Mt.Ent T)) (p : Nat) (ps : List (Nat × Nat)) (ws : List (List Nat)) (a b c d : Option T),
    (∀ e ∈ es, e ∈ Mt.row t i) → (Mt.row u j).drop p = fs → es.length = fs.length → ps[q]? = some (i, j) → ws[q]? = some wy → ps.length + es.length < 900000 → ws.length + es.length < 900000 →
    endS B (fun a b c d => [some (encT t), some (encT u), some (.int (q : Nat)), some (.ref B.length), some (.ref (B.length + 1)), a, b, c, d]) (Mt.scan wy p es fs ps ws)
      (forL x (gNms [5, 6]) b1_tables_parted (enumT p (es.map encE)) [some (encT t), some (encT u), some (.int (q : Nat)), some (.ref B.length), some (.ref (B.length + 1)), a, b, c, d] (mem2 B ps ws))
  | [], fs, p, ps, ws, a, b, c, d, _, hf, hl, _, _, _, _ => by
    have : fs = [] := List.eq_nil_of_length_eq_zero hl.symm
    subst this
    rw [show enumT p (([] : List (Mt.Ent T)).map encE) = [] from rfl, forL_nil hx]
    unfold Mt.scan
    exact ⟨_, _, _, _, rfl⟩
  | e :: es, [], p, ps, ws, a, b, c, d, _, _, hl, _, _, _, _ => by simp at hl
  | e :: es, f :: fs, p, ps, ws, a, b, c, d, he, hf, hl, hq, hw, hpl, hwl => by
    have hfp : (Mt.row u j)[p]? = some f := by
      have := congrArg (·[0]?) hf
      simpa using this
    have hf' : (Mt.row u j).drop (p + 1) = fs := by
      rw [← List.drop_drop, hf]
      rfl
    have hl' : es.length = fs.length := by simpa using hl
    simp only [List.length_cons] at hpl hwl
    have ih := fun ps ws a b c d => scan_tp B q i j wy x hx ht hu hi hj hwy es fs (p + 1) ps ws a b c d (fun e' h => he e' (List.mem_cons_of_mem _ h)) hf' hl'
    obtain ⟨c', d', e1⟩ := b1_tp B q i j p ps ws wy c d ht hu hi hj hq hw (by omega) (by omega) hwy e f (he e List.mem_cons_self) hfp
    rw [List.map_cons, enumT]
    unfold forL
    rw [if_pos (by simp [srcOk, hx])]
    rw [show gNms [5, 6] (.tup [.int (p : Nat), encE e]) [some (encT t), some (encT u), some (.int (q : Nat)), some (.ref B.length), some (.ref (B.length + 1)), a, b, c, d] = some [some (encT t), some (encT u), some (.int (q : Nat)), some (.ref B.length), some (.ref (B.length + 1)), some (.int (p : Nat)), some (encE e), c, d] from rfl]
    simp only
    rw [e1]
    unfold Mt.scan
    by_cases hl2 : e.1 = f.1
    · rw [if_neg (fun z : e.1 ≠ f.1 => z hl2), if_neg (fun z : e.1 ≠ f.1 => z hl2)]
      cases he2 : e.2 with
      | none => exact ih ps ws _ _ _ _ hq hw (by omega) (by omega)
      | some g =>
        cases hf2 : f.2 with
        | none => exact ih ps ws _ _ _ _ hq hw (by omega) (by omega)
        | some h =>
          simp only
          by_cases hm : (g, h) ∈ ps
          · rw [if_pos hm, if_pos hm]
            exact ih ps ws _ _ _ _ hq hw (by omega) (by omega)
          · rw [if_neg hm, if_neg hm]
            exact ih _ _ _ _ _ _ (by rw [List.getElem?_append_left (List.getElem?_eq_some_iff.mp hq).1]; exact hq) (by rw [List.getElem?_append_left (List.getElem?_eq_some_iff.mp hw).1]; exact hw) (by simp; omega) (by simp; omega)
    · rw [if_pos hl2, if_pos hl2]
      exact ⟨_, rfl⟩
theorem rangeT_cons (lo : Int) (f : Nat) : rangeT lo (f + 1) = .int lo :: rangeT (lo + 1) f := by
  unfold rangeT
  rw [List.range_succ_eq_map, List.map_cons, List.map_map]
  congr 1
  · simp
  · refine List.map_congr_left fun a _ => ?_
    show T.int (lo + ((a + 1 : Nat) : Int)) = T.int (lo + 1 + (a : Int))
    congr 1
    omega
theorem scan_grow {wy : List Nat} : ∀ (es fs : List (Mt.Ent T)) (p : Nat) (ps : List (Nat × Nat)) (ws : List (List Nat)) {ps' : List (Nat × Nat)} {ws' : List (List Nat)}, Mt.scan wy p es fs ps ws = .ok (ps', ws') →
    (∃ a, ps' = ps ++ a ∧ a.length ≤ es.length) ∧ (∃ b, ws' = ws ++ b ∧ (∀ z ∈ b, z.length = wy.length + 1) ∧ b.length ≤ es.length) ∧ (ps.length = ws.length → ps'.length = ws'.length)
  | [], fs, p, ps, ws, ps', ws', h => by
    simp only [Mt.scan, Except.ok.injEq, Prod.mk.injEq] at h
    obtain ⟨rfl, rfl⟩ := h
    exact ⟨⟨[], by simp⟩, ⟨[], by simp⟩, id⟩
  | e :: es, [], p, ps, ws, ps', ws', h => by
    simp only [Mt.scan, Except.ok.injEq, Prod.mk.injEq] at h
    obtain ⟨rfl, rfl⟩ := h
    exact ⟨⟨[], by simp⟩, ⟨[], by simp⟩, id⟩
  | e :: es, f :: fs, p, ps, ws, ps', ws', h => by
    unfold Mt.scan at h
    have skip : Mt.scan wy (p + 1) es fs ps ws = .ok (ps', ws') → _ := fun h => scan_grow es fs (p + 1) ps ws h
    have one : Mt.scan wy (p + 1) es fs ps ws = .ok (ps', ws') → (∃ a, ps' = ps ++ a ∧ a.length ≤ (e :: es).length) ∧ (∃ b, ws' = ws ++ b ∧ (∀ z ∈ b, z.length = wy.length + 1) ∧ b.length ≤ (e :: es).length) ∧ (ps.length = ws.length → ps'.length = ws'.length) := fun h => by
      obtain ⟨⟨a, a1, a2⟩, ⟨b, b1, b2, b3⟩, c⟩ := skip h
      exact ⟨⟨a, a1, by simp; omega⟩, ⟨b, b1, b2, by simp; omega⟩, c⟩
    split at h
    · cases h
    · split at h
      · split at h
        · exact one h
        · rename_i g h2 hg hh hm
          obtain ⟨⟨a, a1, a2⟩, ⟨b, b1, b2, b3⟩, c⟩ := scan_grow es fs (p + 1) _ _ h
          refine ⟨⟨(g, h2) :: a, by rw [a1]; simp, by simp; omega⟩, ⟨(wy ++ [p]) :: b, by rw [b1]; simp, fun z hz => ?_, by simp; omega⟩, fun z => c (by simp [z])⟩
          rcases List.mem_cons.mp hz with rfl | hz
          · simp
          · exact b2 z hz
      · exact one h
/-- what the whole loop gives -/
def endP (B : Mem) : Option (List Nat) → SRes → Prop
  | some wy, r => ∃ J, r = .rt (encW wy) (B ++ J)
  | none, r => ∃ s' J, r = .nx s' (B ++ J)
theorem part_tp (B : Mem) (x : Src) (hx : x.cell = none) (ht : TabOk n k w t) (hu : TabOk m k w' u) : ∀ (f q : Nat) (ps : List (Nat × Nat)) (ws : List (List Nat)) (y a b c d : Option T), q ≤ ps.length → ps.length = ws.length → (∀ z ∈ ps, z.1 < n ∧ z.2 < m) → (∀ z ∈ ws, z.length ≤ 1000) → (∀ (i : Nat) (z : List Nat), ws[i]? = some z → z.length ≤ i) →
    q + f ≤ 1000 → ps.length + f * k < 10000 →
    endP B (Mt.part t u f q ps ws) (forL x (gNm 2) b2_tables_parted (rangeT (q : Nat) f) [some (encT t), some (encT u), y, some (.ref B.length), some (.ref (B.length + 1)), a, b, c, d] (mem2 B ps ws))
  | 0, q, ps, ws, y, a, b, c, d, hq, hpw, hb, hz, hzi, hf, hk => by
    unfold Mt.part
    rw [show rangeT (q : Nat) 0 = [] from rfl]
    rw [forL_nil hx]
    exact ⟨_, _, rfl⟩
  | f + 1, q, ps, ws, y, a, b, c, d, hq, hpw, hb, hz, hzi, hf, hk => by
    rw [rangeT_cons]
    unfold forL
    rw [if_pos (by simp [srcOk, hx])]
    simp only [fnRes, startS, fSeq, fNext, fIfS, fSet, fAsg, gNm, gNms, fPar, fPar3, fRet, fRetN, fDrop, fBreak, fFor, fWhile, fVar, fC, fB, fOp, fAnd, fOr, fNot, fAndV, fOrV, fNotV, fIf, fTup, fLst, fNew, aNil, aCons, aStar, fIx, fSl, oNone, oSome, fCB, fCall, fMt, fPut, fNeg, fChain, fLcG, fLc2G, fRevL, iSeq, iR1, iR2, iEnumF, o1, gYes, endL, Res.bind_ok, Res.st_ok, Res.noex_ok, SRes.seq_nx, SRes.seq_rt, SRes.seq_bk, SRes.turn_nx, SRes.turn_rt, SRes.turn_bk, SRes.res, List.map_cons, List.map_nil, List.length_cons, List.length_nil, List.cons_append, List.nil_append, List.append_nil, List.replicate, List.getElem?_cons_zero, List.getElem?_cons_succ, List.set_cons_zero, List.set_cons_succ, List.zip_cons_cons, List.foldl_cons, List.foldl_nil, List.zip_nil_left, Nat.reduceAdd, Nat.reduceSub, Nat.reduceMul, Nat.reduceLeDiff, Nat.reduceLT, Nat.reduceEqDiff, if_true, if_false, reduceIte, Bool.false_eq_true, wipeS, lim0, lim1, lim2, lim3]
    unfold Mt.part
    by_cases hqe : q = ps.length
    · rw [if_pos hqe]
      unfold b2_tables_parted
      simp only [fnRes, startS, fSeq, fNext, fIfS, fSet, fAsg, gNm, gNms, fPar, fPar3, fRet, fRetN, fDrop, fBreak, fFor, fWhile, fVar, fC, fB, fOp, fAnd, fOr, fNot, fAndV, fOrV, fNotV, fIf, fTup, fLst, fNew, aNil, aCons, aStar, fIx, fSl, oNone, oSome, fCB, fCall, fMt, fPut, fNeg, fChain, fLcG, fLc2G, fRevL, iSeq, iR1, iR2, iEnumF, o1, gYes, endL, Res.bind_ok, Res.st_ok, Res.noex_ok, SRes.seq_nx, SRes.seq_rt, SRes.seq_bk, SRes.turn_nx, SRes.turn_rt, SRes.turn_bk, SRes.res, List.map_cons, List.map_nil, List.length_cons, List.length_nil, List.cons_append, List.nil_append, List.append_nil, List.replicate, List.getElem?_cons_zero, List.getElem?_cons_succ, List.set_cons_zero, List.set_cons_succ, List.zip_cons_cons, List.foldl_cons, List.foldl_nil, List.zip_nil_left, Nat.reduceAdd, Nat.reduceSub, Nat.reduceMul, Nat.reduceLeDiff, Nat.reduceLT, Nat.reduceEqDiff, if_true, if_false, reduceIte, Bool.false_eq_true, wipeS, lim0, lim1, lim2, lim3, mp_len, i_eqN, decide_eq_true hqe]
      exact ⟨_, _, rfl⟩
    · rw [if_neg hqe]
      have hlt : q < ps.length := by omega
      have hlw : q < ws.length := by omega
      have hget : ps.getD q (0, 0) = ps[q] := by rw [List.getD_eq_getElem?_getD, List.getElem?_eq_getElem hlt]; rfl
      have hgw : ws.getD q [] = ws[q] := by rw [List.getD_eq_getElem?_getD, List.getElem?_eq_getElem hlw]; rfl
      rw [hget, hgw]
      obtain ⟨hi, hj⟩ := hb ps[q] (List.getElem_mem hlt)
      have hit : ps[q].1 < t.length := by rw [ht.len]; exact hi
      have hjt : ps[q].2 < u.length := by rw [hu.len]; exact hj
      have e1 := mp_ix B ps ws (List.getElem?_eq_getElem hlt)
      have hrow : oIx (encT t) (.int (ps[q].1 : Nat)) (mem2 B ps ws) = .ok (encL (Mt.row t ps[q].1)) (mem2 B ps ws) := by
        refine ix_tup _ _ _ _ ?_
        rw [map_get encL t _ hit, row_of, List.getD_eq_getElem?_getD, List.getElem?_eq_getElem hit]
        rfl
      have hlr : (Mt.row t ps[q].1).length = k := ht.row _ (Mt.row_mem hit)
      have hlu : (Mt.row u ps[q].2).length = k := hu.row _ (Mt.row_mem hjt)
      have hkk := ht.kle
      have hmul : (f + 1) * k = f * k + k := by rw [Nat.add_mul, Nat.one_mul]
      have hwq : ws[q].length ≤ 1000 := hz _ (List.getElem_mem hlw)
      have sc := scan_tp B q ps[q].1 ps[q].2 ws[q] ⟨enumT 0 ((Mt.row t ps[q].1).map encE), none, []⟩ rfl ht hu hi hj (by omega) (Mt.row t ps[q].1) (Mt.row u ps[q].2) 0 ps ws a b c d (fun e h => h) (by simp) (by omega) (List.getElem?_eq_getElem hlt) (List.getElem?_eq_getElem hlw) (by omega) (by omega)
      have hb2 : b2_tables_parted [some (encT t), some (encT u), some (.int (q : Nat)), some (.ref B.length), some (.ref (B.length + 1)), a, b, c, d] (mem2 B ps ws) =
          forL ⟨enumT 0 ((Mt.row t ps[q].1).map encE), none, []⟩ (gNms [5, 6]) b1_tables_parted (enumT 0 ((Mt.row t ps[q].1).map encE)) [some (encT t), some (encT u), some (.int (q : Nat)), some (.ref B.length), some (.ref (B.length + 1)), a, b, c, d] (mem2 B ps ws) := by
        unfold b2_tables_parted
        simp only [fnRes, startS, fSeq, fNext, fIfS, fSet, fAsg, gNm, gNms, fPar, fPar3, fRet, fRetN, fDrop, fBreak, fFor, fWhile, fVar, fC, fB, fOp, fAnd, fOr, fNot, fAndV, fOrV, fNotV, fIf, fTup, fLst, fNew, aNil, aCons, aStar, fIx, fSl, oNone, oSome, fCB, fCall, fMt, fPut, fNeg, fChain, fLcG, fLc2G, fRevL, iSeq, iR1, iR2, iEnumF, o1, gYes, endL, Res.bind_ok, Res.st_ok, Res.noex_ok, SRes.seq_nx, SRes.seq_rt, SRes.seq_bk, SRes.turn_nx, SRes.turn_rt, SRes.turn_bk, SRes.res, List.map_cons, List.map_nil, List.length_cons, List.length_nil, List.cons_append, List.nil_append, List.append_nil, List.replicate, List.getElem?_cons_zero, List.getElem?_cons_succ, List.set_cons_zero, List.set_cons_succ, List.zip_cons_cons, List.foldl_cons, List.foldl_nil, List.zip_nil_left, Nat.reduceAdd, Nat.reduceSub, Nat.reduceMul, Nat.reduceLeDiff, Nat.reduceLT, Nat.reduceEqDiff, if_true, if_false, reduceIte, Bool.false_eq_true, wipeS, lim0, lim1, lim2, lim3, mp_len, i_eqN, decide_eq_false hqe, e1]
        rw [show oIx (encP ps[q]) (.int 0) (mem2 B ps ws) = .ok (.int (ps[q].1 : Nat)) (mem2 B ps ws) from rfl]
        simp only [fnRes, startS, fSeq, fNext, fIfS, fSet, fAsg, gNm, gNms, fPar, fPar3, fRet, fRetN, fDrop, fBreak, fFor, fWhile, fVar, fC, fB, fOp, fAnd, fOr, fNot, fAndV, fOrV, fNotV, fIf, fTup, fLst, fNew, aNil, aCons, aStar, fIx, fSl, oNone, oSome, fCB, fCall, fMt, fPut, fNeg, fChain, fLcG, fLc2G, fRevL, iSeq, iR1, iR2, iEnumF, o1, gYes, endL, Res.bind_ok, Res.st_ok, Res.noex_ok, SRes.seq_nx, SRes.seq_rt, SRes.seq_bk, SRes.turn_nx, SRes.turn_rt, SRes.turn_bk, SRes.res, List.map_cons, List.map_nil, List.length_cons, List.length_nil, List.cons_append, List.nil_append, List.append_nil, List.replicate, List.getElem?_cons_zero, List.getElem?_cons_succ, List.set_cons_zero, List.set_cons_succ, List.zip_cons_cons, List.foldl_cons, List.foldl_nil, List.zip_nil_left, Nat.reduceAdd, Nat.reduceSub, Nat.reduceMul, Nat.reduceLeDiff, Nat.reduceLT, Nat.reduceEqDiff, if_true, if_false, reduceIte, Bool.false_eq_true, wipeS, lim0, lim1, lim2, lim3, hrow]
        rfl
      rw [hb2]
      cases hs : Mt.scan ws[q] 0 (Mt.row t ps[q].1) (Mt.row u ps[q].2) ps ws with
      | error wy =>
        rw [hs] at sc
        obtain ⟨J, e⟩ := sc
        rw [e]
        exact ⟨J, rfl⟩
      | ok r =>
        obtain ⟨ps', ws'⟩ := r
        rw [hs] at sc
        obtain ⟨a', b', c', d', e⟩ := sc
        rw [e]
        obtain ⟨⟨pa, p1, p2⟩, ⟨wb, w1, w2, w3⟩, hpw'⟩ := scan_grow _ _ _ _ _ hs
        have hwf : Mt.scan ws[q] 0 (Mt.row t ps[q].1) (Mt.row u ps[q].2) ps ws = .ok (ps', ws') := hs
        obtain ⟨more, m1, _, _, m4⟩ := Mt.scan_ok (by omega) (fun e he f hf h => some_of (ht.ent _ (Mt.row_mem hit) e he) (hu.ent _ (Mt.row_mem hjt) f hf) h) hwf
        have := part_tp B x hx ht hu f (q + 1) ps' ws' (some (.int (q : Nat))) a' b' c' d' (by rw [p1, List.length_append]; omega) (hpw' hpw) (fun z hz' => ?_) (fun z hz' => ?_) (fun i z hiz => ?_) (by omega) (by rw [p1, List.length_append]; omega)
        · exact this
        · rw [m1] at hz'
          rcases List.mem_append.mp hz' with h | h
          · exact hb z h
          · obtain ⟨e, he, f', hf', g1, g2⟩ := m4 z h
            have o1 := ht.ent _ (Mt.row_mem hit) e he
            have o2 := hu.ent _ (Mt.row_mem hjt) f' hf'
            constructor
            · cases o1 with
              | clash => cases g1
              | stuck => cases g1
              | good _ _ h3 => cases g1; exact h3
            · cases o2 with
              | clash => cases g2
              | stuck => cases g2
              | good _ _ h3 => cases g2; exact h3
        · rw [w1] at hz'
          rcases List.mem_append.mp hz' with h | h
          · exact hz z h
          · rw [w2 z h]
            have := hzi q ws[q] (List.getElem?_eq_getElem hlw)
            omega
        · rw [w1] at hiz
          by_cases hil : i < ws.length
          · rw [List.getElem?_append_left hil] at hiz
            exact hzi i z hiz
          · rw [List.getElem?_append_right (by omega)] at hiz
            rw [w2 z (List.mem_of_getElem? hiz)]
            have := hzi q ws[q] (List.getElem?_eq_getElem hlw)
            omega
end
end Fl
set_option Elab.async false
set_option linter.all false
set_option maxRecDepth 100000
set_option maxHeartbeats 4000000
/-! P7: tables_parted and the law's own search are the search. -/
namespace Fl
open PySem PySem.Spec PyProof.Rows L2
def wayT : Option (List Nat) → T
  | none => .non
  | some w => encW w
theorem encW_pl (w : List Nat) : T.pl 1 (encW w) = true := by
  unfold encW
  simp only [T.pl, Nat.reduceSub, Nat.reduceLT, decide_true, Bool.true_and]
  exact (pls_iff 0 _).mpr fun v hv => by
    obtain ⟨i, _, rfl⟩ := List.mem_map.mp hv
    rfl
theorem wayT_pl (o : Option (List Nat)) : T.pl 1 (wayT o) = true := by
  cases o with
  | none => rfl
  | some w => exact encW_pl w
def MemClo (B : Mem) : Prop := ∀ c ∈ B, Cell.clo B.length c
section
variable {t u : Mt.Tb T} {n m k w w' : Nat}
theorem encT_len (ht : TabOk n k w t) (M : Mem) : oLen [encT t] M = .ok (.int (n : Nat)) M := by
  show Res.ok (T.int ((t.map encL).length : Nat)) _ = _
  rw [List.length_map, ht.len]
theorem nm_le (ht : TabOk n k w t) (hu : TabOk m k w' u) : n * m ≤ 49 := Nat.mul_le_mul ht.le hu.le
theorem mul_nm (ht : TabOk n k w t) (hu : TabOk m k w' u) (M : Mem) : oMul (.int (n : Nat)) (.int (m : Nat)) M = .ok (.int ((n * m : Nat) : Int)) M := by
  have h1 := ht.le
  have h2 := hu.le
  rw [i_mul _ _ _ (by unfold mulOk; rw [decide_eq_true (show Int.natAbs _ < _ by omega)]; rfl)]
  congr 2
theorem tp_ok (B : Mem) (hB : MemClo B) (ht : TabOk n k w t) (hu : TabOk m k w' u) : cln g_tables_parted [encT t, encT u] B = .ok (wayT (Mt.parting t u 0 0)) B := by
  have hnm := nm_le ht hu
  have hk := ht.kle
  have hp := part_tp B ⟨rangeT 0 ((n * m : Nat) : Int).toNat, none, []⟩ rfl ht hu (n * m) 0 [(0, 0)] [[]] none none none none none (by simp) rfl (fun z hz => by simp at hz; subst hz; exact ⟨ht.pos, hu.pos⟩) (fun z hz => by simp at hz; subst hz; simp) (fun i z h => by
    have := List.mem_of_getElem? h
    simp at this
    subst this
    simp) (by omega) (by
      have := Nat.mul_le_mul hnm hk
      simp
      omega)
  have key : ∃ J, g_tables_parted [encT t, encT u] B = .ok (wayT (Mt.parting t u 0 0)) (B ++ J) := by
    unfold g_tables_parted F_tables_parted
    simp only [fnRes, startS, fSeq, fNext, fIfS, fSet, fAsg, gNm, gNms, fPar, fPar3, fRet, fRetN, fDrop, fBreak, fFor, fWhile, fVar, fC, fB, fOp, fAnd, fOr, fNot, fAndV, fOrV, fNotV, fIf, fTup, fLst, fNew, aNil, aCons, aStar, fIx, fSl, oNone, oSome, fCB, fCall, fMt, fPut, fNeg, fChain, fLcG, fLc2G, fRevL, iSeq, iR1, iR2, iEnumF, o1, gYes, endL, Res.bind_ok, Res.st_ok, Res.noex_ok, SRes.seq_nx, SRes.seq_rt, SRes.seq_bk, SRes.turn_nx, SRes.turn_rt, SRes.turn_bk, SRes.res, List.map_cons, List.map_nil, List.length_cons, List.length_nil, List.cons_append, List.nil_append, List.append_nil, List.replicate, List.getElem?_cons_zero, List.getElem?_cons_succ, List.set_cons_zero, List.set_cons_succ, List.zip_cons_cons, List.foldl_cons, List.foldl_nil, List.zip_nil_left, Nat.reduceAdd, Nat.reduceSub, Nat.reduceMul, Nat.reduceLeDiff, Nat.reduceLT, Nat.reduceEqDiff, if_true, if_false, reduceIte, Bool.false_eq_true, wipeS, lim0, lim1, lim2, lim3, List.length_append, encT_len ht, encT_len hu, mul_nm ht hu]
    rw [show B ++ [Cell.lst [T.tup [T.int 0, T.int 0]]] ++ [Cell.lst [T.tup []]] = mem2 B [(0, 0)] [[]] by simp [mem2, encP, encW]]
    rw [rangeS (n := ((n * m : Nat) : Int)) (by omega) (by omega)]
    simp only [fnRes, startS, fSeq, fNext, fIfS, fSet, fAsg, gNm, gNms, fPar, fPar3, fRet, fRetN, fDrop, fBreak, fFor, fWhile, fVar, fC, fB, fOp, fAnd, fOr, fNot, fAndV, fOrV, fNotV, fIf, fTup, fLst, fNew, aNil, aCons, aStar, fIx, fSl, oNone, oSome, fCB, fCall, fMt, fPut, fNeg, fChain, fLcG, fLc2G, fRevL, iSeq, iR1, iR2, iEnumF, o1, gYes, endL, Res.bind_ok, Res.st_ok, Res.noex_ok, SRes.seq_nx, SRes.seq_rt, SRes.seq_bk, SRes.turn_nx, SRes.turn_rt, SRes.turn_bk, SRes.res, List.map_cons, List.map_nil, List.length_cons, List.length_nil, List.cons_append, List.nil_append, List.append_nil, List.replicate, List.getElem?_cons_zero, List.getElem?_cons_succ, List.set_cons_zero, List.set_cons_succ, List.zip_cons_cons, List.foldl_cons, List.foldl_nil, List.zip_nil_left, Nat.reduceAdd, Nat.reduceSub, Nat.reduceMul, Nat.reduceLeDiff, Nat.reduceLT, Nat.reduceEqDiff, if_true, if_false, reduceIte, Bool.false_eq_true, wipeS, lim0, lim1, lim2, lim3]
    rw [show rangeT 0 ((n * m : Nat) : Int).toNat = rangeT ((0 : Nat) : Int) (n * m) by rw [Int.toNat_natCast]; rfl] at hp ⊢
    rw [show Mt.parting t u 0 0 = Mt.part t u (n * m) 0 [(0, 0)] [[]] by unfold Mt.parting; rw [ht.len, hu.len]]
    cases hq : Mt.part t u (n * m) 0 [(0, 0)] [[]] with
    | none =>
      rw [hq] at hp
      obtain ⟨s', J, e⟩ := hp
      rw [e]
      simp only [fnRes, startS, fSeq, fNext, fIfS, fSet, fAsg, gNm, gNms, fPar, fPar3, fRet, fRetN, fDrop, fBreak, fFor, fWhile, fVar, fC, fB, fOp, fAnd, fOr, fNot, fAndV, fOrV, fNotV, fIf, fTup, fLst, fNew, aNil, aCons, aStar, fIx, fSl, oNone, oSome, fCB, fCall, fMt, fPut, fNeg, fChain, fLcG, fLc2G, fRevL, iSeq, iR1, iR2, iEnumF, o1, gYes, endL, Res.bind_ok, Res.st_ok, Res.noex_ok, SRes.seq_nx, SRes.seq_rt, SRes.seq_bk, SRes.turn_nx, SRes.turn_rt, SRes.turn_bk, SRes.res, List.map_cons, List.map_nil, List.length_cons, List.length_nil, List.cons_append, List.nil_append, List.append_nil, List.replicate, List.getElem?_cons_zero, List.getElem?_cons_succ, List.set_cons_zero, List.set_cons_succ, List.zip_cons_cons, List.foldl_cons, List.foldl_nil, List.zip_nil_left, Nat.reduceAdd, Nat.reduceSub, Nat.reduceMul, Nat.reduceLeDiff, Nat.reduceLT, Nat.reduceEqDiff, if_true, if_false, reduceIte, Bool.false_eq_true, wipeS, lim0, lim1, lim2, lim3]
      exact ⟨J, rfl⟩
    | some wy =>
      rw [hq] at hp
      obtain ⟨J, e⟩ := hp
      rw [e]
      simp only [fnRes, startS, fSeq, fNext, fIfS, fSet, fAsg, gNm, gNms, fPar, fPar3, fRet, fRetN, fDrop, fBreak, fFor, fWhile, fVar, fC, fB, fOp, fAnd, fOr, fNot, fAndV, fOrV, fNotV, fIf, fTup, fLst, fNew, aNil, aCons, aStar, fIx, fSl, oNone, oSome, fCB, fCall, fMt, fPut, fNeg, fChain, fLcG, fLc2G, fRevL, iSeq, iR1, iR2, iEnumF, o1, gYes, endL, Res.bind_ok, Res.st_ok, Res.noex_ok, SRes.seq_nx, SRes.seq_rt, SRes.seq_bk, SRes.turn_nx, SRes.turn_rt, SRes.turn_bk, SRes.res, List.map_cons, List.map_nil, List.length_cons, List.length_nil, List.cons_append, List.nil_append, List.append_nil, List.replicate, List.getElem?_cons_zero, List.getElem?_cons_succ, List.set_cons_zero, List.set_cons_succ, List.zip_cons_cons, List.foldl_cons, List.foldl_nil, List.zip_nil_left, Nat.reduceAdd, Nat.reduceSub, Nat.reduceMul, Nat.reduceLeDiff, Nat.reduceLT, Nat.reduceEqDiff, if_true, if_false, reduceIte, Bool.false_eq_true, wipeS, lim0, lim1, lim2, lim3]
      exact ⟨J, rfl⟩
  obtain ⟨J, e⟩ := key
  exact cln_ok e rfl (.same (pl_clo _ 1 _ (wayT_pl _))) hB
/-! ### the law's own -/
theorem b1_lp (B : Mem) (q p : Nat) (ps : List (Nat × Nat)) (ws : List (List Nat)) (wy : List Nat) (K J : Option T) (r1 r2 : List (Mt.Ent T)) (hw : ws[q]? = some wy) (hpl : ps.length < 900000) (hwl : ws.length < 900000) (hwy : wy.length < 900000)
    (e f : Mt.Ent T) (he : r1[p]? = some e) (hf : r2[p]? = some f) (heo : EntOk n w e) (hfo : EntOk m w' f) :
    b1__law_parting [some (encT t), K, some (encT u), J, some (.int (q : Nat)), some (.ref B.length), some (.ref (B.length + 1)), some (.int (p : Nat)), some (encL r1), some (encL r2)] (mem2 B ps ws) =
      if e.1 ≠ f.1 then .rt (encW (wy ++ [p])) (mem2 B ps ws) else match e.2, f.2 with
        | some g, some h => if (g, h) ∈ ps then .nx [some (encT t), K, some (encT u), J, some (.int (q : Nat)), some (.ref B.length), some (.ref (B.length + 1)), some (.int (p : Nat)), some (encL r1), some (encL r2)] (mem2 B ps ws)
          else .nx [some (encT t), K, some (encT u), J, some (.int (q : Nat)), some (.ref B.length), some (.ref (B.length + 1)), some (.int (p : Nat)), some (encL r1), some (encL r2)] (mem2 B (ps ++ [(g, h)]) (ws ++ [wy ++ [p]]))
        | _, _ => .nx [some (encT t), K, some (encT u), J, some (.int (q : Nat)), some (.ref B.length), some (.ref (B.length + 1)), some (.int (p : Nat)), some (encL r1), some (encL r2)] (mem2 B ps ws) := by
  have x2 : ∀ ps', oIx (.ref (B.length + 1)) (.int (q : Nat)) (mem2 B ps' ws) = .ok (encW wy) (mem2 B ps' ws) := fun ps' => mw_ix B ps' ws hw
  have x4 : ∀ M, oIx (encL r1) (.int (p : Nat)) M = .ok (encE e) M := fun M => ix_tup _ _ _ _ (by rw [List.getElem?_map, he]; rfl)
  have x5 : ∀ M, oIx (encL r2) (.int (p : Nat)) M = .ok (encE f) M := fun M => ix_tup _ _ _ _ (by rw [List.getElem?_map, hf]; rfl)
  have x6 : ∀ M, oAdd (encW wy) (.tup [.int (p : Nat)]) M = .ok (encW (wy ++ [p])) M := fun M => by
    show (if (wy.map fun (i : Nat) => T.int (i : Nat)).length + 1 ≤ lim then Res.ok (T.tup ((wy.map fun (i : Nat) => T.int (i : Nat)) ++ [.int (p : Nat)])) M else .stuck) = _
    rw [if_pos (by rw [List.length_map]; unfold lim; omega), way_ok]
  have x7 : ∀ M : Mem, (oIx (encE e) (.int 0) M).bind (fun a M1 => oEq a (.str "good") M1) = .ok (.bl e.2.isSome) M := fun M => e_good heo M
  unfold b1__law_parting
  simp only [fnRes, startS, fSeq, fNext, fIfS, fSet, fAsg, gNm, gNms, fPar, fPar3, fRet, fRetN, fDrop, fBreak, fFor, fWhile, fVar, fC, fB, fOp, fAnd, fOr, fNot, fAndV, fOrV, fNotV, fIf, fTup, fLst, fNew, aNil, aCons, aStar, fIx, fSl, oNone, oSome, fCB, fCall, fMt, fPut, fNeg, fChain, fLcG, fLc2G, fRevL, iSeq, iR1, iR2, iEnumF, o1, gYes, endL, Res.bind_ok, Res.st_ok, Res.noex_ok, SRes.seq_nx, SRes.seq_rt, SRes.seq_bk, SRes.turn_nx, SRes.turn_rt, SRes.turn_bk, SRes.res, List.map_cons, List.map_nil, List.length_cons, List.length_nil, List.cons_append, List.nil_append, List.append_nil, List.replicate, List.getElem?_cons_zero, List.getElem?_cons_succ, List.set_cons_zero, List.set_cons_succ, List.zip_cons_cons, List.foldl_cons, List.foldl_nil, List.zip_nil_left, Nat.reduceAdd, Nat.reduceSub, Nat.reduceMul, Nat.reduceLeDiff, Nat.reduceLT, Nat.reduceEqDiff, if_true, if_false, reduceIte, Bool.false_eq_true, wipeS, lim0, lim1, lim2, lim3, x2, x4, x5, e_lab heo, e_lab hfo]
  rw [oNe_lab heo hfo]
  by_cases hl : e.1 = f.1
  · rw [decide_eq_true hl, if_neg (fun z : e.1 ≠ f.1 => z hl)]
    simp only [fnRes, startS, fSeq, fNext, fIfS, fSet, fAsg, gNm, gNms, fPar, fPar3, fRet, fRetN, fDrop, fBreak, fFor, fWhile, fVar, fC, fB, fOp, fAnd, fOr, fNot, fAndV, fOrV, fNotV, fIf, fTup, fLst, fNew, aNil, aCons, aStar, fIx, fSl, oNone, oSome, fCB, fCall, fMt, fPut, fNeg, fChain, fLcG, fLc2G, fRevL, iSeq, iR1, iR2, iEnumF, o1, gYes, endL, Res.bind_ok, Res.st_ok, Res.noex_ok, SRes.seq_nx, SRes.seq_rt, SRes.seq_bk, SRes.turn_nx, SRes.turn_rt, SRes.turn_bk, SRes.res, List.map_cons, List.map_nil, List.length_cons, List.length_nil, List.cons_append, List.nil_append, List.append_nil, List.replicate, List.getElem?_cons_zero, List.getElem?_cons_succ, List.set_cons_zero, List.set_cons_succ, List.zip_cons_cons, List.foldl_cons, List.foldl_nil, List.zip_nil_left, Nat.reduceAdd, Nat.reduceSub, Nat.reduceMul, Nat.reduceLeDiff, Nat.reduceLT, Nat.reduceEqDiff, if_true, if_false, reduceIte, Bool.false_eq_true, wipeS, lim0, lim1, lim2, lim3, Bool.not_true, x4, x5]
    rw [x7]
    have hsm := some_of heo hfo hl
    cases he2 : e.2 with
    | none =>
      simp only [fnRes, startS, fSeq, fNext, fIfS, fSet, fAsg, gNm, gNms, fPar, fPar3, fRet, fRetN, fDrop, fBreak, fFor, fWhile, fVar, fC, fB, fOp, fAnd, fOr, fNot, fAndV, fOrV, fNotV, fIf, fTup, fLst, fNew, aNil, aCons, aStar, fIx, fSl, oNone, oSome, fCB, fCall, fMt, fPut, fNeg, fChain, fLcG, fLc2G, fRevL, iSeq, iR1, iR2, iEnumF, o1, gYes, endL, Res.bind_ok, Res.st_ok, Res.noex_ok, SRes.seq_nx, SRes.seq_rt, SRes.seq_bk, SRes.turn_nx, SRes.turn_rt, SRes.turn_bk, SRes.res, List.map_cons, List.map_nil, List.length_cons, List.length_nil, List.cons_append, List.nil_append, List.append_nil, List.replicate, List.getElem?_cons_zero, List.getElem?_cons_succ, List.set_cons_zero, List.set_cons_succ, List.zip_cons_cons, List.foldl_cons, List.foldl_nil, List.zip_nil_left, Nat.reduceAdd, Nat.reduceSub, Nat.reduceMul, Nat.reduceLeDiff, Nat.reduceLT, Nat.reduceEqDiff, if_true, if_false, reduceIte, Bool.false_eq_true, wipeS, lim0, lim1, lim2, lim3, Option.isSome_none]
    | some g =>
      cases hf2 : f.2 with
      | none => rw [he2, hf2] at hsm; cases hsm
      | some h =>
        simp only [fnRes, startS, fSeq, fNext, fIfS, fSet, fAsg, gNm, gNms, fPar, fPar3, fRet, fRetN, fDrop, fBreak, fFor, fWhile, fVar, fC, fB, fOp, fAnd, fOr, fNot, fAndV, fOrV, fNotV, fIf, fTup, fLst, fNew, aNil, aCons, aStar, fIx, fSl, oNone, oSome, fCB, fCall, fMt, fPut, fNeg, fChain, fLcG, fLc2G, fRevL, iSeq, iR1, iR2, iEnumF, o1, gYes, endL, Res.bind_ok, Res.st_ok, Res.noex_ok, SRes.seq_nx, SRes.seq_rt, SRes.seq_bk, SRes.turn_nx, SRes.turn_rt, SRes.turn_bk, SRes.res, List.map_cons, List.map_nil, List.length_cons, List.length_nil, List.cons_append, List.nil_append, List.append_nil, List.replicate, List.getElem?_cons_zero, List.getElem?_cons_succ, List.set_cons_zero, List.set_cons_succ, List.zip_cons_cons, List.foldl_cons, List.foldl_nil, List.zip_nil_left, Nat.reduceAdd, Nat.reduceSub, Nat.reduceMul, Nat.reduceLeDiff, Nat.reduceLT, Nat.reduceEqDiff, if_true, if_false, reduceIte, Bool.false_eq_true, wipeS, lim0, lim1, lim2, lim3, Option.isSome_some, x4, x5, e_nx heo he2, e_nx hfo hf2]
        rw [mp_notin]
        by_cases hm : (g, h) ∈ ps
        · rw [if_pos hm, decide_eq_true hm]
          simp only [fnRes, startS, fSeq, fNext, fIfS, fSet, fAsg, gNm, gNms, fPar, fPar3, fRet, fRetN, fDrop, fBreak, fFor, fWhile, fVar, fC, fB, fOp, fAnd, fOr, fNot, fAndV, fOrV, fNotV, fIf, fTup, fLst, fNew, aNil, aCons, aStar, fIx, fSl, oNone, oSome, fCB, fCall, fMt, fPut, fNeg, fChain, fLcG, fLc2G, fRevL, iSeq, iR1, iR2, iEnumF, o1, gYes, endL, Res.bind_ok, Res.st_ok, Res.noex_ok, SRes.seq_nx, SRes.seq_rt, SRes.seq_bk, SRes.turn_nx, SRes.turn_rt, SRes.turn_bk, SRes.res, List.map_cons, List.map_nil, List.length_cons, List.length_nil, List.cons_append, List.nil_append, List.append_nil, List.replicate, List.getElem?_cons_zero, List.getElem?_cons_succ, List.set_cons_zero, List.set_cons_succ, List.zip_cons_cons, List.foldl_cons, List.foldl_nil, List.zip_nil_left, Nat.reduceAdd, Nat.reduceSub, Nat.reduceMul, Nat.reduceLeDiff, Nat.reduceLT, Nat.reduceEqDiff, if_true, if_false, reduceIte, Bool.false_eq_true, wipeS, lim0, lim1, lim2, lim3, Bool.not_true]
        · rw [if_neg hm, decide_eq_false hm]
          simp only [fnRes, startS, fSeq, fNext, fIfS, fSet, fAsg, gNm, gNms, fPar, fPar3, fRet, fRetN, fDrop, fBreak, fFor, fWhile, fVar, fC, fB, fOp, fAnd, fOr, fNot, fAndV, fOrV, fNotV, fIf, fTup, fLst, fNew, aNil, aCons, aStar, fIx, fSl, oNone, oSome, fCB, fCall, fMt, fPut, fNeg, fChain, fLcG, fLc2G, fRevL, iSeq, iR1, iR2, iEnumF, o1, gYes, endL, Res.bind_ok, Res.st_ok, Res.noex_ok, SRes.seq_nx, SRes.seq_rt, SRes.seq_bk, SRes.turn_nx, SRes.turn_rt, SRes.turn_bk, SRes.res, List.map_cons, List.map_nil, List.length_cons, List.length_nil, List.cons_append, List.nil_append, List.append_nil, List.replicate, List.getElem?_cons_zero, List.getElem?_cons_succ, List.set_cons_zero, List.set_cons_succ, List.zip_cons_cons, List.foldl_cons, List.foldl_nil, List.zip_nil_left, Nat.reduceAdd, Nat.reduceSub, Nat.reduceMul, Nat.reduceLeDiff, Nat.reduceLT, Nat.reduceEqDiff, if_true, if_false, reduceIte, Bool.false_eq_true, wipeS, lim0, lim1, lim2, lim3, Bool.not_false, mp_ty, mp_app B ps ws g h hpl, mw_ty, x2, x4, x5, x6, mw_app B (ps ++ [(g, h)]) ws (wy ++ [p]) hwl, e_nx heo he2, e_nx hfo hf2]
  · rw [decide_eq_false hl, if_pos hl]
    simp only [fnRes, startS, fSeq, fNext, fIfS, fSet, fAsg, gNm, gNms, fPar, fPar3, fRet, fRetN, fDrop, fBreak, fFor, fWhile, fVar, fC, fB, fOp, fAnd, fOr, fNot, fAndV, fOrV, fNotV, fIf, fTup, fLst, fNew, aNil, aCons, aStar, fIx, fSl, oNone, oSome, fCB, fCall, fMt, fPut, fNeg, fChain, fLcG, fLc2G, fRevL, iSeq, iR1, iR2, iEnumF, o1, gYes, endL, Res.bind_ok, Res.st_ok, Res.noex_ok, SRes.seq_nx, SRes.seq_rt, SRes.seq_bk, SRes.turn_nx, SRes.turn_rt, SRes.turn_bk, SRes.res, List.map_cons, List.map_nil, List.length_cons, List.length_nil, List.cons_append, List.nil_append, List.append_nil, List.replicate, List.getElem?_cons_zero, List.getElem?_cons_succ, List.set_cons_zero, List.set_cons_succ, List.zip_cons_cons, List.foldl_cons, List.foldl_nil, List.zip_nil_left, Nat.reduceAdd, Nat.reduceSub, Nat.reduceMul, Nat.reduceLeDiff, Nat.reduceLT, Nat.reduceEqDiff, if_true, if_false, reduceIte, Bool.false_eq_true, wipeS, lim0, lim1, lim2, lim3, Bool.not_false, x2, x6]
theorem scan_lp (B : Mem) (q : Nat) (wy : List Nat) (K J : Option T) (r1 r2 : List (Mt.Ent T)) (x : Src) (hx : x.cell = none) (h1 : ∀ e ∈ r1, EntOk n w e) (h2 : ∀ e ∈ r2, EntOk m w' e) (hwy : wy.length < 900000) : ∀ (es fs : List (Mt.Ent T)) (p : Nat) (ps : List (Nat × Nat)) (ws : List (List Nat)) (a : Option T),
    r1.drop p = es → r2.drop p = fs → es.length = fs.length → ws[q]? = some wy → ps.length + es.length < 900000 → ws.length + es.length < 900000 →
    endS B (fun a _ _ _ => [some (encT t), K, some (encT u), J, some (.int (q : Nat)), some (.ref B.length), some (.ref (B.length + 1)), a, some (encL r1), some (encL r2)]) (Mt.scan wy p es fs ps ws)
      (forL x (gNm 7) b1__law_parting (rangeT (p : Nat) es.length) [some (encT t), K, some (encT u), J, some (.int (q : Nat)), some (.ref B.length), some (.ref (B.length + 1)), a, some (encL r1), some (encL r2)] (mem2 B ps ws))
  | [], fs, p, ps, ws, a, _, hf, hl, _, _, _ => by
    have : fs = [] := List.eq_nil_of_length_eq_zero hl.symm
    subst this
    rw [show rangeT (p : Nat) ([] : List (Mt.Ent T)).length = [] from rfl, forL_nil hx]
    unfold Mt.scan
    exact ⟨a, none, none, none, rfl⟩
  | e :: es, [], p, ps, ws, a, _, _, hl, _, _, _ => by simp at hl
  | e :: es, f :: fs, p, ps, ws, a, he, hf, hl, hw, hpl, hwl => by
    have hep : r1[p]? = some e := by
      have := congrArg (·[0]?) he
      simpa using this
    have hfp : r2[p]? = some f := by
      have := congrArg (·[0]?) hf
      simpa using this
    have he' : r1.drop (p + 1) = es := by
      rw [← List.drop_drop, he]
      rfl
    have hf' : r2.drop (p + 1) = fs := by
      rw [← List.drop_drop, hf]
      rfl
    have hl' : es.length = fs.length := by simpa using hl
    simp only [List.length_cons] at hpl hwl
    have ih := fun ps ws a => scan_lp B q wy K J r1 r2 x hx h1 h2 hwy es fs (p + 1) ps ws a he' hf' hl'
    have e1 := b1_lp (t := t) (u := u) B q p ps ws wy K J r1 r2 hw (by omega) (by omega) hwy e f hep hfp (h1 e (List.mem_of_getElem? hep)) (h2 f (List.mem_of_getElem? hfp))
    rw [List.length_cons, rangeT_cons, show ((p : Nat) : Int) + 1 = ((p + 1 : Nat) : Int) by omega]
    unfold forL
    rw [if_pos (by simp [srcOk, hx])]
    simp only [fnRes, startS, fSeq, fNext, fIfS, fSet, fAsg, gNm, gNms, fPar, fPar3, fRet, fRetN, fDrop, fBreak, fFor, fWhile, fVar, fC, fB, fOp, fAnd, fOr, fNot, fAndV, fOrV, fNotV, fIf, fTup, fLst, fNew, aNil, aCons, aStar, fIx, fSl, oNone, oSome, fCB, fCall, fMt, fPut, fNeg, fChain, fLcG, fLc2G, fRevL, iSeq, iR1, iR2, iEnumF, o1, gYes, endL, Res.bind_ok, Res.st_ok, Res.noex_ok, SRes.seq_nx, SRes.seq_rt, SRes.seq_bk, SRes.turn_nx, SRes.turn_rt, SRes.turn_bk, SRes.res, List.map_cons, List.map_nil, List.length_cons, List.length_nil, List.cons_append, List.nil_append, List.append_nil, List.replicate, List.getElem?_cons_zero, List.getElem?_cons_succ, List.set_cons_zero, List.set_cons_succ, List.zip_cons_cons, List.foldl_cons, List.foldl_nil, List.zip_nil_left, Nat.reduceAdd, Nat.reduceSub, Nat.reduceMul, Nat.reduceLeDiff, Nat.reduceLT, Nat.reduceEqDiff, if_true, if_false, reduceIte, Bool.false_eq_true, wipeS, lim0, lim1, lim2, lim3]
    rw [e1]
    unfold Mt.scan
    by_cases hl2 : e.1 = f.1
    · rw [if_neg (fun z : e.1 ≠ f.1 => z hl2), if_neg (fun z : e.1 ≠ f.1 => z hl2)]
      cases he2 : e.2 with
      | none => exact ih ps ws _ hw (by omega) (by omega)
      | some g =>
        cases hf2 : f.2 with
        | none => exact ih ps ws _ hw (by omega) (by omega)
        | some h =>
          simp only
          by_cases hm : (g, h) ∈ ps
          · rw [if_pos hm, if_pos hm]
            exact ih ps ws _ hw (by omega) (by omega)
          · rw [if_neg hm, if_neg hm]
            exact ih _ _ _ (by rw [List.getElem?_append_left (List.getElem?_eq_some_iff.mp hw).1]; exact hw) (by simp; omega) (by simp; omega)
    · rw [if_pos hl2, if_pos hl2]
      exact ⟨_, rfl⟩
end
end Fl
set_option Elab.async false
set_option linter.all false
set_option maxRecDepth 100000
set_option maxHeartbeats 4000000
/-! P8: the law's own search. -/
namespace Fl
open PySem PySem.Spec PyProof.Rows L2
section
variable {t u : Mt.Tb T} {n m k w w' : Nat}
theorem ix_row (ht : TabOk n k w t) {i : Nat} (hi : i < n) (M : Mem) : oIx (encT t) (.int (i : Nat)) M = .ok (encL (Mt.row t i)) M := by
  have hit : i < t.length := by rw [ht.len]; exact hi
  refine ix_tup _ _ _ _ ?_
  rw [map_get encL t _ hit, row_of, List.getD_eq_getElem?_getD, List.getElem?_eq_getElem hit]
  rfl
theorem part_lp (B : Mem) (x : Src) (hx : x.cell = none) (ht : TabOk n k w t) (hu : TabOk m k w' u) (K J : Option T) : ∀ (f q : Nat) (ps : List (Nat × Nat)) (ws : List (List Nat)) (y a b c : Option T), q ≤ ps.length → ps.length = ws.length → (∀ z ∈ ps, z.1 < n ∧ z.2 < m) → (∀ z ∈ ws, z.length ≤ 1000) → (∀ (i : Nat) (z : List Nat), ws[i]? = some z → z.length ≤ i) →
    q + f ≤ 1000 → ps.length + f * k < 10000 →
    (∃ J', forL x (gNm 4) b2__law_parting (rangeT (q : Nat) f) [some (encT t), K, some (encT u), J, y, some (.ref B.length), some (.ref (B.length + 1)), a, b, c] (mem2 B ps ws) = .rt (wayT (Mt.part t u f q ps ws)) (B ++ J')) ∨
      (Mt.part t u f q ps ws = none ∧ ∃ s' J', forL x (gNm 4) b2__law_parting (rangeT (q : Nat) f) [some (encT t), K, some (encT u), J, y, some (.ref B.length), some (.ref (B.length + 1)), a, b, c] (mem2 B ps ws) = .nx s' (B ++ J'))
  | 0, q, ps, ws, y, a, b, c, hq, hpw, hb, hz, hzi, hf, hk => by
    unfold Mt.part
    rw [show rangeT (q : Nat) 0 = [] from rfl]
    rw [forL_nil hx]
    exact .inr ⟨rfl, _, _, rfl⟩
  | f + 1, q, ps, ws, y, a, b, c, hq, hpw, hb, hz, hzi, hf, hk => by
    rw [rangeT_cons]
    unfold forL
    rw [if_pos (by simp [srcOk, hx])]
    simp only [fnRes, startS, fSeq, fNext, fIfS, fSet, fAsg, gNm, gNms, fPar, fPar3, fRet, fRetN, fDrop, fBreak, fFor, fWhile, fVar, fC, fB, fOp, fAnd, fOr, fNot, fAndV, fOrV, fNotV, fIf, fTup, fLst, fNew, aNil, aCons, aStar, fIx, fSl, oNone, oSome, fCB, fCall, fMt, fPut, fNeg, fChain, fLcG, fLc2G, fRevL, iSeq, iR1, iR2, iEnumF, o1, gYes, endL, Res.bind_ok, Res.st_ok, Res.noex_ok, SRes.seq_nx, SRes.seq_rt, SRes.seq_bk, SRes.turn_nx, SRes.turn_rt, SRes.turn_bk, SRes.res, List.map_cons, List.map_nil, List.length_cons, List.length_nil, List.cons_append, List.nil_append, List.append_nil, List.replicate, List.getElem?_cons_zero, List.getElem?_cons_succ, List.set_cons_zero, List.set_cons_succ, List.zip_cons_cons, List.foldl_cons, List.foldl_nil, List.zip_nil_left, Nat.reduceAdd, Nat.reduceSub, Nat.reduceMul, Nat.reduceLeDiff, Nat.reduceLT, Nat.reduceEqDiff, if_true, if_false, reduceIte, Bool.false_eq_true, wipeS, lim0, lim1, lim2, lim3]
    unfold Mt.part
    by_cases hqe : q = ps.length
    · rw [if_pos hqe]
      unfold b2__law_parting
      simp only [fnRes, startS, fSeq, fNext, fIfS, fSet, fAsg, gNm, gNms, fPar, fPar3, fRet, fRetN, fDrop, fBreak, fFor, fWhile, fVar, fC, fB, fOp, fAnd, fOr, fNot, fAndV, fOrV, fNotV, fIf, fTup, fLst, fNew, aNil, aCons, aStar, fIx, fSl, oNone, oSome, fCB, fCall, fMt, fPut, fNeg, fChain, fLcG, fLc2G, fRevL, iSeq, iR1, iR2, iEnumF, o1, gYes, endL, Res.bind_ok, Res.st_ok, Res.noex_ok, SRes.seq_nx, SRes.seq_rt, SRes.seq_bk, SRes.turn_nx, SRes.turn_rt, SRes.turn_bk, SRes.res, List.map_cons, List.map_nil, List.length_cons, List.length_nil, List.cons_append, List.nil_append, List.append_nil, List.replicate, List.getElem?_cons_zero, List.getElem?_cons_succ, List.set_cons_zero, List.set_cons_succ, List.zip_cons_cons, List.foldl_cons, List.foldl_nil, List.zip_nil_left, Nat.reduceAdd, Nat.reduceSub, Nat.reduceMul, Nat.reduceLeDiff, Nat.reduceLT, Nat.reduceEqDiff, if_true, if_false, reduceIte, Bool.false_eq_true, wipeS, lim0, lim1, lim2, lim3, mp_len, i_eqN, decide_eq_true hqe]
      exact .inl ⟨_, rfl⟩
    · rw [if_neg hqe]
      have hlt : q < ps.length := by omega
      have hlw : q < ws.length := by omega
      have hget : ps.getD q (0, 0) = ps[q] := by rw [List.getD_eq_getElem?_getD, List.getElem?_eq_getElem hlt]; rfl
      have hgw : ws.getD q [] = ws[q] := by rw [List.getD_eq_getElem?_getD, List.getElem?_eq_getElem hlw]; rfl
      rw [hget, hgw]
      obtain ⟨hi, hj⟩ := hb ps[q] (List.getElem_mem hlt)
      have hit : ps[q].1 < t.length := by rw [ht.len]; exact hi
      have hjt : ps[q].2 < u.length := by rw [hu.len]; exact hj
      have e1 := mp_ix B ps ws (List.getElem?_eq_getElem hlt)
      have hlr : (Mt.row t ps[q].1).length = k := ht.row _ (Mt.row_mem hit)
      have hlu : (Mt.row u ps[q].2).length = k := hu.row _ (Mt.row_mem hjt)
      have hkk := ht.kle
      have hmul : (f + 1) * k = f * k + k := by rw [Nat.add_mul, Nat.one_mul]
      have hwq : ws[q].length ≤ 1000 := hz _ (List.getElem_mem hlw)
      have sc := scan_lp (t := t) (u := u) (n := n) (m := m) (w := w) (w' := w') B q ws[q] K J (Mt.row t ps[q].1) (Mt.row u ps[q].2) ⟨rangeT 0 (k : Int).toNat, none, []⟩ rfl (fun e he => ht.ent _ (Mt.row_mem hit) e he) (fun e he => hu.ent _ (Mt.row_mem hjt) e he) (by omega) (Mt.row t ps[q].1) (Mt.row u ps[q].2) 0 ps ws a (by simp) (by simp) (by omega) (List.getElem?_eq_getElem hlw) (by omega) (by omega)
      have hb2 : b2__law_parting [some (encT t), K, some (encT u), J, some (.int (q : Nat)), some (.ref B.length), some (.ref (B.length + 1)), a, b, c] (mem2 B ps ws) =
          forL ⟨rangeT 0 (k : Int).toNat, none, []⟩ (gNm 7) b1__law_parting (rangeT ((0 : Nat) : Int) (Mt.row t ps[q].1).length) [some (encT t), K, some (encT u), J, some (.int (q : Nat)), some (.ref B.length), some (.ref (B.length + 1)), a, some (encL (Mt.row t ps[q].1)), some (encL (Mt.row u ps[q].2))] (mem2 B ps ws) := by
        unfold b2__law_parting
        have pi0 : ∀ M, oIx (encP ps[q]) (.int 0) M = .ok (.int (ps[q].1 : Nat)) M := fun _ => rfl
        have pi1 : ∀ M, oIx (encP ps[q]) (.int 1) M = .ok (.int (ps[q].2 : Nat)) M := fun _ => rfl
        simp only [fnRes, startS, fSeq, fNext, fIfS, fSet, fAsg, gNm, gNms, fPar, fPar3, fRet, fRetN, fDrop, fBreak, fFor, fWhile, fVar, fC, fB, fOp, fAnd, fOr, fNot, fAndV, fOrV, fNotV, fIf, fTup, fLst, fNew, aNil, aCons, aStar, fIx, fSl, oNone, oSome, fCB, fCall, fMt, fPut, fNeg, fChain, fLcG, fLc2G, fRevL, iSeq, iR1, iR2, iEnumF, o1, gYes, endL, Res.bind_ok, Res.st_ok, Res.noex_ok, SRes.seq_nx, SRes.seq_rt, SRes.seq_bk, SRes.turn_nx, SRes.turn_rt, SRes.turn_bk, SRes.res, List.map_cons, List.map_nil, List.length_cons, List.length_nil, List.cons_append, List.nil_append, List.append_nil, List.replicate, List.getElem?_cons_zero, List.getElem?_cons_succ, List.set_cons_zero, List.set_cons_succ, List.zip_cons_cons, List.foldl_cons, List.foldl_nil, List.zip_nil_left, Nat.reduceAdd, Nat.reduceSub, Nat.reduceMul, Nat.reduceLeDiff, Nat.reduceLT, Nat.reduceEqDiff, if_true, if_false, reduceIte, Bool.false_eq_true, wipeS, lim0, lim1, lim2, lim3, mp_len, i_eqN, decide_eq_false hqe, e1, pi0, pi1, ix_row ht hi, ix_row hu hj]
        rw [show oLen [encL (Mt.row t ps[q].1)] (mem2 B ps ws) = .ok (.int (k : Nat)) (mem2 B ps ws) by
          show Res.ok (T.int (((Mt.row t ps[q].1).map encE).length : Nat)) _ = _
          rw [List.length_map, hlr]]
        simp only [fnRes, startS, fSeq, fNext, fIfS, fSet, fAsg, gNm, gNms, fPar, fPar3, fRet, fRetN, fDrop, fBreak, fFor, fWhile, fVar, fC, fB, fOp, fAnd, fOr, fNot, fAndV, fOrV, fNotV, fIf, fTup, fLst, fNew, aNil, aCons, aStar, fIx, fSl, oNone, oSome, fCB, fCall, fMt, fPut, fNeg, fChain, fLcG, fLc2G, fRevL, iSeq, iR1, iR2, iEnumF, o1, gYes, endL, Res.bind_ok, Res.st_ok, Res.noex_ok, SRes.seq_nx, SRes.seq_rt, SRes.seq_bk, SRes.turn_nx, SRes.turn_rt, SRes.turn_bk, SRes.res, List.map_cons, List.map_nil, List.length_cons, List.length_nil, List.cons_append, List.nil_append, List.append_nil, List.replicate, List.getElem?_cons_zero, List.getElem?_cons_succ, List.set_cons_zero, List.set_cons_succ, List.zip_cons_cons, List.foldl_cons, List.foldl_nil, List.zip_nil_left, Nat.reduceAdd, Nat.reduceSub, Nat.reduceMul, Nat.reduceLeDiff, Nat.reduceLT, Nat.reduceEqDiff, if_true, if_false, reduceIte, Bool.false_eq_true, wipeS, lim0, lim1, lim2, lim3]
        rw [rangeS (n := (k : Int)) (by omega) (by omega)]
        simp only [fnRes, startS, fSeq, fNext, fIfS, fSet, fAsg, gNm, gNms, fPar, fPar3, fRet, fRetN, fDrop, fBreak, fFor, fWhile, fVar, fC, fB, fOp, fAnd, fOr, fNot, fAndV, fOrV, fNotV, fIf, fTup, fLst, fNew, aNil, aCons, aStar, fIx, fSl, oNone, oSome, fCB, fCall, fMt, fPut, fNeg, fChain, fLcG, fLc2G, fRevL, iSeq, iR1, iR2, iEnumF, o1, gYes, endL, Res.bind_ok, Res.st_ok, Res.noex_ok, SRes.seq_nx, SRes.seq_rt, SRes.seq_bk, SRes.turn_nx, SRes.turn_rt, SRes.turn_bk, SRes.res, List.map_cons, List.map_nil, List.length_cons, List.length_nil, List.cons_append, List.nil_append, List.append_nil, List.replicate, List.getElem?_cons_zero, List.getElem?_cons_succ, List.set_cons_zero, List.set_cons_succ, List.zip_cons_cons, List.foldl_cons, List.foldl_nil, List.zip_nil_left, Nat.reduceAdd, Nat.reduceSub, Nat.reduceMul, Nat.reduceLeDiff, Nat.reduceLT, Nat.reduceEqDiff, if_true, if_false, reduceIte, Bool.false_eq_true, wipeS, lim0, lim1, lim2, lim3]
        rw [hlr, Int.toNat_natCast]
        rfl
      rw [hb2]
      cases hs : Mt.scan ws[q] 0 (Mt.row t ps[q].1) (Mt.row u ps[q].2) ps ws with
      | error wy =>
        rw [hs] at sc
        obtain ⟨J', e⟩ := sc
        rw [e]
        exact .inl ⟨J', rfl⟩
      | ok r =>
        obtain ⟨ps', ws'⟩ := r
        rw [hs] at sc
        obtain ⟨a', b', c', d', e⟩ := sc
        rw [e]
        obtain ⟨⟨pa, p1, p2⟩, ⟨wb, w1, w2, w3⟩, hpw'⟩ := scan_grow _ _ _ _ _ hs
        obtain ⟨more, m1, _, _, m4⟩ := Mt.scan_ok (by omega) (fun e he f hf h => some_of (ht.ent _ (Mt.row_mem hit) e he) (hu.ent _ (Mt.row_mem hjt) f hf) h) hs
        have := part_lp B x hx ht hu K J f (q + 1) ps' ws' (some (.int (q : Nat))) a' (some (encL (Mt.row t ps[q].1))) (some (encL (Mt.row u ps[q].2))) (by rw [p1, List.length_append]; omega) (hpw' hpw) (fun z hz' => ?_) (fun z hz' => ?_) (fun i z hiz => ?_) (by omega) (by rw [p1, List.length_append]; omega)
        · exact this
        · rw [m1] at hz'
          rcases List.mem_append.mp hz' with h | h
          · exact hb z h
          · obtain ⟨e, he, f', hf', g1, g2⟩ := m4 z h
            have o1 := ht.ent _ (Mt.row_mem hit) e he
            have o2 := hu.ent _ (Mt.row_mem hjt) f' hf'
            constructor
            · cases o1 with
              | clash => cases g1
              | stuck => cases g1
              | good _ _ h3 => cases g1; exact h3
            · cases o2 with
              | clash => cases g2
              | stuck => cases g2
              | good _ _ h3 => cases g2; exact h3
        · rw [w1] at hz'
          rcases List.mem_append.mp hz' with h | h
          · exact hz z h
          · rw [w2 z h]
            have := hzi q ws[q] (List.getElem?_eq_getElem hlw)
            omega
        · rw [w1] at hiz
          by_cases hil : i < ws.length
          · rw [List.getElem?_append_left hil] at hiz
            exact hzi i z hiz
          · rw [List.getElem?_append_right (by omega)] at hiz
            rw [w2 z (List.mem_of_getElem? hiz)]
            have := hzi q ws[q] (List.getElem?_eq_getElem hlw)
            omega
theorem lp_ok (B : Mem) (hB : MemClo B) (ht : TabOk n k w t) (hu : TabOk m k w' u) {i j : Nat} (hi : i < n) (hj : j < m) : cln g__law_parting [encT t, .int (i : Nat), encT u, .int (j : Nat)] B = .ok (wayT (Mt.parting t u i j)) B := by
  have hnm := nm_le ht hu
  have hk := ht.kle
  have hp := part_lp B ⟨rangeT 0 ((n * m : Nat) : Int).toNat, none, []⟩ rfl ht hu (some (.int (i : Nat))) (some (.int (j : Nat))) (n * m) 0 [(i, j)] [[]] none none none none (by simp) rfl (fun z hz => by simp at hz; subst hz; exact ⟨hi, hj⟩) (fun z hz => by simp at hz; subst hz; simp) (fun i z h => by
    have := List.mem_of_getElem? h
    simp at this
    subst this
    simp) (by omega) (by
      have := Nat.mul_le_mul hnm hk
      simp
      omega)
  have key : ∃ J, g__law_parting [encT t, .int (i : Nat), encT u, .int (j : Nat)] B = .ok (wayT (Mt.parting t u i j)) (B ++ J) := by
    unfold g__law_parting F__law_parting
    simp only [fnRes, startS, fSeq, fNext, fIfS, fSet, fAsg, gNm, gNms, fPar, fPar3, fRet, fRetN, fDrop, fBreak, fFor, fWhile, fVar, fC, fB, fOp, fAnd, fOr, fNot, fAndV, fOrV, fNotV, fIf, fTup, fLst, fNew, aNil, aCons, aStar, fIx, fSl, oNone, oSome, fCB, fCall, fMt, fPut, fNeg, fChain, fLcG, fLc2G, fRevL, iSeq, iR1, iR2, iEnumF, o1, gYes, endL, Res.bind_ok, Res.st_ok, Res.noex_ok, SRes.seq_nx, SRes.seq_rt, SRes.seq_bk, SRes.turn_nx, SRes.turn_rt, SRes.turn_bk, SRes.res, List.map_cons, List.map_nil, List.length_cons, List.length_nil, List.cons_append, List.nil_append, List.append_nil, List.replicate, List.getElem?_cons_zero, List.getElem?_cons_succ, List.set_cons_zero, List.set_cons_succ, List.zip_cons_cons, List.foldl_cons, List.foldl_nil, List.zip_nil_left, Nat.reduceAdd, Nat.reduceSub, Nat.reduceMul, Nat.reduceLeDiff, Nat.reduceLT, Nat.reduceEqDiff, if_true, if_false, reduceIte, Bool.false_eq_true, wipeS, lim0, lim1, lim2, lim3, List.length_append, encT_len ht, encT_len hu, mul_nm ht hu]
    rw [show B ++ [Cell.lst [T.tup [T.int (i : Nat), T.int (j : Nat)]]] ++ [Cell.lst [T.tup []]] = mem2 B [(i, j)] [[]] by simp [mem2, encP, encW]]
    rw [rangeS (n := ((n * m : Nat) : Int)) (by omega) (by omega)]
    simp only [fnRes, startS, fSeq, fNext, fIfS, fSet, fAsg, gNm, gNms, fPar, fPar3, fRet, fRetN, fDrop, fBreak, fFor, fWhile, fVar, fC, fB, fOp, fAnd, fOr, fNot, fAndV, fOrV, fNotV, fIf, fTup, fLst, fNew, aNil, aCons, aStar, fIx, fSl, oNone, oSome, fCB, fCall, fMt, fPut, fNeg, fChain, fLcG, fLc2G, fRevL, iSeq, iR1, iR2, iEnumF, o1, gYes, endL, Res.bind_ok, Res.st_ok, Res.noex_ok, SRes.seq_nx, SRes.seq_rt, SRes.seq_bk, SRes.turn_nx, SRes.turn_rt, SRes.turn_bk, SRes.res, List.map_cons, List.map_nil, List.length_cons, List.length_nil, List.cons_append, List.nil_append, List.append_nil, List.replicate, List.getElem?_cons_zero, List.getElem?_cons_succ, List.set_cons_zero, List.set_cons_succ, List.zip_cons_cons, List.foldl_cons, List.foldl_nil, List.zip_nil_left, Nat.reduceAdd, Nat.reduceSub, Nat.reduceMul, Nat.reduceLeDiff, Nat.reduceLT, Nat.reduceEqDiff, if_true, if_false, reduceIte, Bool.false_eq_true, wipeS, lim0, lim1, lim2, lim3]
    rw [show rangeT 0 ((n * m : Nat) : Int).toNat = rangeT ((0 : Nat) : Int) (n * m) by rw [Int.toNat_natCast]; rfl] at hp ⊢
    rw [show Mt.parting t u i j = Mt.part t u (n * m) 0 [(i, j)] [[]] by unfold Mt.parting; rw [ht.len, hu.len]]
    rcases hp with ⟨J, e⟩ | ⟨hn, s', J, e⟩
    · rw [e]
      simp only [fnRes, startS, fSeq, fNext, fIfS, fSet, fAsg, gNm, gNms, fPar, fPar3, fRet, fRetN, fDrop, fBreak, fFor, fWhile, fVar, fC, fB, fOp, fAnd, fOr, fNot, fAndV, fOrV, fNotV, fIf, fTup, fLst, fNew, aNil, aCons, aStar, fIx, fSl, oNone, oSome, fCB, fCall, fMt, fPut, fNeg, fChain, fLcG, fLc2G, fRevL, iSeq, iR1, iR2, iEnumF, o1, gYes, endL, Res.bind_ok, Res.st_ok, Res.noex_ok, SRes.seq_nx, SRes.seq_rt, SRes.seq_bk, SRes.turn_nx, SRes.turn_rt, SRes.turn_bk, SRes.res, List.map_cons, List.map_nil, List.length_cons, List.length_nil, List.cons_append, List.nil_append, List.append_nil, List.replicate, List.getElem?_cons_zero, List.getElem?_cons_succ, List.set_cons_zero, List.set_cons_succ, List.zip_cons_cons, List.foldl_cons, List.foldl_nil, List.zip_nil_left, Nat.reduceAdd, Nat.reduceSub, Nat.reduceMul, Nat.reduceLeDiff, Nat.reduceLT, Nat.reduceEqDiff, if_true, if_false, reduceIte, Bool.false_eq_true, wipeS, lim0, lim1, lim2, lim3]
      exact ⟨J, rfl⟩
    · rw [e, hn]
      simp only [fnRes, startS, fSeq, fNext, fIfS, fSet, fAsg, gNm, gNms, fPar, fPar3, fRet, fRetN, fDrop, fBreak, fFor, fWhile, fVar, fC, fB, fOp, fAnd, fOr, fNot, fAndV, fOrV, fNotV, fIf, fTup, fLst, fNew, aNil, aCons, aStar, fIx, fSl, oNone, oSome, fCB, fCall, fMt, fPut, fNeg, fChain, fLcG, fLc2G, fRevL, iSeq, iR1, iR2, iEnumF, o1, gYes, endL, Res.bind_ok, Res.st_ok, Res.noex_ok, SRes.seq_nx, SRes.seq_rt, SRes.seq_bk, SRes.turn_nx, SRes.turn_rt, SRes.turn_bk, SRes.res, List.map_cons, List.map_nil, List.length_cons, List.length_nil, List.cons_append, List.nil_append, List.append_nil, List.replicate, List.getElem?_cons_zero, List.getElem?_cons_succ, List.set_cons_zero, List.set_cons_succ, List.zip_cons_cons, List.foldl_cons, List.foldl_nil, List.zip_nil_left, Nat.reduceAdd, Nat.reduceSub, Nat.reduceMul, Nat.reduceLeDiff, Nat.reduceLT, Nat.reduceEqDiff, if_true, if_false, reduceIte, Bool.false_eq_true, wipeS, lim0, lim1, lim2, lim3]
      exact ⟨J, rfl⟩
  obtain ⟨J, e⟩ := key
  exact cln_ok e rfl (.same (pl_clo _ 1 _ (wayT_pl _))) hB
end
end Fl
set_option Elab.async false
set_option linter.all false
set_option maxRecDepth 100000
set_option maxHeartbeats 4000000
/-! P9: grouped is the parting into groups. -/
namespace Fl
open PySem PySem.Spec PyProof.Rows L2

def encG (g : List Nat) : List T := g.map fun (i : Nat) => T.int (i : Nat)
theorem encG_pl (g : List Nat) (d : Nat) : T.pls d (encG g) = true := (pls_iff d _).mpr fun v hv => by
  obtain ⟨i, _, rfl⟩ := List.mem_map.mp hv
  rfl
/-! ### len(set(..)) -/
theorem met_nodup (val : Nat → Int) : ∀ i, (firstMet val i).Nodup
  | 0 => by rw [firstMet_zero]; exact List.nodup_nil
  | i + 1 => by
    rw [firstMet_succ]
    have ih := met_nodup val i
    unfold step_dedup
    split
    · exact ih
    · rename_i h
      rw [List.nodup_append]
      refine ⟨ih, by simp, fun a ha b hb e => ?_⟩
      rw [List.mem_singleton] at hb
      subst hb; subst e
      simp_all
theorem uniqI_card (g : List Nat) : (uniqI (g.map fun (i : Nat) => (i : Int))).length = Mt.card g := by
  have hm : ∀ x : Int, x ∈ uniqI (g.map fun (i : Nat) => (i : Int)) ↔ x ∈ g.map fun (i : Nat) => (i : Int) := fun x => by
    have h := firstMet_any (fun i => (g.map fun (i : Nat) => (i : Int)).getD i 0) (g.map fun (i : Nat) => (i : Int)).length x
    have e : (List.range (g.map fun (i : Nat) => (i : Int)).length).map (fun i => (g.map fun (i : Nat) => (i : Int)).getD i 0) = g.map fun (i : Nat) => (i : Int) := by
      apply List.ext_getElem
      · simp
      · intro i h1 h2
        simp only [List.getElem_map, List.getElem_range]
        rw [List.getD_eq_getElem?_getD, List.getElem?_eq_getElem h2]
        simp
    rw [e] at h
    unfold uniqI
    rw [Bool.eq_iff_iff, List.any_eq_true, List.any_eq_true] at h
    constructor
    · intro hx
      obtain ⟨y, hy, hyx⟩ := h.mp ⟨x, hx, by simp⟩
      rw [← eq_of_beq hyx]
      exact hy
    · intro hx
      obtain ⟨y, hy, hyx⟩ := h.mpr ⟨x, hx, by simp⟩
      rw [← eq_of_beq hyx]
      exact hy
  have nd := met_nodup (fun i => (g.map fun (i : Nat) => (i : Int)).getD i 0) (g.map fun (i : Nat) => (i : Int)).length
  have hnn : ∀ x ∈ uniqI (g.map fun (i : Nat) => (i : Int)), 0 ≤ x := fun x hx => by
    obtain ⟨i, _, rfl⟩ := List.mem_map.mp ((hm x).mp hx)
    omega
  have := Mt.card_eq (l := g) (U := (uniqI (g.map fun (i : Nat) => (i : Int))).map Int.toNat) (by
    rw [List.Nodup, List.pairwise_map]
    refine List.Pairwise.imp_of_mem (fun {a b} ha hb hne e => hne ?_) nd
    have h1 := hnn a ha
    have h2 := hnn b hb
    omega) (fun x => by
    rw [List.mem_map]
    constructor
    · rintro ⟨y, hy, rfl⟩
      obtain ⟨i, hi, rfl⟩ := List.mem_map.mp ((hm y).mp hy)
      simpa using hi
    · intro hx
      exact ⟨(x : Int), (hm _).mpr (List.mem_map.mpr ⟨x, hx, rfl⟩), by simp⟩)
  rw [List.length_map] at this
  exact this
theorem ints_encG : ∀ g : List Nat, intsOf (encG g) = some (g.map fun (i : Nat) => (i : Int))
  | [] => rfl
  | i :: g => by
    show (intsOf (encG g)).map (((i : Nat) : Int) :: ·) = _
    rw [ints_encG g]
    rfl
def isG (B M : Mem) (gv : T) (g : List Nat) : Prop := gv = .lst (encG g) ∨ ∃ n, B.length ≤ n ∧ gv = .ref n ∧ M[n]? = some (.lst (encG g))
theorem isG.lst {B M : Mem} {gv : T} {g : List Nat} (h : isG B M gv g) : lstOf M gv = some (encG g) := by
  rcases h with rfl | ⟨n, _, rfl, h⟩
  · rfl
  · unfold lstOf
    simp only [h]
theorem isG.more {B M : Mem} {gv : T} {g : List Nat} (h : isG B M gv g) (J : Mem) : isG B (M ++ J) gv g := by
  rcases h with rfl | ⟨n, hn, rfl, h⟩
  · exact .inl rfl
  · exact .inr ⟨n, hn, rfl, by rw [List.getElem?_append_left (List.getElem?_eq_some_iff.mp h).1]; exact h⟩
theorem setlen {B M : Mem} {gv : T} {g : List Nat} (h : isG B M gv g) (hg : g.length ≤ 1000) : (oSetI [gv] M).bind (fun t M1 => oLen [t] M1) = .ok (.int (Mt.card g : Nat)) M := by
  unfold oSetI o1
  simp only [h.lst, ints_encG]
  rw [if_pos (by rw [List.length_map]; exact hg)]
  simp only [Res.bind_ok]
  show (if (uniqI (g.map fun (i : Nat) => (i : Int))).length ≤ lim then _ else _) = _
  have := Mt.card_le g
  rw [uniqI_card, if_pos (by unfold lim; omega)]
theorem ixG {B M : Mem} {gv : T} {g : List Nat} (h : isG B M gv g) {i : Nat} (hi : i < g.length) : oIx gv (.int (i : Nat)) M = .ok (.int (g.getD i 0 : Nat)) M := by
  have e : (encG g)[i]? = some (.int (g.getD i 0 : Nat)) := by
    unfold encG
    rw [List.getElem?_map, List.getD_eq_getElem?_getD, List.getElem?_eq_getElem hi]
    rfl
  rcases h with rfl | ⟨n, _, rfl, h⟩
  · exact ix_lst _ _ _ _ e
  · exact ix_at h e
/-! ### keys -/
mutual
theorem nk_inj : ∀ (a b : T) (k : NestedKey), T.nk a = some k → T.nk b = some k → a = b
  | .non, b, k, h, h' => by cases b <;> simp_all [T.nk] <;> (subst h; simp_all)
  | .int i, b, k, h, h' => by
    simp only [T.nk, Option.some.injEq] at h
    subst h
    cases b <;> simp_all [T.nk]
  | .str i, b, k, h, h' => by
    simp only [T.nk, Option.some.injEq] at h
    subst h
    cases b <;> simp_all [T.nk]
  | .tup ts, b, k, h, h' => by
    simp only [T.nk, Option.map_eq_some_iff] at h
    obtain ⟨ks, h1, rfl⟩ := h
    cases b with
    | tup us =>
      simp only [T.nk, Option.map_eq_some_iff] at h'
      obtain ⟨ks', h2, e⟩ := h'
      cases e
      rw [nks_inj ts us ks h1 h2]
    | _ => simp [T.nk] at h'
  | .bl _, _, _, h, _ => by simp [T.nk] at h
  | .lst _, _, _, h, _ => by simp [T.nk] at h
  | .scr _, _, _, h, _ => by simp [T.nk] at h
  | .iset _, _, _, h, _ => by simp [T.nk] at h
  | .rng _ _, _, _, h, _ => by simp [T.nk] at h
  | .ref _, _, _, h, _ => by simp [T.nk] at h
  | .adr _, _, _, h, _ => by simp [T.nk] at h
  | .ty _, _, _, h, _ => by simp [T.nk] at h
theorem nks_inj : ∀ (a b : List T) (k : List NestedKey), T.nks a = some k → T.nks b = some k → a = b
  | [], [], _, _, _ => rfl
  | [], b :: bs, k, h, h' => by
    simp only [T.nks, Option.some.injEq] at h
    subst h
    simp [T.nks, Option.bind_eq_some_iff, Option.map_eq_some_iff] at h'
  | a :: as, [], k, h, h' => by
    simp only [T.nks, Option.some.injEq] at h'
    subst h'
    simp [T.nks, Option.bind_eq_some_iff, Option.map_eq_some_iff] at h
  | a :: as, b :: bs, k, h, h' => by
    simp only [T.nks, Option.bind_eq_some_iff, Option.map_eq_some_iff] at h h'
    obtain ⟨k1, h1, k2, h2, rfl⟩ := h
    obtain ⟨k1', h1', k2', h2', e⟩ := h'
    cases e
    rw [nk_inj a b k1 h1 h1', nks_inj as bs k2 h2 h2']
end
mutual
/-- a tuple of ints, texts, None, to this depth -/
def T.ky : Nat → T → Bool
  | _, .non => true
  | _, .int _ => true
  | _, .str _ => true
  | d, .tup ts => decide (0 < d) && T.kys (d - 1) ts
  | _, _ => false
def T.kys : Nat → List T → Bool
  | _, [] => true
  | d, t :: ts => T.ky d t && T.kys d ts
end
theorem kys_iff (d : Nat) : ∀ ts : List T, T.kys d ts = true ↔ ∀ t ∈ ts, T.ky d t = true
  | [] => by simp [T.kys]
  | t :: ts => by simp [T.kys, kys_iff d ts]
mutual
theorem ky_nk : ∀ (t : T) (d : Nat), T.ky d t = true → ∃ k, T.nk t = some k ∧ k.depth ≤ d
  | .non, _, _ => ⟨_, rfl, Nat.zero_le _⟩
  | .int i, _, _ => ⟨_, rfl, Nat.zero_le _⟩
  | .str x, _, _ => ⟨_, rfl, Nat.zero_le _⟩
  | .tup ts, d, h => by
    simp only [T.ky, Bool.and_eq_true, decide_eq_true_eq] at h
    obtain ⟨ks, h1, h2⟩ := kys_nks ts (d - 1) h.2
    refine ⟨.tup ks, by simp only [T.nk, h1, Option.map_some], ?_⟩
    simp only [NestedKey.depth]
    omega
  | .bl _, _, h => by simp [T.ky] at h
  | .lst _, _, h => by simp [T.ky] at h
  | .scr _, _, h => by simp [T.ky] at h
  | .iset _, _, h => by simp [T.ky] at h
  | .rng _ _, _, h => by simp [T.ky] at h
  | .ref _, _, h => by simp [T.ky] at h
  | .adr _, _, h => by simp [T.ky] at h
  | .ty _, _, h => by simp [T.ky] at h
theorem kys_nks : ∀ (ts : List T) (d : Nat), T.kys d ts = true → ∃ ks, T.nks ts = some ks ∧ NestedKey.depthAll ks ≤ d
  | [], _, _ => ⟨[], rfl, Nat.zero_le _⟩
  | t :: ts, d, h => by
    simp only [T.kys, Bool.and_eq_true] at h
    obtain ⟨k, h1, h2⟩ := ky_nk t d h.1
    obtain ⟨ks, h3, h4⟩ := kys_nks ts d h.2
    refine ⟨k :: ks, by simp only [T.nks, h1, h3, Option.bind_some, Option.map_some], ?_⟩
    simp only [NestedKey.depthAll]
    omega
end
theorem vals_ky : ∀ v ∈ vals, T.ky 1 v = true := by
  intro v hv
  simp only [vals, List.mem_cons, List.not_mem_nil, or_false] at hv
  rcases hv with rfl | rfl | rfl | rfl | rfl <;> simp [T.ky, T.kys]
theorem ent_ky {n w : Nat} {e : Mt.Ent T} (h : EntOk n w e) : T.ky 3 (encE e) = true := by
  cases h with
  | clash => simp [encE, T.ky, T.kys]
  | stuck => simp [encE, T.ky, T.kys]
  | good h1 h2 h3 =>
    have : T.kys 1 _ = true := (kys_iff 1 _).mpr fun v hv => vals_ky v (h2 v hv)
    simp [encE, T.ky, T.kys, this]
theorem line_ky {n w : Nat} {r : List (Mt.Ent T)} (h : ∀ e ∈ r, EntOk n w e) : T.ky 4 (encL r) = true := by
  have : T.kys 3 (r.map encE) = true := (kys_iff 3 _).mpr fun v hv => by
    obtain ⟨e, he, rfl⟩ := List.mem_map.mp hv
    exact ent_ky (h e he)
  unfold encL
  simp only [T.ky, Nat.reduceSub, Nat.reduceLT, decide_true, Bool.true_and]
  exact this
theorem encE_inj {n m w w' : Nat} {e f : Mt.Ent T} (he : EntOk n w e) (hf : EntOk m w' f) (h : encE e = encE f) : e = f := by
  cases he <;> cases hf <;> simp_all [encE] <;> omega
theorem encL_inj {n m w w' : Nat} : ∀ {r s : List (Mt.Ent T)}, (∀ e ∈ r, EntOk n w e) → (∀ e ∈ s, EntOk m w' e) → encL r = encL s → r = s := by
  intro r s hr hs h
  unfold encL at h
  rw [T.tup.injEq] at h
  induction r generalizing s with
  | nil =>
    cases s with
    | nil => rfl
    | cons f fs => simp at h
  | cons e es ih =>
    cases s with
    | nil => simp at h
    | cons f fs =>
      rw [List.map_cons, List.map_cons, List.cons.injEq] at h
      rw [encE_inj (hr e List.mem_cons_self) (hs f List.mem_cons_self) h.1, ih (fun e he => hr e (List.mem_cons_of_mem _ he)) (fun e he => hs e (List.mem_cons_of_mem _ he)) h.2]
end Fl
set_option Elab.async false
set_option linter.all false
set_option maxRecDepth 100000
set_option maxHeartbeats 4000000
/-! P10: grouped. -/
namespace Fl
open PySem PySem.Spec PyProof.Rows L2
section
variable {n m k w w' : Nat} (P : Program) (w0 : World)
noncomputable def keyOf (s : List (Mt.Ent T)) : NestedKey := ((T.nk (encL s)).getD .none)
noncomputable def seenK : List (List (Mt.Ent T)) → Nat → List (NestedKey × T)
  | [], _ => []
  | s :: S, i => (keyOf s, .int (i : Nat)) :: seenK S (i + 1)
theorem seenK_len : ∀ (S : List (List (Mt.Ent T))) (i : Nat), (seenK S i).length = S.length
  | [], _ => rfl
  | s :: S, i => by simp [seenK, seenK_len S]
theorem seenK_snoc (s : List (Mt.Ent T)) : ∀ (S : List (List (Mt.Ent T))) (i : Nat), seenK (S ++ [s]) i = seenK S i ++ [(keyOf s, .int ((i + S.length : Nat) : Int))]
  | [], i => by simp [seenK]
  | a :: S, i => by
    rw [List.cons_append, seenK, seenK, seenK_snoc s S (i + 1), List.cons_append]
    congr 4
    simp
    omega
def Lok (n w : Nat) (s : List (Mt.Ent T)) : Prop := ∀ e ∈ s, EntOk n w e
theorem keyOf_nk {s : List (Mt.Ent T)} (h : Lok n w s) : T.nk (encL s) = some (keyOf s) ∧ (keyOf s).depth ≤ 8 := by
  obtain ⟨k, h1, h2⟩ := ky_nk _ _ (line_ky h)
  unfold keyOf
  rw [h1]
  exact ⟨rfl, by show k.depth ≤ 8; omega⟩
theorem keyOf_inj {s r : List (Mt.Ent T)} (h : Lok n w s) (h' : Lok n w r) (e : keyOf s = keyOf r) : s = r := by
  have h1 := (keyOf_nk h).1
  have h2 := (keyOf_nk h').1
  rw [← e] at h2
  exact encL_inj h h' (nk_inj _ _ _ h1 h2)
theorem lookN_seen {s : List (Mt.Ent T)} (h : Lok n w s) : ∀ (S : List (List (Mt.Ent T))) (i : Nat), (∀ r ∈ S, Lok n w r) → lookN (seenK S i) (keyOf s) = (Mt.ixOf s S).map fun j => .int ((i + j : Nat) : Int)
  | [], i, _ => rfl
  | a :: S, i, hS => by
    have ih := lookN_seen h S (i + 1) fun r hr => hS r (List.mem_cons_of_mem _ hr)
    unfold lookN at ih ⊢
    unfold seenK Mt.ixOf
    rw [List.find?_cons]
    by_cases e : a = s
    · subst e
      simp
    · have hk : keyOf a ≠ keyOf s := fun z => e (keyOf_inj (hS a List.mem_cons_self) h z)
      rw [if_neg e]
      simp only [decide_eq_false hk]
      rw [ih]
      cases Mt.ixOf s S with
      | none => rfl
      | some j =>
        simp only [Option.map_some]
        congr 3
        omega
theorem setdef_ok {s : List (Mt.Ent T)} {S : List (List (Mt.Ent T))} (h : Lok n w s) (hS : ∀ r ∈ S, Lok n w r) (B : Mem) (c : Cell) (hl : S.length < 900000) :
    oSetDef P w0 (.ref B.length) (encL s) (.int (S.length : Nat)) (B ++ [.dn P w0 (seenK S 0), c]) = match Mt.ixOf s S with
      | some i => .ok (.int (i : Nat)) (B ++ [.dn P w0 (seenK S 0), c])
      | none => .ok (.int (S.length : Nat)) (B ++ [.dn P w0 (seenK (S ++ [s]) 0), c]) := by
  obtain ⟨k1, k2⟩ := keyOf_nk h
  unfold oSetDef
  simp only [at_a, and_self, if_true, k1]
  rw [if_pos ⟨rfl, k2, by rw [seenK_len]; unfold lim; omega⟩, lookN_seen h S 0 hS]
  cases hx : Mt.ixOf s S with
  | some i =>
    simp only [Option.map_some, Nat.zero_add]
  | none =>
    simp only [Option.map_none]
    rw [set_a, seenK_snoc, Nat.zero_add]
variable {t : Mt.Tb T}
theorem sgn_ok {g : List Nat} {r : List (Mt.Ent T)} (hr : Lok n w r) (hg : ∀ i ∈ g, i < m) (hgl : g.length = n) : Lok m w (Mt.sgn g r) := fun e he => by
  unfold Mt.sgn at he
  obtain ⟨e0, h0, rfl⟩ := List.mem_map.mp he
  cases hr e0 h0 with
  | clash => exact .clash
  | stuck => exact .stuck
  | @good o x h1 h2 h3 =>
    refine .good h1 h2 ?_
    show g.getD x 0 < m
    rw [List.getD_eq_getElem?_getD, List.getElem?_eq_getElem (by omega)]
    exact hg _ (List.getElem_mem _)
theorem e1_gr {B M : Mem} {gv : T} {g : List Nat} (hG : isG B M gv g) {e : Mt.Ent T} (he : EntOk n w e) (hgl : g.length = n) (a c d f s l : Option T) :
    e1_grouped P w0 [a, some gv, c, d, f, s, l, some (encE e)] M = .ok (encE (e.1, e.2.map fun x => g.getD x 0)) M := by
  have x7 := e_good he M
  unfold e1_grouped
  simp only [fnRes, startS, fSeq, fNext, fIfS, fSet, fAsg, gNm, gNms, fPar, fPar3, fRet, fRetN, fDrop, fBreak, fFor, fWhile, fVar, fC, fB, fOp, fAnd, fOr, fNot, fAndV, fOrV, fNotV, fIf, fTup, fLst, fNew, aNil, aCons, aStar, fIx, fSl, oNone, oSome, fCB, fCall, fMt, fPut, fNeg, fChain, fLcG, fLc2G, fRevL, iSeq, iR1, iR2, iEnumF, o1, gYes, endL, Res.bind_ok, Res.st_ok, Res.noex_ok, SRes.seq_nx, SRes.seq_rt, SRes.seq_bk, SRes.turn_nx, SRes.turn_rt, SRes.turn_bk, SRes.res, List.map_cons, List.map_nil, List.length_cons, List.length_nil, List.cons_append, List.nil_append, List.append_nil, List.replicate, List.getElem?_cons_zero, List.getElem?_cons_succ, List.set_cons_zero, List.set_cons_succ, List.zip_cons_cons, List.foldl_cons, List.foldl_nil, List.zip_nil_left, Nat.reduceAdd, Nat.reduceSub, Nat.reduceMul, Nat.reduceLeDiff, Nat.reduceLT, Nat.reduceEqDiff, if_true, if_false, reduceIte, Bool.false_eq_true, wipeS, lim0, lim1, lim2, lim3]
  rw [x7]
  cases hs : e.2 with
  | none =>
    simp only [fnRes, startS, fSeq, fNext, fIfS, fSet, fAsg, gNm, gNms, fPar, fPar3, fRet, fRetN, fDrop, fBreak, fFor, fWhile, fVar, fC, fB, fOp, fAnd, fOr, fNot, fAndV, fOrV, fNotV, fIf, fTup, fLst, fNew, aNil, aCons, aStar, fIx, fSl, oNone, oSome, fCB, fCall, fMt, fPut, fNeg, fChain, fLcG, fLc2G, fRevL, iSeq, iR1, iR2, iEnumF, o1, gYes, endL, Res.bind_ok, Res.st_ok, Res.noex_ok, SRes.seq_nx, SRes.seq_rt, SRes.seq_bk, SRes.turn_nx, SRes.turn_rt, SRes.turn_bk, SRes.res, List.map_cons, List.map_nil, List.length_cons, List.length_nil, List.cons_append, List.nil_append, List.append_nil, List.replicate, List.getElem?_cons_zero, List.getElem?_cons_succ, List.set_cons_zero, List.set_cons_succ, List.zip_cons_cons, List.foldl_cons, List.foldl_nil, List.zip_nil_left, Nat.reduceAdd, Nat.reduceSub, Nat.reduceMul, Nat.reduceLeDiff, Nat.reduceLT, Nat.reduceEqDiff, if_true, if_false, reduceIte, Bool.false_eq_true, wipeS, lim0, lim1, lim2, lim3, Option.isSome_none, Option.map_none]
    obtain ⟨l', o'⟩ := e
    have hs : o' = none := hs
    subst hs
    rfl
  | some x =>
    have hx : x < n := by
      cases he with
      | clash => cases hs
      | stuck => cases hs
      | good _ _ h3 => cases hs; exact h3
    obtain ⟨ts, t1, t2, t3⟩ := e_mk he (g.getD x 0) (by rw [hs]; rfl)
    simp only [fnRes, startS, fSeq, fNext, fIfS, fSet, fAsg, gNm, gNms, fPar, fPar3, fRet, fRetN, fDrop, fBreak, fFor, fWhile, fVar, fC, fB, fOp, fAnd, fOr, fNot, fAndV, fOrV, fNotV, fIf, fTup, fLst, fNew, aNil, aCons, aStar, fIx, fSl, oNone, oSome, fCB, fCall, fMt, fPut, fNeg, fChain, fLcG, fLc2G, fRevL, iSeq, iR1, iR2, iEnumF, o1, gYes, endL, Res.bind_ok, Res.st_ok, Res.noex_ok, SRes.seq_nx, SRes.seq_rt, SRes.seq_bk, SRes.turn_nx, SRes.turn_rt, SRes.turn_bk, SRes.res, List.map_cons, List.map_nil, List.length_cons, List.length_nil, List.cons_append, List.nil_append, List.append_nil, List.replicate, List.getElem?_cons_zero, List.getElem?_cons_succ, List.set_cons_zero, List.set_cons_succ, List.zip_cons_cons, List.foldl_cons, List.foldl_nil, List.zip_nil_left, Nat.reduceAdd, Nat.reduceSub, Nat.reduceMul, Nat.reduceLeDiff, Nat.reduceLT, Nat.reduceEqDiff, if_true, if_false, reduceIte, Bool.false_eq_true, wipeS, lim0, lim1, lim2, lim3, Option.isSome_some, Option.map_some, e_lab he, t1, e_nx he hs, ixG hG (show x < g.length by omega)]
    rw [show items M (.tup ts) = some ts from rfl]
    simp only [fnRes, startS, fSeq, fNext, fIfS, fSet, fAsg, gNm, gNms, fPar, fPar3, fRet, fRetN, fDrop, fBreak, fFor, fWhile, fVar, fC, fB, fOp, fAnd, fOr, fNot, fAndV, fOrV, fNotV, fIf, fTup, fLst, fNew, aNil, aCons, aStar, fIx, fSl, oNone, oSome, fCB, fCall, fMt, fPut, fNeg, fChain, fLcG, fLc2G, fRevL, iSeq, iR1, iR2, iEnumF, o1, gYes, endL, Res.bind_ok, Res.st_ok, Res.noex_ok, SRes.seq_nx, SRes.seq_rt, SRes.seq_bk, SRes.turn_nx, SRes.turn_rt, SRes.turn_bk, SRes.res, List.map_cons, List.map_nil, List.length_cons, List.length_nil, List.cons_append, List.nil_append, List.append_nil, List.replicate, List.getElem?_cons_zero, List.getElem?_cons_succ, List.set_cons_zero, List.set_cons_succ, List.zip_cons_cons, List.foldl_cons, List.foldl_nil, List.zip_nil_left, Nat.reduceAdd, Nat.reduceSub, Nat.reduceMul, Nat.reduceLeDiff, Nat.reduceLT, Nat.reduceEqDiff, if_true, if_false, reduceIte, Bool.false_eq_true, wipeS, lim0, lim1, lim2, lim3, e_nx he hs, ixG hG (show x < g.length by omega)]
    rw [if_pos (by rw [List.length_append, t2]; show 2 + 1 ≤ lim; unfold lim; decide), ← t1, t3]
theorem b1_gr {B0 B : Mem} {gv : T} {g : List Nat} (hG : isG B0 B gv g) (hgl : g.length = n) (hgm : ∀ i ∈ g, i < n) {r : List (Mt.Ent T)} (hr : Lok n w r) (hrl : r.length < 900) (S : List (List (Mt.Ent T))) (hS : ∀ r ∈ S, Lok n w r) (hSl : S.length < 900) (later : List Nat) (hll : later.length < 900) (a c l s : Option T) :
    ∃ s' l', b1_grouped P w0 [a, some gv, c, some (encL r), some (.ref B.length), some (.ref (B.length + 1)), s, l] (B ++ [.dn P w0 (seenK S 0), .lst (encG later)]) =
      .nx [a, some gv, c, some (encL r), some (.ref B.length), some (.ref (B.length + 1)), s', l'] (match Mt.ixOf (Mt.sgn g r) S with
        | some i => B ++ [.dn P w0 (seenK S 0), .lst (encG (later ++ [i]))]
        | none => B ++ [.dn P w0 (seenK (S ++ [Mt.sgn g r]) 0), .lst (encG (later ++ [S.length]))]) := by
  have hG' := hG.more [.dn P w0 (seenK S 0), .lst (encG later)]
  have hlc := lc_map (x := ⟨r.map encE, none, []⟩) (G := gNm 7) (te := e1_grouped P w0) (s := [a, some gv, c, some (encL r), some (.ref B.length), some (.ref (B.length + 1)), s, none]) (M := B ++ [.dn P w0 (seenK S 0), .lst (encG later)])
  have hmap : ∃ us, lcLoop ⟨r.map encE, none, []⟩ (gNm 7) gYes (e1_grouped P w0) [a, some gv, c, some (encL r), some (.ref B.length), some (.ref (B.length + 1)), s, none] (r.map encE) [] (B ++ [.dn P w0 (seenK S 0), .lst (encG later)]) = .ok us (B ++ [.dn P w0 (seenK S 0), .lst (encG later)]) ∧ us = (Mt.sgn g r).map encE := by
    obtain ⟨us, M', f1, ⟨f2, f3⟩, f4⟩ := lc_run (x := ⟨r.map encE, none, []⟩) (G := gNm 7) (te := e1_grouped P w0) (s := [a, some gv, c, some (encL r), some (.ref B.length), some (.ref (B.length + 1)), s, none])
      (fun i acc M => M = B ++ [.dn P w0 (seenK S 0), .lst (encG later)] ∧ acc = ((Mt.sgn g r).map encE).take i) rfl (r.map encE) 0 [] (B ++ [.dn P w0 (seenK S 0), .lst (encG later)]) (by
        rintro i y hy acc M ⟨rfl, rfl⟩
        rw [List.getElem?_map] at hy
        cases he : r[i]? with
        | none => rw [he] at hy; cases hy
        | some e =>
          rw [he] at hy
          cases hy
          refine ⟨_, _, _, rfl, e1_gr P w0 hG' (hr e (List.mem_of_getElem? he)) hgl _ _ _ _ _ _, rfl, ?_⟩
          rw [Nat.zero_add, List.take_add_one, List.getElem?_map]
          unfold Mt.sgn
          rw [List.getElem?_map, he]
          rfl) ⟨rfl, by simp⟩ (by rw [List.length_map]; unfold lim; simp; omega)
    subst f2
    refine ⟨us, f1, ?_⟩
    rw [f3, List.take_of_length_le]
    simp [Mt.sgn]
  obtain ⟨us, f1, rfl⟩ := hmap
  have hsg := sgn_ok hr hgm hgl
  have sd := setdef_ok P w0 hsg hS B (.lst (encG later)) (by omega)
  have hsw : srcOf (B ++ [.dn P w0 (seenK S 0), .lst (encG later)]) (encL r) = some ⟨r.map encE, none, []⟩ := rfl
  have hlen : oLenN P w0 [.ref B.length] (B ++ [.dn P w0 (seenK S 0), .lst (encG later)]) = .ok (.int (S.length : Nat)) (B ++ [.dn P w0 (seenK S 0), .lst (encG later)]) := by
    unfold oLenN o1
    simp only [at_a]
    rw [if_pos ⟨trivial, trivial, by rw [seenK_len]; unfold lim; omega⟩, seenK_len]
  have happ : ∀ (c : Cell) (i : Nat), oAppend (.ref (B.length + 1)) [.int (i : Nat)] (B ++ [c, .lst (encG later)]) = .ok .non (B ++ [c, .lst (encG (later ++ [i]))]) := fun c i => by
    rw [app_at (at_b B c (.lst (encG later))) _ (by unfold encG; rw [List.length_map]; unfold lim; omega), set_b]
    unfold encG
    rw [List.map_append]
    rfl
  refine ⟨some (encL (Mt.sgn g r)), l, ?_⟩
  unfold b1_grouped
  simp only [fnRes, startS, fSeq, fNext, fIfS, fSet, fAsg, gNm, gNms, fPar, fPar3, fRet, fRetN, fDrop, fBreak, fFor, fWhile, fVar, fC, fB, fOp, fAnd, fOr, fNot, fAndV, fOrV, fNotV, fIf, fTup, fLst, fNew, aNil, aCons, aStar, fIx, fSl, oNone, oSome, fCB, fCall, fMt, fPut, fNeg, fChain, fLcG, fLc2G, fRevL, iSeq, iR1, iR2, iEnumF, o1, gYes, endL, Res.bind_ok, Res.st_ok, Res.noex_ok, SRes.seq_nx, SRes.seq_rt, SRes.seq_bk, SRes.turn_nx, SRes.turn_rt, SRes.turn_bk, SRes.res, List.map_cons, List.map_nil, List.length_cons, List.length_nil, List.cons_append, List.nil_append, List.append_nil, List.replicate, List.getElem?_cons_zero, List.getElem?_cons_succ, List.set_cons_zero, List.set_cons_succ, List.zip_cons_cons, List.foldl_cons, List.foldl_nil, List.zip_nil_left, Nat.reduceAdd, Nat.reduceSub, Nat.reduceMul, Nat.reduceLeDiff, Nat.reduceLT, Nat.reduceEqDiff, if_true, if_false, reduceIte, Bool.false_eq_true, wipeS, lim0, lim1, lim2, lim3]
  rw [hsw]
  simp only [fnRes, startS, fSeq, fNext, fIfS, fSet, fAsg, gNm, gNms, fPar, fPar3, fRet, fRetN, fDrop, fBreak, fFor, fWhile, fVar, fC, fB, fOp, fAnd, fOr, fNot, fAndV, fOrV, fNotV, fIf, fTup, fLst, fNew, aNil, aCons, aStar, fIx, fSl, oNone, oSome, fCB, fCall, fMt, fPut, fNeg, fChain, fLcG, fLc2G, fRevL, iSeq, iR1, iR2, iEnumF, o1, gYes, endL, Res.bind_ok, Res.st_ok, Res.noex_ok, SRes.seq_nx, SRes.seq_rt, SRes.seq_bk, SRes.turn_nx, SRes.turn_rt, SRes.turn_bk, SRes.res, List.map_cons, List.map_nil, List.length_cons, List.length_nil, List.cons_append, List.nil_append, List.append_nil, List.replicate, List.getElem?_cons_zero, List.getElem?_cons_succ, List.set_cons_zero, List.set_cons_succ, List.zip_cons_cons, List.foldl_cons, List.foldl_nil, List.zip_nil_left, Nat.reduceAdd, Nat.reduceSub, Nat.reduceMul, Nat.reduceLeDiff, Nat.reduceLT, Nat.reduceEqDiff, if_true, if_false, reduceIte, Bool.false_eq_true, wipeS, lim0, lim1, lim2, lim3]
  rw [f1]
  simp only [fnRes, startS, fSeq, fNext, fIfS, fSet, fAsg, gNm, gNms, fPar, fPar3, fRet, fRetN, fDrop, fBreak, fFor, fWhile, fVar, fC, fB, fOp, fAnd, fOr, fNot, fAndV, fOrV, fNotV, fIf, fTup, fLst, fNew, aNil, aCons, aStar, fIx, fSl, oNone, oSome, fCB, fCall, fMt, fPut, fNeg, fChain, fLcG, fLc2G, fRevL, iSeq, iR1, iR2, iEnumF, o1, gYes, endL, Res.bind_ok, Res.st_ok, Res.noex_ok, SRes.seq_nx, SRes.seq_rt, SRes.seq_bk, SRes.turn_nx, SRes.turn_rt, SRes.turn_bk, SRes.res, List.map_cons, List.map_nil, List.length_cons, List.length_nil, List.cons_append, List.nil_append, List.append_nil, List.replicate, List.getElem?_cons_zero, List.getElem?_cons_succ, List.set_cons_zero, List.set_cons_succ, List.zip_cons_cons, List.foldl_cons, List.foldl_nil, List.zip_nil_left, Nat.reduceAdd, Nat.reduceSub, Nat.reduceMul, Nat.reduceLeDiff, Nat.reduceLT, Nat.reduceEqDiff, if_true, if_false, reduceIte, Bool.false_eq_true, wipeS, lim0, lim1, lim2, lim3, oTuple, items]
  rw [show T.tup ((Mt.sgn g r).map encE) = encL (Mt.sgn g r) from rfl]
  simp only [fnRes, startS, fSeq, fNext, fIfS, fSet, fAsg, gNm, gNms, fPar, fPar3, fRet, fRetN, fDrop, fBreak, fFor, fWhile, fVar, fC, fB, fOp, fAnd, fOr, fNot, fAndV, fOrV, fNotV, fIf, fTup, fLst, fNew, aNil, aCons, aStar, fIx, fSl, oNone, oSome, fCB, fCall, fMt, fPut, fNeg, fChain, fLcG, fLc2G, fRevL, iSeq, iR1, iR2, iEnumF, o1, gYes, endL, Res.bind_ok, Res.st_ok, Res.noex_ok, SRes.seq_nx, SRes.seq_rt, SRes.seq_bk, SRes.turn_nx, SRes.turn_rt, SRes.turn_bk, SRes.res, List.map_cons, List.map_nil, List.length_cons, List.length_nil, List.cons_append, List.nil_append, List.append_nil, List.replicate, List.getElem?_cons_zero, List.getElem?_cons_succ, List.set_cons_zero, List.set_cons_succ, List.zip_cons_cons, List.foldl_cons, List.foldl_nil, List.zip_nil_left, Nat.reduceAdd, Nat.reduceSub, Nat.reduceMul, Nat.reduceLeDiff, Nat.reduceLT, Nat.reduceEqDiff, if_true, if_false, reduceIte, Bool.false_eq_true, wipeS, lim0, lim1, lim2, lim3, ty_at (at_b B (.dn P w0 (seenK S 0)) (.lst (encG later))), fSetDef, at_a, hlen, sd]
  cases hx : Mt.ixOf (Mt.sgn g r) S with
  | some i => simp only [fnRes, startS, fSeq, fNext, fIfS, fSet, fAsg, gNm, gNms, fPar, fPar3, fRet, fRetN, fDrop, fBreak, fFor, fWhile, fVar, fC, fB, fOp, fAnd, fOr, fNot, fAndV, fOrV, fNotV, fIf, fTup, fLst, fNew, aNil, aCons, aStar, fIx, fSl, oNone, oSome, fCB, fCall, fMt, fPut, fNeg, fChain, fLcG, fLc2G, fRevL, iSeq, iR1, iR2, iEnumF, o1, gYes, endL, Res.bind_ok, Res.st_ok, Res.noex_ok, SRes.seq_nx, SRes.seq_rt, SRes.seq_bk, SRes.turn_nx, SRes.turn_rt, SRes.turn_bk, SRes.res, List.map_cons, List.map_nil, List.length_cons, List.length_nil, List.cons_append, List.nil_append, List.append_nil, List.replicate, List.getElem?_cons_zero, List.getElem?_cons_succ, List.set_cons_zero, List.set_cons_succ, List.zip_cons_cons, List.foldl_cons, List.foldl_nil, List.zip_nil_left, Nat.reduceAdd, Nat.reduceSub, Nat.reduceMul, Nat.reduceLeDiff, Nat.reduceLT, Nat.reduceEqDiff, if_true, if_false, reduceIte, Bool.false_eq_true, wipeS, lim0, lim1, lim2, lim3, happ]
  | none => simp only [fnRes, startS, fSeq, fNext, fIfS, fSet, fAsg, gNm, gNms, fPar, fPar3, fRet, fRetN, fDrop, fBreak, fFor, fWhile, fVar, fC, fB, fOp, fAnd, fOr, fNot, fAndV, fOrV, fNotV, fIf, fTup, fLst, fNew, aNil, aCons, aStar, fIx, fSl, oNone, oSome, fCB, fCall, fMt, fPut, fNeg, fChain, fLcG, fLc2G, fRevL, iSeq, iR1, iR2, iEnumF, o1, gYes, endL, Res.bind_ok, Res.st_ok, Res.noex_ok, SRes.seq_nx, SRes.seq_rt, SRes.seq_bk, SRes.turn_nx, SRes.turn_rt, SRes.turn_bk, SRes.res, List.map_cons, List.map_nil, List.length_cons, List.length_nil, List.cons_append, List.nil_append, List.append_nil, List.replicate, List.getElem?_cons_zero, List.getElem?_cons_succ, List.set_cons_zero, List.set_cons_succ, List.zip_cons_cons, List.foldl_cons, List.foldl_nil, List.zip_nil_left, Nat.reduceAdd, Nat.reduceSub, Nat.reduceMul, Nat.reduceLeDiff, Nat.reduceLT, Nat.reduceEqDiff, if_true, if_false, reduceIte, Bool.false_eq_true, wipeS, lim0, lim1, lim2, lim3, happ]
end
end Fl
set_option Elab.async false
set_option linter.all false
set_option maxRecDepth 100000
set_option maxHeartbeats 4000000
/-! P11: grouped, the whole. -/
namespace Fl
open PySem PySem.Spec PyProof.Rows L2
theorem numGo_lt {β : Type} [DecidableEq β] : ∀ (ss seen : List β), ∀ v ∈ Mt.numGo ss seen, v < seen.length + ss.length
  | [], _, v, h => nomatch h
  | s :: r, seen, v, h => by
    unfold Mt.numGo at h
    simp only [List.length_cons]
    split at h
    · rename_i i hi
      rcases List.mem_cons.mp h with rfl | h
      · have := Mt.ixOf_lt hi
        omega
      · have := numGo_lt r seen v h
        omega
    · rcases List.mem_cons.mp h with rfl | h
      · omega
      · have := numGo_lt r (seen ++ [s]) v h
        rw [List.length_append] at this
        simp at this
        omega
theorem setG {B M : Mem} {gv : T} {g : List Nat} (h : isG B M gv g) (hg : g.length ≤ 1000) : oSetI [gv] M = .ok (.iset (uniqI (g.map fun (i : Nat) => (i : Int)))) M := by
  unfold oSetI o1
  simp only [h.lst, ints_encG]
  rw [if_pos (by rw [List.length_map]; exact hg)]
theorem lenU (g : List Nat) (hg : g.length ≤ 1000) (M : Mem) : oLen [.iset (uniqI (g.map fun (i : Nat) => (i : Int)))] M = .ok (.int (Mt.card g : Nat)) M := by
  show (if (uniqI (g.map fun (i : Nat) => (i : Int))).length ≤ lim then _ else _) = _
  have := Mt.card_le g
  rw [uniqI_card, if_pos (by unfold lim; omega)]
section
variable {n k w : Nat} (P : Program) (w0 : World) {t : Mt.Tb T}
theorem for_gr {B0 B : Mem} {gv : T} {g : List Nat} (hG : isG B0 B gv g) (hgl : g.length = n) (hgm : ∀ i ∈ g, i < n) (x : Src) (hx : x.cell = none) (a c : Option T) : ∀ (rs : List (List (Mt.Ent T))), (∀ r ∈ rs, Lok n w r ∧ r.length < 900) →
    ∀ (S : List (List (Mt.Ent T))) (later : List Nat) (y s l : Option T), (∀ r ∈ S, Lok n w r) → S.length + rs.length < 900 → later.length + rs.length < 900 →
    ∃ (S' : List (List (Mt.Ent T))) (y' s' l' : Option T), forL x (gNm 3) (b1_grouped P w0) (rs.map encL) [a, some gv, c, y, some (.ref B.length), some (.ref (B.length + 1)), s, l] (B ++ [.dn P w0 (seenK S 0), .lst (encG later)]) =
      .nx [a, some gv, c, y', some (.ref B.length), some (.ref (B.length + 1)), s', l'] (B ++ [.dn P w0 (seenK S' 0), .lst (encG (later ++ Mt.numGo (rs.map (Mt.sgn g)) S))])
  | [], _, S, later, y, s, l, hS, hSl, hll => by
    rw [List.map_nil, forL_nil hx]
    exact ⟨S, y, s, l, by simp [Mt.numGo]⟩
  | r :: rs, hr, S, later, y, s, l, hS, hSl, hll => by
    simp only [List.length_cons] at hSl hll
    obtain ⟨s', l', e1⟩ := b1_gr P w0 hG hgl hgm (hr r List.mem_cons_self).1 (hr r List.mem_cons_self).2 S hS (by omega) later (by omega) a c l s
    rw [List.map_cons]
    unfold forL
    rw [if_pos (by simp [srcOk, hx])]
    simp only [fnRes, startS, fSeq, fNext, fIfS, fSet, fAsg, gNm, gNms, fPar, fPar3, fRet, fRetN, fDrop, fBreak, fFor, fWhile, fVar, fC, fB, fOp, fAnd, fOr, fNot, fAndV, fOrV, fNotV, fIf, fTup, fLst, fNew, aNil, aCons, aStar, fIx, fSl, oNone, oSome, fCB, fCall, fMt, fPut, fNeg, fChain, fLcG, fLc2G, fRevL, iSeq, iR1, iR2, iEnumF, o1, gYes, endL, Res.bind_ok, Res.st_ok, Res.noex_ok, SRes.seq_nx, SRes.seq_rt, SRes.seq_bk, SRes.turn_nx, SRes.turn_rt, SRes.turn_bk, SRes.res, List.map_cons, List.map_nil, List.length_cons, List.length_nil, List.cons_append, List.nil_append, List.append_nil, List.replicate, List.getElem?_cons_zero, List.getElem?_cons_succ, List.set_cons_zero, List.set_cons_succ, List.zip_cons_cons, List.foldl_cons, List.foldl_nil, List.zip_nil_left, Nat.reduceAdd, Nat.reduceSub, Nat.reduceMul, Nat.reduceLeDiff, Nat.reduceLT, Nat.reduceEqDiff, if_true, if_false, reduceIte, Bool.false_eq_true, wipeS, lim0, lim1, lim2, lim3]
    rw [e1]
    have hsg := sgn_ok (hr r List.mem_cons_self).1 hgm hgl
    unfold Mt.numGo
    cases hix : Mt.ixOf (Mt.sgn g r) S with
    | some i =>
      simp only [fnRes, startS, fSeq, fNext, fIfS, fSet, fAsg, gNm, gNms, fPar, fPar3, fRet, fRetN, fDrop, fBreak, fFor, fWhile, fVar, fC, fB, fOp, fAnd, fOr, fNot, fAndV, fOrV, fNotV, fIf, fTup, fLst, fNew, aNil, aCons, aStar, fIx, fSl, oNone, oSome, fCB, fCall, fMt, fPut, fNeg, fChain, fLcG, fLc2G, fRevL, iSeq, iR1, iR2, iEnumF, o1, gYes, endL, Res.bind_ok, Res.st_ok, Res.noex_ok, SRes.seq_nx, SRes.seq_rt, SRes.seq_bk, SRes.turn_nx, SRes.turn_rt, SRes.turn_bk, SRes.res, List.map_cons, List.map_nil, List.length_cons, List.length_nil, List.cons_append, List.nil_append, List.append_nil, List.replicate, List.getElem?_cons_zero, List.getElem?_cons_succ, List.set_cons_zero, List.set_cons_succ, List.zip_cons_cons, List.foldl_cons, List.foldl_nil, List.zip_nil_left, Nat.reduceAdd, Nat.reduceSub, Nat.reduceMul, Nat.reduceLeDiff, Nat.reduceLT, Nat.reduceEqDiff, if_true, if_false, reduceIte, Bool.false_eq_true, wipeS, lim0, lim1, lim2, lim3]
      obtain ⟨S', y2, s2, l2, e2⟩ := for_gr hG hgl hgm x hx a c rs (fun r' h => hr r' (List.mem_cons_of_mem _ h)) S (later ++ [i]) (some (encL r)) s' l' hS (by omega) (by simp; omega)
      refine ⟨S', y2, s2, l2, ?_⟩
      rw [e2]
      simp
    | none =>
      simp only [fnRes, startS, fSeq, fNext, fIfS, fSet, fAsg, gNm, gNms, fPar, fPar3, fRet, fRetN, fDrop, fBreak, fFor, fWhile, fVar, fC, fB, fOp, fAnd, fOr, fNot, fAndV, fOrV, fNotV, fIf, fTup, fLst, fNew, aNil, aCons, aStar, fIx, fSl, oNone, oSome, fCB, fCall, fMt, fPut, fNeg, fChain, fLcG, fLc2G, fRevL, iSeq, iR1, iR2, iEnumF, o1, gYes, endL, Res.bind_ok, Res.st_ok, Res.noex_ok, SRes.seq_nx, SRes.seq_rt, SRes.seq_bk, SRes.turn_nx, SRes.turn_rt, SRes.turn_bk, SRes.res, List.map_cons, List.map_nil, List.length_cons, List.length_nil, List.cons_append, List.nil_append, List.append_nil, List.replicate, List.getElem?_cons_zero, List.getElem?_cons_succ, List.set_cons_zero, List.set_cons_succ, List.zip_cons_cons, List.foldl_cons, List.foldl_nil, List.zip_nil_left, Nat.reduceAdd, Nat.reduceSub, Nat.reduceMul, Nat.reduceLeDiff, Nat.reduceLT, Nat.reduceEqDiff, if_true, if_false, reduceIte, Bool.false_eq_true, wipeS, lim0, lim1, lim2, lim3]
      obtain ⟨S', y2, s2, l2, e2⟩ := for_gr hG hgl hgm x hx a c rs (fun r' h => hr r' (List.mem_cons_of_mem _ h)) (S ++ [Mt.sgn g r]) (later ++ [S.length]) (some (encL r)) s' l' (fun r' h => by
        rcases List.mem_append.mp h with h | h
        · exact hS r' h
        · rw [List.mem_singleton.mp h]
          exact hsg) (by simp; omega) (by simp; omega)
      refine ⟨S', y2, s2, l2, ?_⟩
      rw [e2]
      simp
theorem b2_gr (ht : TabOk n k w t) {B0 M : Mem} {gv : T} {g : List Nat} (hG : isG B0 M gv g) (hB : B0.length ≤ M.length) (hgl : g.length = n) (hgm : ∀ i ∈ g, i < n) (many : Nat) (a b c d e : Option T) :
    ∃ (gv' : T) (J : Mem) (a' b' c' d' e' : Option T), b2_grouped P w0 [some (encT t), some gv, some (.int (many : Nat)), a, b, c, d, e] M = .nx [some (encT t), some gv', some (.int (Mt.card g : Nat)), a', b', c', d', e'] (M ++ J) ∧ isG B0 (M ++ J) gv' (Mt.stp t g) := by
  have hn := ht.le
  obtain ⟨S', y', s', l', e1⟩ := for_gr P w0 hG hgl hgm (n := n) (w := w) ⟨t.map encL, none, []⟩ rfl (some (encT t)) (some (.int (Mt.card g : Nat))) t (fun r hr => ⟨fun e he => ht.ent r hr e he, by rw [ht.row r hr]; have := ht.kle; omega⟩) [] [] a d e (fun r h => nomatch h) (by rw [ht.len]; simp; omega) (by rw [ht.len]; simp; omega)
  have hst : Mt.numGo (t.map (Mt.sgn g)) [] = Mt.stp t g := rfl
  refine ⟨.ref (M.length + 1), [.dn P w0 (seenK S' 0), .lst (encG (Mt.stp t g))], y', some (.ref M.length), some (.ref (M.length + 1)), s', l', ?_, .inr ⟨M.length + 1, by omega, rfl, at_b _ _ _⟩⟩
  unfold b2_grouped
  simp only [fnRes, startS, fSeq, fNext, fIfS, fSet, fAsg, gNm, gNms, fPar, fPar3, fRet, fRetN, fDrop, fBreak, fFor, fWhile, fVar, fC, fB, fOp, fAnd, fOr, fNot, fAndV, fOrV, fNotV, fIf, fTup, fLst, fNew, aNil, aCons, aStar, fIx, fSl, oNone, oSome, fCB, fCall, fMt, fPut, fNeg, fChain, fLcG, fLc2G, fRevL, iSeq, iR1, iR2, iEnumF, o1, gYes, endL, Res.bind_ok, Res.st_ok, Res.noex_ok, SRes.seq_nx, SRes.seq_rt, SRes.seq_bk, SRes.turn_nx, SRes.turn_rt, SRes.turn_bk, SRes.res, List.map_cons, List.map_nil, List.length_cons, List.length_nil, List.cons_append, List.nil_append, List.append_nil, List.replicate, List.getElem?_cons_zero, List.getElem?_cons_succ, List.set_cons_zero, List.set_cons_succ, List.zip_cons_cons, List.foldl_cons, List.foldl_nil, List.zip_nil_left, Nat.reduceAdd, Nat.reduceSub, Nat.reduceMul, Nat.reduceLeDiff, Nat.reduceLT, Nat.reduceEqDiff, if_true, if_false, reduceIte, Bool.false_eq_true, wipeS, lim0, lim1, lim2, lim3, setG hG (by omega), lenU g (by omega), fDn, List.length_append]
  rw [show M ++ [Cell.dn P w0 []] ++ [Cell.lst []] = M ++ [.dn P w0 (seenK [] 0), .lst (encG [])] by simp [seenK, encG]]
  rw [show srcOf (M ++ [.dn P w0 (seenK [] 0), .lst (encG [])]) (encT t) = some ⟨t.map encL, none, []⟩ from rfl]
  simp only [fnRes, startS, fSeq, fNext, fIfS, fSet, fAsg, gNm, gNms, fPar, fPar3, fRet, fRetN, fDrop, fBreak, fFor, fWhile, fVar, fC, fB, fOp, fAnd, fOr, fNot, fAndV, fOrV, fNotV, fIf, fTup, fLst, fNew, aNil, aCons, aStar, fIx, fSl, oNone, oSome, fCB, fCall, fMt, fPut, fNeg, fChain, fLcG, fLc2G, fRevL, iSeq, iR1, iR2, iEnumF, o1, gYes, endL, Res.bind_ok, Res.st_ok, Res.noex_ok, SRes.seq_nx, SRes.seq_rt, SRes.seq_bk, SRes.turn_nx, SRes.turn_rt, SRes.turn_bk, SRes.res, List.map_cons, List.map_nil, List.length_cons, List.length_nil, List.cons_append, List.nil_append, List.append_nil, List.replicate, List.getElem?_cons_zero, List.getElem?_cons_succ, List.set_cons_zero, List.set_cons_succ, List.zip_cons_cons, List.foldl_cons, List.foldl_nil, List.zip_nil_left, Nat.reduceAdd, Nat.reduceSub, Nat.reduceMul, Nat.reduceLeDiff, Nat.reduceLT, Nat.reduceEqDiff, if_true, if_false, reduceIte, Bool.false_eq_true, wipeS, lim0, lim1, lim2, lim3]
  rw [e1, hst]
  simp only [fnRes, startS, fSeq, fNext, fIfS, fSet, fAsg, gNm, gNms, fPar, fPar3, fRet, fRetN, fDrop, fBreak, fFor, fWhile, fVar, fC, fB, fOp, fAnd, fOr, fNot, fAndV, fOrV, fNotV, fIf, fTup, fLst, fNew, aNil, aCons, aStar, fIx, fSl, oNone, oSome, fCB, fCall, fMt, fPut, fNeg, fChain, fLcG, fLc2G, fRevL, iSeq, iR1, iR2, iEnumF, o1, gYes, endL, Res.bind_ok, Res.st_ok, Res.noex_ok, SRes.seq_nx, SRes.seq_rt, SRes.seq_bk, SRes.turn_nx, SRes.turn_rt, SRes.turn_bk, SRes.res, List.map_cons, List.map_nil, List.length_cons, List.length_nil, List.cons_append, List.nil_append, List.append_nil, List.replicate, List.getElem?_cons_zero, List.getElem?_cons_succ, List.set_cons_zero, List.set_cons_succ, List.zip_cons_cons, List.foldl_cons, List.foldl_nil, List.zip_nil_left, Nat.reduceAdd, Nat.reduceSub, Nat.reduceMul, Nat.reduceLeDiff, Nat.reduceLT, Nat.reduceEqDiff, if_true, if_false, reduceIte, Bool.false_eq_true, wipeS, lim0, lim1, lim2, lim3]
theorem wh_gr (ht : TabOk n k w t) {B0 : Mem} : ∀ (f' F many : Nat) (M : Mem) (gv : T) (g : List Nat) (a b c d e : Option T), f' < F → t.length + 1 ≤ f' + many → g.length = n → (∀ i ∈ g, i < n) → isG B0 M gv g → (∃ J, M = B0 ++ J) →
    ∃ (gv' : T) (J : Mem) (z a' b' c' d' e' : Option T), whileL (c1_grouped P w0) (b2_grouped P w0) F [some (encT t), some gv, some (.int (many : Nat)), a, b, c, d, e] M = .nx [some (encT t), some gv', z, a', b', c', d', e'] (B0 ++ J) ∧ isG B0 (B0 ++ J) gv' (Mt.grp t f' many g)
  | f', 0, _, _, _, _, _, _, _, _, _, h, _, _, _, _, _ => absurd h (Nat.not_lt_zero _)
  | f', F + 1, many, M, gv, g, a, b, c, d, e, hF, hf, hgl, hgm, hG, hM => by
    have hn := ht.le
    have hc1 : c1_grouped P w0 [some (encT t), some gv, some (.int (many : Nat)), a, b, c, d, e] M = .ok (decide (many < Mt.card g)) M := by
      unfold c1_grouped
      simp only [fnRes, startS, fSeq, fNext, fIfS, fSet, fAsg, gNm, gNms, fPar, fPar3, fRet, fRetN, fDrop, fBreak, fFor, fWhile, fVar, fC, fB, fOp, fAnd, fOr, fNot, fAndV, fOrV, fNotV, fIf, fTup, fLst, fNew, aNil, aCons, aStar, fIx, fSl, oNone, oSome, fCB, fCall, fMt, fPut, fNeg, fChain, fLcG, fLc2G, fRevL, iSeq, iR1, iR2, iEnumF, o1, gYes, endL, Res.bind_ok, Res.st_ok, Res.noex_ok, SRes.seq_nx, SRes.seq_rt, SRes.seq_bk, SRes.turn_nx, SRes.turn_rt, SRes.turn_bk, SRes.res, List.map_cons, List.map_nil, List.length_cons, List.length_nil, List.cons_append, List.nil_append, List.append_nil, List.replicate, List.getElem?_cons_zero, List.getElem?_cons_succ, List.set_cons_zero, List.set_cons_succ, List.zip_cons_cons, List.foldl_cons, List.foldl_nil, List.zip_nil_left, Nat.reduceAdd, Nat.reduceSub, Nat.reduceMul, Nat.reduceLeDiff, Nat.reduceLT, Nat.reduceEqDiff, if_true, if_false, reduceIte, Bool.false_eq_true, wipeS, lim0, lim1, lim2, lim3, setG hG (by omega), lenU g (by omega), i_lt]
      congr 1
      rw [Bool.eq_iff_iff, decide_eq_true_eq, decide_eq_true_eq]
      omega
    unfold whileL
    rw [hc1]
    simp only [fnRes, startS, fSeq, fNext, fIfS, fSet, fAsg, gNm, gNms, fPar, fPar3, fRet, fRetN, fDrop, fBreak, fFor, fWhile, fVar, fC, fB, fOp, fAnd, fOr, fNot, fAndV, fOrV, fNotV, fIf, fTup, fLst, fNew, aNil, aCons, aStar, fIx, fSl, oNone, oSome, fCB, fCall, fMt, fPut, fNeg, fChain, fLcG, fLc2G, fRevL, iSeq, iR1, iR2, iEnumF, o1, gYes, endL, Res.bind_ok, Res.st_ok, Res.noex_ok, SRes.seq_nx, SRes.seq_rt, SRes.seq_bk, SRes.turn_nx, SRes.turn_rt, SRes.turn_bk, SRes.res, List.map_cons, List.map_nil, List.length_cons, List.length_nil, List.cons_append, List.nil_append, List.append_nil, List.replicate, List.getElem?_cons_zero, List.getElem?_cons_succ, List.set_cons_zero, List.set_cons_succ, List.zip_cons_cons, List.foldl_cons, List.foldl_nil, List.zip_nil_left, Nat.reduceAdd, Nat.reduceSub, Nat.reduceMul, Nat.reduceLeDiff, Nat.reduceLT, Nat.reduceEqDiff, if_true, if_false, reduceIte, Bool.false_eq_true, wipeS, lim0, lim1, lim2, lim3]
    have hcl := Mt.card_le g
    by_cases h : many < Mt.card g
    · rw [decide_eq_true h]
      simp only [fnRes, startS, fSeq, fNext, fIfS, fSet, fAsg, gNm, gNms, fPar, fPar3, fRet, fRetN, fDrop, fBreak, fFor, fWhile, fVar, fC, fB, fOp, fAnd, fOr, fNot, fAndV, fOrV, fNotV, fIf, fTup, fLst, fNew, aNil, aCons, aStar, fIx, fSl, oNone, oSome, fCB, fCall, fMt, fPut, fNeg, fChain, fLcG, fLc2G, fRevL, iSeq, iR1, iR2, iEnumF, o1, gYes, endL, Res.bind_ok, Res.st_ok, Res.noex_ok, SRes.seq_nx, SRes.seq_rt, SRes.seq_bk, SRes.turn_nx, SRes.turn_rt, SRes.turn_bk, SRes.res, List.map_cons, List.map_nil, List.length_cons, List.length_nil, List.cons_append, List.nil_append, List.append_nil, List.replicate, List.getElem?_cons_zero, List.getElem?_cons_succ, List.set_cons_zero, List.set_cons_succ, List.zip_cons_cons, List.foldl_cons, List.foldl_nil, List.zip_nil_left, Nat.reduceAdd, Nat.reduceSub, Nat.reduceMul, Nat.reduceLeDiff, Nat.reduceLT, Nat.reduceEqDiff, if_true, if_false, reduceIte, Bool.false_eq_true, wipeS, lim0, lim1, lim2, lim3]
      cases f' with
      | zero => rw [ht.len] at hf; omega
      | succ f' =>
        obtain ⟨J0, rfl⟩ := hM
        obtain ⟨gv1, J, a1, b1, c1, d1, e1, q1, q2⟩ := b2_gr P w0 ht hG (by rw [List.length_append]; omega) hgl hgm many a b c d e
        rw [q1]
        simp only [fnRes, startS, fSeq, fNext, fIfS, fSet, fAsg, gNm, gNms, fPar, fPar3, fRet, fRetN, fDrop, fBreak, fFor, fWhile, fVar, fC, fB, fOp, fAnd, fOr, fNot, fAndV, fOrV, fNotV, fIf, fTup, fLst, fNew, aNil, aCons, aStar, fIx, fSl, oNone, oSome, fCB, fCall, fMt, fPut, fNeg, fChain, fLcG, fLc2G, fRevL, iSeq, iR1, iR2, iEnumF, o1, gYes, endL, Res.bind_ok, Res.st_ok, Res.noex_ok, SRes.seq_nx, SRes.seq_rt, SRes.seq_bk, SRes.turn_nx, SRes.turn_rt, SRes.turn_bk, SRes.res, List.map_cons, List.map_nil, List.length_cons, List.length_nil, List.cons_append, List.nil_append, List.append_nil, List.replicate, List.getElem?_cons_zero, List.getElem?_cons_succ, List.set_cons_zero, List.set_cons_succ, List.zip_cons_cons, List.foldl_cons, List.foldl_nil, List.zip_nil_left, Nat.reduceAdd, Nat.reduceSub, Nat.reduceMul, Nat.reduceLeDiff, Nat.reduceLT, Nat.reduceEqDiff, if_true, if_false, reduceIte, Bool.false_eq_true, wipeS, lim0, lim1, lim2, lim3]
        unfold Mt.grp
        rw [if_pos h]
        refine wh_gr ht f' F (Mt.card g) _ gv1 (Mt.stp t g) a1 b1 c1 d1 e1 (by omega) (by omega) (by rw [Mt.stp_len, ht.len]) (fun i hi => ?_) q2 ⟨J0 ++ J, by rw [List.append_assoc]⟩
        have := numGo_lt _ _ i hi
        rw [List.length_map, ht.len] at this
        simpa using this
    · rw [decide_eq_false h]
      simp only [fnRes, startS, fSeq, fNext, fIfS, fSet, fAsg, gNm, gNms, fPar, fPar3, fRet, fRetN, fDrop, fBreak, fFor, fWhile, fVar, fC, fB, fOp, fAnd, fOr, fNot, fAndV, fOrV, fNotV, fIf, fTup, fLst, fNew, aNil, aCons, aStar, fIx, fSl, oNone, oSome, fCB, fCall, fMt, fPut, fNeg, fChain, fLcG, fLc2G, fRevL, iSeq, iR1, iR2, iEnumF, o1, gYes, endL, Res.bind_ok, Res.st_ok, Res.noex_ok, SRes.seq_nx, SRes.seq_rt, SRes.seq_bk, SRes.turn_nx, SRes.turn_rt, SRes.turn_bk, SRes.res, List.map_cons, List.map_nil, List.length_cons, List.length_nil, List.cons_append, List.nil_append, List.append_nil, List.replicate, List.getElem?_cons_zero, List.getElem?_cons_succ, List.set_cons_zero, List.set_cons_succ, List.zip_cons_cons, List.foldl_cons, List.foldl_nil, List.zip_nil_left, Nat.reduceAdd, Nat.reduceSub, Nat.reduceMul, Nat.reduceLeDiff, Nat.reduceLT, Nat.reduceEqDiff, if_true, if_false, reduceIte, Bool.false_eq_true, wipeS, lim0, lim1, lim2, lim3]
      have hg : Mt.grp t f' many g = g := by
        cases f' with
        | zero => rfl
        | succ f' =>
          unfold Mt.grp
          rw [if_neg h]
      rw [hg]
      obtain ⟨J0, rfl⟩ := hM
      exact ⟨gv, J0, _, _, _, _, _, _, rfl, hG⟩
theorem rep_encG : ∀ n : Nat, encG (List.replicate n 0) = (List.replicate n [T.int 0]).flatten
  | 0 => rfl
  | n + 1 => by
    rw [List.replicate_succ, List.replicate_succ, List.flatten_cons, ← rep_encG n]
    rfl
theorem gr_ok (ht : TabOk n k w t) (B : Mem) (hB : MemClo B) : cln (g_grouped P w0) [encT t] B = .ok (.lst (encG (Mt.groups t))) B := by
  have hn := ht.le
  have hnp := ht.pos
  have hrep := rep_encG n
  obtain ⟨gv', J, z, a', b', c', d', e', q1, q2⟩ := wh_gr P w0 ht (B0 := B) (t.length + 2) 1000 0 B (.lst (encG (List.replicate n 0))) (List.replicate n 0) none none none none none (by rw [ht.len]; omega) (by omega) List.length_replicate (fun i hi => by rw [(List.mem_replicate.mp hi).2]; exact hnp) (.inl rfl) ⟨[], by simp⟩
  have hgr : Mt.grp t (t.length + 2) 0 (List.replicate n 0) = Mt.groups t := by
    unfold Mt.groups
    rw [ht.len]
  rw [hgr] at q2
  refine cln_ok (J := J) (v := gv') ?_ rfl ?_ hB
  · unfold g_grouped F_grouped
    simp only [fnRes, startS, fSeq, fNext, fIfS, fSet, fAsg, gNm, gNms, fPar, fPar3, fRet, fRetN, fDrop, fBreak, fFor, fWhile, fVar, fC, fB, fOp, fAnd, fOr, fNot, fAndV, fOrV, fNotV, fIf, fTup, fLst, fNew, aNil, aCons, aStar, fIx, fSl, oNone, oSome, fCB, fCall, fMt, fPut, fNeg, fChain, fLcG, fLc2G, fRevL, iSeq, iR1, iR2, iEnumF, o1, gYes, endL, Res.bind_ok, Res.st_ok, Res.noex_ok, SRes.seq_nx, SRes.seq_rt, SRes.seq_bk, SRes.turn_nx, SRes.turn_rt, SRes.turn_bk, SRes.res, List.map_cons, List.map_nil, List.length_cons, List.length_nil, List.cons_append, List.nil_append, List.append_nil, List.replicate, List.getElem?_cons_zero, List.getElem?_cons_succ, List.set_cons_zero, List.set_cons_succ, List.zip_cons_cons, List.foldl_cons, List.foldl_nil, List.zip_nil_left, Nat.reduceAdd, Nat.reduceSub, Nat.reduceMul, Nat.reduceLeDiff, Nat.reduceLT, Nat.reduceEqDiff, if_true, if_false, reduceIte, Bool.false_eq_true, wipeS, lim0, lim1, lim2, lim3, encT_len ht]
    rw [show oMul (.lst [.int 0]) (.int (n : Nat)) B = .ok (.lst (encG (List.replicate n 0))) B by
      show (if 0 ≤ (n : Int) ∧ ((n : Int)).toNat ≤ 1000 ∧ 1 ≤ 1000 then Res.ok (T.lst (List.replicate ((n : Int)).toNat [T.int 0]).flatten) B else .stuck) = _
      rw [if_pos ⟨by omega, by omega, by decide⟩, Int.toNat_natCast, hrep]]
    simp only [fnRes, startS, fSeq, fNext, fIfS, fSet, fAsg, gNm, gNms, fPar, fPar3, fRet, fRetN, fDrop, fBreak, fFor, fWhile, fVar, fC, fB, fOp, fAnd, fOr, fNot, fAndV, fOrV, fNotV, fIf, fTup, fLst, fNew, aNil, aCons, aStar, fIx, fSl, oNone, oSome, fCB, fCall, fMt, fPut, fNeg, fChain, fLcG, fLc2G, fRevL, iSeq, iR1, iR2, iEnumF, o1, gYes, endL, Res.bind_ok, Res.st_ok, Res.noex_ok, SRes.seq_nx, SRes.seq_rt, SRes.seq_bk, SRes.turn_nx, SRes.turn_rt, SRes.turn_bk, SRes.res, List.map_cons, List.map_nil, List.length_cons, List.length_nil, List.cons_append, List.nil_append, List.append_nil, List.replicate, List.getElem?_cons_zero, List.getElem?_cons_succ, List.set_cons_zero, List.set_cons_succ, List.zip_cons_cons, List.foldl_cons, List.foldl_nil, List.zip_nil_left, Nat.reduceAdd, Nat.reduceSub, Nat.reduceMul, Nat.reduceLeDiff, Nat.reduceLT, Nat.reduceEqDiff, if_true, if_false, reduceIte, Bool.false_eq_true, wipeS, lim0, lim1, lim2, lim3, fu]
    rw [show (0 : Int) = ((0 : Nat) : Int) from rfl, q1]
    simp only [fnRes, startS, fSeq, fNext, fIfS, fSet, fAsg, gNm, gNms, fPar, fPar3, fRet, fRetN, fDrop, fBreak, fFor, fWhile, fVar, fC, fB, fOp, fAnd, fOr, fNot, fAndV, fOrV, fNotV, fIf, fTup, fLst, fNew, aNil, aCons, aStar, fIx, fSl, oNone, oSome, fCB, fCall, fMt, fPut, fNeg, fChain, fLcG, fLc2G, fRevL, iSeq, iR1, iR2, iEnumF, o1, gYes, endL, Res.bind_ok, Res.st_ok, Res.noex_ok, SRes.seq_nx, SRes.seq_rt, SRes.seq_bk, SRes.turn_nx, SRes.turn_rt, SRes.turn_bk, SRes.res, List.map_cons, List.map_nil, List.length_cons, List.length_nil, List.cons_append, List.nil_append, List.append_nil, List.replicate, List.getElem?_cons_zero, List.getElem?_cons_succ, List.set_cons_zero, List.set_cons_succ, List.zip_cons_cons, List.foldl_cons, List.foldl_nil, List.zip_nil_left, Nat.reduceAdd, Nat.reduceSub, Nat.reduceMul, Nat.reduceLeDiff, Nat.reduceLT, Nat.reduceEqDiff, if_true, if_false, reduceIte, Bool.false_eq_true, wipeS, lim0, lim1, lim2, lim3]
  · rcases q2 with rfl | ⟨m, hm, rfl, h⟩
    · exact .same (pls_clo _ 3 _ (encG_pl _ 3))
    · exact .lst hm h (pls_clo _ 3 _ (encG_pl _ 3))
end
end Fl
set_option Elab.async false
set_option linter.all false
set_option maxRecDepth 100000
set_option maxHeartbeats 4000000
/-! P12: least_table. -/
namespace Fl
open PySem PySem.Spec PyProof.Rows L2
def memX (B : Mem) (f o : List T) (X : Mem) : Mem := B ++ (.lst f :: .lst o :: X)
section
variable (B : Mem) (f o : List T) (X : Mem) (l : List T)
theorem mx_f : (memX B f o X)[B.length]? = some (.lst f) := by simp [memX]
theorem mx_o : (memX B f o X)[B.length + 1]? = some (.lst o) := by simp [memX]
theorem mx_eq (c : Cell) : memX B f o (X ++ [c]) = memX B f o X ++ [c] := by simp [memX]
theorem mx_len : (memX B f o X).length = B.length + 2 + X.length := by simp [memX]; omega
theorem mx_l : (memX B f o (X ++ [.lst l]))[B.length + 2 + X.length]? = some (.lst l) := by
  rw [mx_eq, ← mx_len B f o X]
  simp
theorem sx_f (f' : List T) : (memX B f o X).set B.length (.lst f') = memX B f' o X := by simp [memX]
theorem sx_o (o' : List T) : (memX B f o X).set (B.length + 1) (.lst o') = memX B f o' X := by
  unfold memX
  rw [List.set_append_right _ _ (by omega), Nat.add_sub_cancel_left]
  rfl
theorem sx_l (l' : List T) : (memX B f o (X ++ [.lst l])).set (B.length + 2 + X.length) (.lst l') = memX B f o (X ++ [.lst l']) := by
  rw [mx_eq, mx_eq, ← mx_len B f o X]
  simp
end
theorem encG_mem {i : Nat} {g : List Nat} : T.int (i : Nat) ∈ encG g ↔ i ∈ g := by
  unfold encG
  rw [List.mem_map]
  constructor
  · rintro ⟨j, hj, e⟩
    rw [T.int.injEq] at e
    have : j = i := by omega
    exact this ▸ hj
  · intro h
    exact ⟨i, h, rfl⟩
theorem encG_ix (i : Nat) : ∀ g : List Nat, Mt.ixOf (T.int (i : Nat)) (encG g) = Mt.ixOf i g
  | [] => rfl
  | j :: g => by
    show Mt.ixOf (T.int (i : Nat)) (T.int (j : Nat) :: encG g) = _
    unfold Mt.ixOf
    rw [encG_ix i g]
    by_cases e : j = i
    · subst e
      rw [if_pos rfl, if_pos rfl]
    · rw [if_neg e, if_neg (fun z => e (by rw [T.int.injEq] at z; omega))]
theorem encG_len (g : List Nat) : (encG g).length = g.length := by simp [encG]
theorem encG_snoc (g : List Nat) (i : Nat) : encG (g ++ [i]) = encG g ++ [T.int (i : Nat)] := by simp [encG]
section
variable {n k w : Nat} {t : Mt.Tb T} (mg : GT)
/-- [groups[other] for other in order] -/
theorem lc_gr {M : Mem} {gs o : List Nat} {b : Nat} (ho : M[b]? = some (.lst (encG o))) (hgs : ∀ x ∈ o, x < gs.length) (hol : o.length < 900) (a y c d e f : Option T) :
    lcLoop ⟨encG o, some b, encG o⟩ (gNm 7) gYes (e1_least_table mg) [a, y, some (.lst (encG gs)), c, d, e, f, none] (encG o) [] M = .ok (encG (o.map fun x => gs.getD x 0)) M := by
  have hsrc : srcOk ⟨encG o, some b, encG o⟩ M = true := by
    unfold srcOk
    simp only [ho]
    exact T.beqs_self _
  have hstep : ∀ (ys : List Nat) (acc : List T), (∀ x ∈ ys, x < gs.length) → acc.length + ys.length < 1000 → lcLoop ⟨encG o, some b, encG o⟩ (gNm 7) gYes (e1_least_table mg) [a, y, some (.lst (encG gs)), c, d, e, f, none] (encG ys) acc M = .ok (acc ++ encG (ys.map fun x => gs.getD x 0)) M := by
    intro ys
    induction ys with
    | nil =>
      intro acc _ _
      show (if srcOk ⟨encG o, some b, encG o⟩ M = true then Res.ok acc M else .stuck) = _
      rw [if_pos hsrc]
      simp [encG]
    | cons x ys ih =>
      intro acc hx hl
      simp only [List.length_cons] at hl
      have hix : oIx (.lst (encG gs)) (.int (x : Nat)) M = .ok (.int (gs.getD x 0 : Nat)) M := ixG (B := []) (M := M) (.inl rfl) (hx x List.mem_cons_self)
      show lcLoop _ _ _ _ _ (T.int (x : Nat) :: encG ys) acc M = _
      unfold lcLoop
      rw [if_pos hsrc]
      simp only [fnRes, startS, fSeq, fNext, fIfS, fSet, fAsg, gNm, gNms, fPar, fPar3, fRet, fRetN, fDrop, fBreak, fFor, fWhile, fVar, fC, fB, fOp, fAnd, fOr, fNot, fAndV, fOrV, fNotV, fIf, fTup, fLst, fNew, aNil, aCons, aStar, fIx, fSl, oNone, oSome, fCB, fCall, fMt, fPut, fNeg, fChain, fLcG, fLc2G, fRevL, iSeq, iR1, iR2, iEnumF, o1, gYes, endL, Res.bind_ok, Res.st_ok, Res.noex_ok, SRes.seq_nx, SRes.seq_rt, SRes.seq_bk, SRes.turn_nx, SRes.turn_rt, SRes.turn_bk, SRes.res, List.map_cons, List.map_nil, List.length_cons, List.length_nil, List.cons_append, List.nil_append, List.append_nil, List.replicate, List.getElem?_cons_zero, List.getElem?_cons_succ, List.set_cons_zero, List.set_cons_succ, List.zip_cons_cons, List.foldl_cons, List.foldl_nil, List.zip_nil_left, Nat.reduceAdd, Nat.reduceSub, Nat.reduceMul, Nat.reduceLeDiff, Nat.reduceLT, Nat.reduceEqDiff, if_true, if_false, reduceIte, Bool.false_eq_true, wipeS, lim0, lim1, lim2, lim3, e1_least_table, hix]
      rw [if_pos (by unfold lim; omega)]
      have := ih (acc ++ [T.int (gs.getD x 0 : Nat)]) (fun z hz => hx z (List.mem_cons_of_mem _ hz)) (by simp; omega)
      refine Eq.trans ?_ (this.trans ?_)
      · rfl
      · rw [List.append_assoc]
        rfl
  have := hstep o [] hgs (by simp; omega)
  simpa using this
theorem b1_lt (B : Mem) (fd : List T) (o gs : List Nat) (X : Mem) (l : List (Mt.Ent T)) {e : Mt.Ent T} (he : EntOk n w e) (hgl : gs.length = n) (ho : ∀ x ∈ o, x < n) (hol : o.length < 800) (hll : l.length < 800) (a y z : Option T) :
    ∃ z', b1_least_table mg [a, y, some (.lst (encG gs)), some (.ref B.length), some (.ref (B.length + 1)), some (.ref (B.length + 2 + X.length)), some (encE e), z] (memX B fd (encG o) (X ++ [.lst (l.map encE)])) =
      .nx [a, y, some (.lst (encG gs)), some (.ref B.length), some (.ref (B.length + 1)), some (.ref (B.length + 2 + X.length)), some (encE e), z'] (match e.2 with
        | none => memX B fd (encG o) (X ++ [.lst ((l ++ [(e.1, none)]).map encE)])
        | some g => if gs.getD g 0 ∈ o.map (fun x => gs.getD x 0) then memX B fd (encG o) (X ++ [.lst ((l ++ [(e.1, Mt.ixOf (gs.getD g 0) (o.map fun x => gs.getD x 0))]).map encE)])
          else memX B fd (encG (o ++ [g])) (X ++ [.lst ((l ++ [(e.1, Mt.ixOf (gs.getD g 0) ((o ++ [g]).map fun x => gs.getD x 0))]).map encE)])) := by
  have x7 : ∀ M : Mem, (oIx (encE e) (.int 0) M).bind (fun a M1 => oEq a (.str "good") M1) = .ok (.bl e.2.isSome) M := fun M => e_good he M
  have hap : ∀ (o' : List T) (v : T), oAppend (.ref (B.length + 2 + X.length)) [v] (memX B fd o' (X ++ [.lst (l.map encE)])) = .ok .non (memX B fd o' (X ++ [.lst (l.map encE ++ [v])])) := fun o' v => by
    rw [app_at (mx_l B fd o' X _) _ (by rw [List.length_map]; unfold lim; omega), sx_l]
  have hty : ∀ (o' : List T), tyOk "list" (memX B fd o' (X ++ [.lst (l.map encE)])) (.ref (B.length + 2 + X.length)) = true := fun o' => ty_at (mx_l B fd o' X _)
  unfold b1_least_table
  simp only [fnRes, startS, fSeq, fNext, fIfS, fSet, fAsg, gNm, gNms, fPar, fPar3, fRet, fRetN, fDrop, fBreak, fFor, fWhile, fVar, fC, fB, fOp, fAnd, fOr, fNot, fAndV, fOrV, fNotV, fIf, fTup, fLst, fNew, aNil, aCons, aStar, fIx, fSl, oNone, oSome, fCB, fCall, fMt, fPut, fNeg, fChain, fLcG, fLc2G, fRevL, iSeq, iR1, iR2, iEnumF, o1, gYes, endL, Res.bind_ok, Res.st_ok, Res.noex_ok, SRes.seq_nx, SRes.seq_rt, SRes.seq_bk, SRes.turn_nx, SRes.turn_rt, SRes.turn_bk, SRes.res, List.map_cons, List.map_nil, List.length_cons, List.length_nil, List.cons_append, List.nil_append, List.append_nil, List.replicate, List.getElem?_cons_zero, List.getElem?_cons_succ, List.set_cons_zero, List.set_cons_succ, List.zip_cons_cons, List.foldl_cons, List.foldl_nil, List.zip_nil_left, Nat.reduceAdd, Nat.reduceSub, Nat.reduceMul, Nat.reduceLeDiff, Nat.reduceLT, Nat.reduceEqDiff, if_true, if_false, reduceIte, Bool.false_eq_true, wipeS, lim0, lim1, lim2, lim3]
  rw [x7]
  cases hs : e.2 with
  | none =>
    simp only [fnRes, startS, fSeq, fNext, fIfS, fSet, fAsg, gNm, gNms, fPar, fPar3, fRet, fRetN, fDrop, fBreak, fFor, fWhile, fVar, fC, fB, fOp, fAnd, fOr, fNot, fAndV, fOrV, fNotV, fIf, fTup, fLst, fNew, aNil, aCons, aStar, fIx, fSl, oNone, oSome, fCB, fCall, fMt, fPut, fNeg, fChain, fLcG, fLc2G, fRevL, iSeq, iR1, iR2, iEnumF, o1, gYes, endL, Res.bind_ok, Res.st_ok, Res.noex_ok, SRes.seq_nx, SRes.seq_rt, SRes.seq_bk, SRes.turn_nx, SRes.turn_rt, SRes.turn_bk, SRes.res, List.map_cons, List.map_nil, List.length_cons, List.length_nil, List.cons_append, List.nil_append, List.append_nil, List.replicate, List.getElem?_cons_zero, List.getElem?_cons_succ, List.set_cons_zero, List.set_cons_succ, List.zip_cons_cons, List.foldl_cons, List.foldl_nil, List.zip_nil_left, Nat.reduceAdd, Nat.reduceSub, Nat.reduceMul, Nat.reduceLeDiff, Nat.reduceLT, Nat.reduceEqDiff, if_true, if_false, reduceIte, Bool.false_eq_true, wipeS, lim0, lim1, lim2, lim3, Option.isSome_none, hty, hap]
    obtain ⟨l', o'⟩ := e
    have hs : o' = none := hs
    subst hs
    refine ⟨z, ?_⟩
    rw [List.map_append]
    rfl
  | some g =>
    have hg : g < n := by
      cases he with
      | clash => cases hs
      | stuck => cases hs
      | good _ _ h3 => cases hs; exact h3
    have hixg : ∀ M, oIx (.lst (encG gs)) (.int (g : Nat)) M = .ok (.int (gs.getD g 0 : Nat)) M := fun M => ixG (B := []) (M := M) (.inl rfl) (by omega)
    have hsrc : ∀ (o' : List Nat) X', srcOf (memX B fd (encG o') X') (.ref (B.length + 1)) = some ⟨encG o', some (B.length + 1), encG o'⟩ := fun o' X' => by
      unfold srcOf
      simp only [mx_o]
    have hlc : ∀ (o' : List Nat) X', (∀ x ∈ o', x < n) → o'.length < 900 → lcLoop ⟨encG o', some (B.length + 1), encG o'⟩ (gNm 7) gYes (e1_least_table mg) [a, y, some (.lst (encG gs)), some (.ref B.length), some (.ref (B.length + 1)), some (.ref (B.length + 2 + X.length)), some (encE e), none] (encG o') [] (memX B fd (encG o') X') = .ok (encG (o'.map fun x => gs.getD x 0)) (memX B fd (encG o') X') := fun o' X' h1 h2 => lc_gr mg (mx_o B fd (encG o') X') (fun x hx => by rw [hgl]; exact h1 x hx) h2 _ _ _ _ _ _
    have he12 : e2_least_table mg = e1_least_table mg := rfl
    have hni : ∀ (o' : List Nat) M, oNotIn (.int (gs.getD g 0 : Nat)) (.lst (encG (o'.map fun x => gs.getD x 0))) M = .ok (.bl (!decide (gs.getD g 0 ∈ o'.map fun x => gs.getD x 0))) M := fun o' M => by
      rw [notin_pl (q := false) rfl rfl (encG_pl _ 63)]
      congr 3
      rw [Bool.eq_iff_iff, decide_eq_true_eq, decide_eq_true_eq, encG_mem]
    have hidx : ∀ (o' : List Nat) (j : Nat) M, Mt.ixOf (gs.getD g 0) (o'.map fun x => gs.getD x 0) = some j → oIndex (.lst (encG (o'.map fun x => gs.getD x 0))) [.int (gs.getD g 0 : Nat)] M = .ok (.int (j : Nat)) M := fun o' j M h => index_pl rfl (encG_pl _ 63) (by rw [encG_ix]; exact h)
    have htyl : ∀ us M, tyOk "list" M (.lst us) = true := fun us M => rfl
    have hoa : ∀ X', oAppend (.ref (B.length + 1)) [.int (g : Nat)] (memX B fd (encG o) X') = .ok .non (memX B fd (encG (o ++ [g])) X') := fun X' => by
      rw [app_at (mx_o B fd (encG o) X') _ (by rw [encG_len]; unfold lim; omega), sx_o, encG_snoc]
    have hoty : ∀ X', tyOk "list" (memX B fd (encG o) X') (.ref (B.length + 1)) = true := fun X' => ty_at (mx_o B fd (encG o) X')
    simp only [fnRes, startS, fSeq, fNext, fIfS, fSet, fAsg, gNm, gNms, fPar, fPar3, fRet, fRetN, fDrop, fBreak, fFor, fWhile, fVar, fC, fB, fOp, fAnd, fOr, fNot, fAndV, fOrV, fNotV, fIf, fTup, fLst, fNew, aNil, aCons, aStar, fIx, fSl, oNone, oSome, fCB, fCall, fMt, fPut, fNeg, fChain, fLcG, fLc2G, fRevL, iSeq, iR1, iR2, iEnumF, o1, gYes, endL, Res.bind_ok, Res.st_ok, Res.noex_ok, SRes.seq_nx, SRes.seq_rt, SRes.seq_bk, SRes.turn_nx, SRes.turn_rt, SRes.turn_bk, SRes.res, List.map_cons, List.map_nil, List.length_cons, List.length_nil, List.cons_append, List.nil_append, List.append_nil, List.replicate, List.getElem?_cons_zero, List.getElem?_cons_succ, List.set_cons_zero, List.set_cons_succ, List.zip_cons_cons, List.foldl_cons, List.foldl_nil, List.zip_nil_left, Nat.reduceAdd, Nat.reduceSub, Nat.reduceMul, Nat.reduceLeDiff, Nat.reduceLT, Nat.reduceEqDiff, if_true, if_false, reduceIte, Bool.false_eq_true, wipeS, lim0, lim1, lim2, lim3, Option.isSome_some, e_nx he hs, hixg, hsrc]
    rw [hlc o _ ho (by omega)]
    simp only [fnRes, startS, fSeq, fNext, fIfS, fSet, fAsg, gNm, gNms, fPar, fPar3, fRet, fRetN, fDrop, fBreak, fFor, fWhile, fVar, fC, fB, fOp, fAnd, fOr, fNot, fAndV, fOrV, fNotV, fIf, fTup, fLst, fNew, aNil, aCons, aStar, fIx, fSl, oNone, oSome, fCB, fCall, fMt, fPut, fNeg, fChain, fLcG, fLc2G, fRevL, iSeq, iR1, iR2, iEnumF, o1, gYes, endL, Res.bind_ok, Res.st_ok, Res.noex_ok, SRes.seq_nx, SRes.seq_rt, SRes.seq_bk, SRes.turn_nx, SRes.turn_rt, SRes.turn_bk, SRes.res, List.map_cons, List.map_nil, List.length_cons, List.length_nil, List.cons_append, List.nil_append, List.append_nil, List.replicate, List.getElem?_cons_zero, List.getElem?_cons_succ, List.set_cons_zero, List.set_cons_succ, List.zip_cons_cons, List.foldl_cons, List.foldl_nil, List.zip_nil_left, Nat.reduceAdd, Nat.reduceSub, Nat.reduceMul, Nat.reduceLeDiff, Nat.reduceLT, Nat.reduceEqDiff, if_true, if_false, reduceIte, Bool.false_eq_true, wipeS, lim0, lim1, lim2, lim3, hni]
    by_cases hm : gs.getD g 0 ∈ o.map fun x => gs.getD x 0
    · rw [if_pos hm, decide_eq_true hm]
      obtain ⟨j, hj⟩ := Mt.ixOf_mem hm
      obtain ⟨ts, t1, t2, t3⟩ := e_mk he j (by rw [hs]; rfl)
      simp only [fnRes, startS, fSeq, fNext, fIfS, fSet, fAsg, gNm, gNms, fPar, fPar3, fRet, fRetN, fDrop, fBreak, fFor, fWhile, fVar, fC, fB, fOp, fAnd, fOr, fNot, fAndV, fOrV, fNotV, fIf, fTup, fLst, fNew, aNil, aCons, aStar, fIx, fSl, oNone, oSome, fCB, fCall, fMt, fPut, fNeg, fChain, fLcG, fLc2G, fRevL, iSeq, iR1, iR2, iEnumF, o1, gYes, endL, Res.bind_ok, Res.st_ok, Res.noex_ok, SRes.seq_nx, SRes.seq_rt, SRes.seq_bk, SRes.turn_nx, SRes.turn_rt, SRes.turn_bk, SRes.res, List.map_cons, List.map_nil, List.length_cons, List.length_nil, List.cons_append, List.nil_append, List.append_nil, List.replicate, List.getElem?_cons_zero, List.getElem?_cons_succ, List.set_cons_zero, List.set_cons_succ, List.zip_cons_cons, List.foldl_cons, List.foldl_nil, List.zip_nil_left, Nat.reduceAdd, Nat.reduceSub, Nat.reduceMul, Nat.reduceLeDiff, Nat.reduceLT, Nat.reduceEqDiff, if_true, if_false, reduceIte, Bool.false_eq_true, wipeS, lim0, lim1, lim2, lim3, Bool.not_true, hty, e_lab he, t1]
      rw [show ∀ M, items M (.tup ts) = some ts from fun _ => rfl]
      simp only [fnRes, startS, fSeq, fNext, fIfS, fSet, fAsg, gNm, gNms, fPar, fPar3, fRet, fRetN, fDrop, fBreak, fFor, fWhile, fVar, fC, fB, fOp, fAnd, fOr, fNot, fAndV, fOrV, fNotV, fIf, fTup, fLst, fNew, aNil, aCons, aStar, fIx, fSl, oNone, oSome, fCB, fCall, fMt, fPut, fNeg, fChain, fLcG, fLc2G, fRevL, iSeq, iR1, iR2, iEnumF, o1, gYes, endL, Res.bind_ok, Res.st_ok, Res.noex_ok, SRes.seq_nx, SRes.seq_rt, SRes.seq_bk, SRes.turn_nx, SRes.turn_rt, SRes.turn_bk, SRes.res, List.map_cons, List.map_nil, List.length_cons, List.length_nil, List.cons_append, List.nil_append, List.append_nil, List.replicate, List.getElem?_cons_zero, List.getElem?_cons_succ, List.set_cons_zero, List.set_cons_succ, List.zip_cons_cons, List.foldl_cons, List.foldl_nil, List.zip_nil_left, Nat.reduceAdd, Nat.reduceSub, Nat.reduceMul, Nat.reduceLeDiff, Nat.reduceLT, Nat.reduceEqDiff, if_true, if_false, reduceIte, Bool.false_eq_true, wipeS, lim0, lim1, lim2, lim3, hsrc, he12]
      rw [hlc o _ ho (by omega)]
      simp only [fnRes, startS, fSeq, fNext, fIfS, fSet, fAsg, gNm, gNms, fPar, fPar3, fRet, fRetN, fDrop, fBreak, fFor, fWhile, fVar, fC, fB, fOp, fAnd, fOr, fNot, fAndV, fOrV, fNotV, fIf, fTup, fLst, fNew, aNil, aCons, aStar, fIx, fSl, oNone, oSome, fCB, fCall, fMt, fPut, fNeg, fChain, fLcG, fLc2G, fRevL, iSeq, iR1, iR2, iEnumF, o1, gYes, endL, Res.bind_ok, Res.st_ok, Res.noex_ok, SRes.seq_nx, SRes.seq_rt, SRes.seq_bk, SRes.turn_nx, SRes.turn_rt, SRes.turn_bk, SRes.res, List.map_cons, List.map_nil, List.length_cons, List.length_nil, List.cons_append, List.nil_append, List.append_nil, List.replicate, List.getElem?_cons_zero, List.getElem?_cons_succ, List.set_cons_zero, List.set_cons_succ, List.zip_cons_cons, List.foldl_cons, List.foldl_nil, List.zip_nil_left, Nat.reduceAdd, Nat.reduceSub, Nat.reduceMul, Nat.reduceLeDiff, Nat.reduceLT, Nat.reduceEqDiff, if_true, if_false, reduceIte, Bool.false_eq_true, wipeS, lim0, lim1, lim2, lim3, htyl, e_nx he hs, hixg, hidx o j _ hj]
      rw [if_pos (by rw [List.length_append, t2]; show 2 + 1 ≤ lim; unfold lim; decide)]
      simp only [fnRes, startS, fSeq, fNext, fIfS, fSet, fAsg, gNm, gNms, fPar, fPar3, fRet, fRetN, fDrop, fBreak, fFor, fWhile, fVar, fC, fB, fOp, fAnd, fOr, fNot, fAndV, fOrV, fNotV, fIf, fTup, fLst, fNew, aNil, aCons, aStar, fIx, fSl, oNone, oSome, fCB, fCall, fMt, fPut, fNeg, fChain, fLcG, fLc2G, fRevL, iSeq, iR1, iR2, iEnumF, o1, gYes, endL, Res.bind_ok, Res.st_ok, Res.noex_ok, SRes.seq_nx, SRes.seq_rt, SRes.seq_bk, SRes.turn_nx, SRes.turn_rt, SRes.turn_bk, SRes.res, List.map_cons, List.map_nil, List.length_cons, List.length_nil, List.cons_append, List.nil_append, List.append_nil, List.replicate, List.getElem?_cons_zero, List.getElem?_cons_succ, List.set_cons_zero, List.set_cons_succ, List.zip_cons_cons, List.foldl_cons, List.foldl_nil, List.zip_nil_left, Nat.reduceAdd, Nat.reduceSub, Nat.reduceMul, Nat.reduceLeDiff, Nat.reduceLT, Nat.reduceEqDiff, if_true, if_false, reduceIte, Bool.false_eq_true, wipeS, lim0, lim1, lim2, lim3, hap]
      refine ⟨z, ?_⟩
      rw [List.map_append, hj, ← t1, show List.map encE [(e.1, some j)] = [encE (e.1, some j)] from rfl, t3]
    · rw [if_neg hm, decide_eq_false hm]
      obtain ⟨j, hj⟩ := Mt.ixOf_mem (l := (o ++ [g]).map fun x => gs.getD x 0) (s := gs.getD g 0) (by simp)
      obtain ⟨ts, t1, t2, t3⟩ := e_mk he j (by rw [hs]; rfl)
      have ho' : ∀ x ∈ o ++ [g], x < n := fun x hx => by
        rcases List.mem_append.mp hx with h | h
        · exact ho x h
        · rw [List.mem_singleton.mp h]
          exact hg
      simp only [fnRes, startS, fSeq, fNext, fIfS, fSet, fAsg, gNm, gNms, fPar, fPar3, fRet, fRetN, fDrop, fBreak, fFor, fWhile, fVar, fC, fB, fOp, fAnd, fOr, fNot, fAndV, fOrV, fNotV, fIf, fTup, fLst, fNew, aNil, aCons, aStar, fIx, fSl, oNone, oSome, fCB, fCall, fMt, fPut, fNeg, fChain, fLcG, fLc2G, fRevL, iSeq, iR1, iR2, iEnumF, o1, gYes, endL, Res.bind_ok, Res.st_ok, Res.noex_ok, SRes.seq_nx, SRes.seq_rt, SRes.seq_bk, SRes.turn_nx, SRes.turn_rt, SRes.turn_bk, SRes.res, List.map_cons, List.map_nil, List.length_cons, List.length_nil, List.cons_append, List.nil_append, List.append_nil, List.replicate, List.getElem?_cons_zero, List.getElem?_cons_succ, List.set_cons_zero, List.set_cons_succ, List.zip_cons_cons, List.foldl_cons, List.foldl_nil, List.zip_nil_left, Nat.reduceAdd, Nat.reduceSub, Nat.reduceMul, Nat.reduceLeDiff, Nat.reduceLT, Nat.reduceEqDiff, if_true, if_false, reduceIte, Bool.false_eq_true, wipeS, lim0, lim1, lim2, lim3, Bool.not_false, hoty, e_nx he hs, hoa, hty, e_lab he, t1]
      rw [show ∀ M, items M (.tup ts) = some ts from fun _ => rfl]
      simp only [fnRes, startS, fSeq, fNext, fIfS, fSet, fAsg, gNm, gNms, fPar, fPar3, fRet, fRetN, fDrop, fBreak, fFor, fWhile, fVar, fC, fB, fOp, fAnd, fOr, fNot, fAndV, fOrV, fNotV, fIf, fTup, fLst, fNew, aNil, aCons, aStar, fIx, fSl, oNone, oSome, fCB, fCall, fMt, fPut, fNeg, fChain, fLcG, fLc2G, fRevL, iSeq, iR1, iR2, iEnumF, o1, gYes, endL, Res.bind_ok, Res.st_ok, Res.noex_ok, SRes.seq_nx, SRes.seq_rt, SRes.seq_bk, SRes.turn_nx, SRes.turn_rt, SRes.turn_bk, SRes.res, List.map_cons, List.map_nil, List.length_cons, List.length_nil, List.cons_append, List.nil_append, List.append_nil, List.replicate, List.getElem?_cons_zero, List.getElem?_cons_succ, List.set_cons_zero, List.set_cons_succ, List.zip_cons_cons, List.foldl_cons, List.foldl_nil, List.zip_nil_left, Nat.reduceAdd, Nat.reduceSub, Nat.reduceMul, Nat.reduceLeDiff, Nat.reduceLT, Nat.reduceEqDiff, if_true, if_false, reduceIte, Bool.false_eq_true, wipeS, lim0, lim1, lim2, lim3, hsrc, he12]
      rw [hlc (o ++ [g]) _ ho' (by simp; omega)]
      simp only [fnRes, startS, fSeq, fNext, fIfS, fSet, fAsg, gNm, gNms, fPar, fPar3, fRet, fRetN, fDrop, fBreak, fFor, fWhile, fVar, fC, fB, fOp, fAnd, fOr, fNot, fAndV, fOrV, fNotV, fIf, fTup, fLst, fNew, aNil, aCons, aStar, fIx, fSl, oNone, oSome, fCB, fCall, fMt, fPut, fNeg, fChain, fLcG, fLc2G, fRevL, iSeq, iR1, iR2, iEnumF, o1, gYes, endL, Res.bind_ok, Res.st_ok, Res.noex_ok, SRes.seq_nx, SRes.seq_rt, SRes.seq_bk, SRes.turn_nx, SRes.turn_rt, SRes.turn_bk, SRes.res, List.map_cons, List.map_nil, List.length_cons, List.length_nil, List.cons_append, List.nil_append, List.append_nil, List.replicate, List.getElem?_cons_zero, List.getElem?_cons_succ, List.set_cons_zero, List.set_cons_succ, List.zip_cons_cons, List.foldl_cons, List.foldl_nil, List.zip_nil_left, Nat.reduceAdd, Nat.reduceSub, Nat.reduceMul, Nat.reduceLeDiff, Nat.reduceLT, Nat.reduceEqDiff, if_true, if_false, reduceIte, Bool.false_eq_true, wipeS, lim0, lim1, lim2, lim3, htyl, e_nx he hs, hixg, hidx (o ++ [g]) j _ hj]
      rw [if_pos (by rw [List.length_append, t2]; show 2 + 1 ≤ lim; unfold lim; decide)]
      simp only [fnRes, startS, fSeq, fNext, fIfS, fSet, fAsg, gNm, gNms, fPar, fPar3, fRet, fRetN, fDrop, fBreak, fFor, fWhile, fVar, fC, fB, fOp, fAnd, fOr, fNot, fAndV, fOrV, fNotV, fIf, fTup, fLst, fNew, aNil, aCons, aStar, fIx, fSl, oNone, oSome, fCB, fCall, fMt, fPut, fNeg, fChain, fLcG, fLc2G, fRevL, iSeq, iR1, iR2, iEnumF, o1, gYes, endL, Res.bind_ok, Res.st_ok, Res.noex_ok, SRes.seq_nx, SRes.seq_rt, SRes.seq_bk, SRes.turn_nx, SRes.turn_rt, SRes.turn_bk, SRes.res, List.map_cons, List.map_nil, List.length_cons, List.length_nil, List.cons_append, List.nil_append, List.append_nil, List.replicate, List.getElem?_cons_zero, List.getElem?_cons_succ, List.set_cons_zero, List.set_cons_succ, List.zip_cons_cons, List.foldl_cons, List.foldl_nil, List.zip_nil_left, Nat.reduceAdd, Nat.reduceSub, Nat.reduceMul, Nat.reduceLeDiff, Nat.reduceLT, Nat.reduceEqDiff, if_true, if_false, reduceIte, Bool.false_eq_true, wipeS, lim0, lim1, lim2, lim3, hap]
      refine ⟨z, ?_⟩
      rw [List.map_append, hj, ← t1, show List.map encE [(e.1, some j)] = [encE (e.1, some j)] from rfl, t3]
end
end Fl
set_option Elab.async false
set_option linter.all false
set_option maxRecDepth 100000
set_option maxHeartbeats 4000000
/-! P13: least_table, the whole. -/
namespace Fl
open PySem PySem.Spec PyProof.Rows L2
section
variable {n k w : Nat} {t : Mt.Tb T} (mg : GT)
theorem for_sc (B : Mem) (fd : List T) (gs : List Nat) (X : Mem) (hgl : gs.length = n) (x : Src) (hx : x.cell = none) (a y : Option T) : ∀ (es : List (Mt.Ent T)) (o : List Nat) (l : List (Mt.Ent T)) (v z : Option T), (∀ e ∈ es, EntOk n w e) → (∀ x ∈ o, x < n) → o.length + es.length < 800 → l.length + es.length < 800 →
    ∃ v' z', forL x (gNm 6) (b1_least_table mg) (es.map encE) [a, y, some (.lst (encG gs)), some (.ref B.length), some (.ref (B.length + 1)), some (.ref (B.length + 2 + X.length)), v, z] (memX B fd (encG o) (X ++ [.lst (l.map encE)])) =
      .nx [a, y, some (.lst (encG gs)), some (.ref B.length), some (.ref (B.length + 1)), some (.ref (B.length + 2 + X.length)), v', z'] (memX B fd (encG (Mt.sc (fun i => gs.getD i 0) id es o l).1) (X ++ [.lst ((Mt.sc (fun i => gs.getD i 0) id es o l).2.map encE)]))
  | [], o, l, v, z, he, ho, hol, hll => by
    rw [List.map_nil, forL_nil hx]
    exact ⟨v, z, rfl⟩
  | e :: es, o, l, v, z, he, ho, hol, hll => by
    simp only [List.length_cons] at hol hll
    have hee := he e List.mem_cons_self
    obtain ⟨z', e1⟩ := b1_lt mg B fd o gs X l hee hgl ho (by omega) (by omega) a y z
    have ih := fun o l v z => for_sc B fd gs X hgl x hx a y es o l v z fun e' h => he e' (List.mem_cons_of_mem _ h)
    rw [List.map_cons]
    unfold forL
    rw [if_pos (by simp [srcOk, hx])]
    simp only [fnRes, startS, fSeq, fNext, fIfS, fSet, fAsg, gNm, gNms, fPar, fPar3, fRet, fRetN, fDrop, fBreak, fFor, fWhile, fVar, fC, fB, fOp, fAnd, fOr, fNot, fAndV, fOrV, fNotV, fIf, fTup, fLst, fNew, aNil, aCons, aStar, fIx, fSl, oNone, oSome, fCB, fCall, fMt, fPut, fNeg, fChain, fLcG, fLc2G, fRevL, iSeq, iR1, iR2, iEnumF, o1, gYes, endL, Res.bind_ok, Res.st_ok, Res.noex_ok, SRes.seq_nx, SRes.seq_rt, SRes.seq_bk, SRes.turn_nx, SRes.turn_rt, SRes.turn_bk, SRes.res, List.map_cons, List.map_nil, List.length_cons, List.length_nil, List.cons_append, List.nil_append, List.append_nil, List.replicate, List.getElem?_cons_zero, List.getElem?_cons_succ, List.set_cons_zero, List.set_cons_succ, List.zip_cons_cons, List.foldl_cons, List.foldl_nil, List.zip_nil_left, Nat.reduceAdd, Nat.reduceSub, Nat.reduceMul, Nat.reduceLeDiff, Nat.reduceLT, Nat.reduceEqDiff, if_true, if_false, reduceIte, Bool.false_eq_true, wipeS, lim0, lim1, lim2, lim3]
    rw [e1]
    obtain ⟨lb, op⟩ := e
    cases op with
    | none =>
      simp only [fnRes, startS, fSeq, fNext, fIfS, fSet, fAsg, gNm, gNms, fPar, fPar3, fRet, fRetN, fDrop, fBreak, fFor, fWhile, fVar, fC, fB, fOp, fAnd, fOr, fNot, fAndV, fOrV, fNotV, fIf, fTup, fLst, fNew, aNil, aCons, aStar, fIx, fSl, oNone, oSome, fCB, fCall, fMt, fPut, fNeg, fChain, fLcG, fLc2G, fRevL, iSeq, iR1, iR2, iEnumF, o1, gYes, endL, Res.bind_ok, Res.st_ok, Res.noex_ok, SRes.seq_nx, SRes.seq_rt, SRes.seq_bk, SRes.turn_nx, SRes.turn_rt, SRes.turn_bk, SRes.res, List.map_cons, List.map_nil, List.length_cons, List.length_nil, List.cons_append, List.nil_append, List.append_nil, List.replicate, List.getElem?_cons_zero, List.getElem?_cons_succ, List.set_cons_zero, List.set_cons_succ, List.zip_cons_cons, List.foldl_cons, List.foldl_nil, List.zip_nil_left, Nat.reduceAdd, Nat.reduceSub, Nat.reduceMul, Nat.reduceLeDiff, Nat.reduceLT, Nat.reduceEqDiff, if_true, if_false, reduceIte, Bool.false_eq_true, wipeS, lim0, lim1, lim2, lim3]
      exact ih o (l ++ [(lb, none)]) _ _ ho (by omega) (by simp; omega)
    | some g =>
      have hg : g < n := by
        cases hee with
        | good _ _ h3 => exact h3
      simp only [fnRes, startS, fSeq, fNext, fIfS, fSet, fAsg, gNm, gNms, fPar, fPar3, fRet, fRetN, fDrop, fBreak, fFor, fWhile, fVar, fC, fB, fOp, fAnd, fOr, fNot, fAndV, fOrV, fNotV, fIf, fTup, fLst, fNew, aNil, aCons, aStar, fIx, fSl, oNone, oSome, fCB, fCall, fMt, fPut, fNeg, fChain, fLcG, fLc2G, fRevL, iSeq, iR1, iR2, iEnumF, o1, gYes, endL, Res.bind_ok, Res.st_ok, Res.noex_ok, SRes.seq_nx, SRes.seq_rt, SRes.seq_bk, SRes.turn_nx, SRes.turn_rt, SRes.turn_bk, SRes.res, List.map_cons, List.map_nil, List.length_cons, List.length_nil, List.cons_append, List.nil_append, List.append_nil, List.replicate, List.getElem?_cons_zero, List.getElem?_cons_succ, List.set_cons_zero, List.set_cons_succ, List.zip_cons_cons, List.foldl_cons, List.foldl_nil, List.zip_nil_left, Nat.reduceAdd, Nat.reduceSub, Nat.reduceMul, Nat.reduceLeDiff, Nat.reduceLT, Nat.reduceEqDiff, if_true, if_false, reduceIte, Bool.false_eq_true, wipeS, lim0, lim1, lim2, lim3]
      rw [show Mt.sc (fun i => gs.getD i 0) id ((lb, some g) :: es) o l = (if gs.getD g 0 ∈ o.map (fun i => gs.getD i 0) then Mt.sc (fun i => gs.getD i 0) id es o (l ++ [(lb, Mt.ixOf (gs.getD g 0) (o.map fun i => gs.getD i 0))]) else Mt.sc (fun i => gs.getD i 0) id es (o ++ [g]) (l ++ [(lb, Mt.ixOf (gs.getD g 0) ((o ++ [g]).map fun i => gs.getD i 0))])) from rfl]
      by_cases hm : gs.getD g 0 ∈ o.map fun i => gs.getD i 0
      · rw [if_pos hm, if_pos hm]
        exact ih _ _ _ _ ho (by omega) (by simp; omega)
      · rw [if_neg hm, if_neg hm]
        refine ih _ _ _ _ (fun i hi => ?_) (by simp; omega) (by simp; omega)
        rcases List.mem_append.mp hi with h | h
        · exact ho i h
        · rw [List.mem_singleton.mp h]
          exact hg
theorem sc_len (c rp : Nat → Nat) : ∀ (es : List (Mt.Ent T)) (o : List Nat) (l : List (Mt.Ent T)), o.length ≤ (Mt.sc c rp es o l).1.length ∧ (Mt.sc c rp es o l).1.length ≤ o.length + es.length
  | [], o, l => ⟨Nat.le_refl _, Nat.le_refl _⟩
  | (a, none) :: es, o, l => by
    have := sc_len c rp es o (l ++ [(a, none)])
    rw [show Mt.sc c rp ((a, none) :: es) o l = Mt.sc c rp es o (l ++ [(a, none)]) from rfl]
    simp only [List.length_cons]
    omega
  | (a, some g) :: es, o, l => by
    show o.length ≤ (if c (rp g) ∈ o.map c then _ else _ : List Nat × List (Mt.Ent T)).1.length ∧ (if c (rp g) ∈ o.map c then _ else _ : List Nat × List (Mt.Ent T)).1.length ≤ _
    simp only [List.length_cons]
    split
    · have := sc_len c rp es o (l ++ [(a, Mt.ixOf (c (rp g)) (o.map c))])
      omega
    · have := sc_len c rp es (o ++ [rp g]) (l ++ [(a, Mt.ixOf (c (rp g)) ((o ++ [rp g]).map c))])
      rw [List.length_append] at this
      simp only [List.length_singleton] at this
      omega
theorem sc_lt (c rp : Nat → Nat) (hrp : ∀ g, g < n → rp g < n) : ∀ (es : List (Mt.Ent T)) (o : List Nat) (l : List (Mt.Ent T)), (∀ e ∈ es, EntOk n w e) → (∀ x ∈ o, x < n) → ∀ x ∈ (Mt.sc c rp es o l).1, x < n
  | [], o, l, _, ho => ho
  | (a, none) :: es, o, l, he, ho => sc_lt c rp hrp es o (l ++ [(a, none)]) (fun e h => he e (List.mem_cons_of_mem _ h)) ho
  | (a, some g) :: es, o, l, he, ho => by
    have hg : g < n := by
      cases he (a, some g) List.mem_cons_self with
      | good _ _ h3 => exact h3
    show ∀ x ∈ (if c (rp g) ∈ o.map c then _ else _ : List Nat × List (Mt.Ent T)).1, x < n
    split
    · exact sc_lt c rp hrp es o _ (fun e h => he e (List.mem_cons_of_mem _ h)) ho
    · refine sc_lt c rp hrp es (o ++ [rp g]) _ (fun e h => he e (List.mem_cons_of_mem _ h)) fun x hx => ?_
      rcases List.mem_append.mp hx with h | h
      · exact ho x h
      · rw [List.mem_singleton.mp h]
        exact hrp g hg
theorem for_lst (B : Mem) (ht : TabOk n k w t) (gs : List Nat) (hgl : gs.length = n) (x : Src) (hx : x.cell = none) : ∀ (f q : Nat) (o : List Nat) (found : Mt.Tb T) (X : Mem) (y v z s : Option T), q ≤ o.length → (∀ x ∈ o, x < n) → found.length < 700 → found.length + f < 700 → o.length + f * k < 700 →
    ∃ s' o' X', forL x (gNm 1) (b2_least_table mg) (rangeT (q : Nat) f) [some (encT t), y, some (.lst (encG gs)), some (.ref B.length), some (.ref (B.length + 1)), s, v, z] (memX B (found.map encL) (encG o) X) =
      .nx ([some (encT t)] ++ s') (memX B ((Mt.lst t (fun i => gs.getD i 0) id f q o found).map encL) o' X') ∧ s'[2]? = some (some (.ref B.length))
  | 0, q, o, found, X, y, v, z, s, hq, ho, h1, h2, h3 => by
    rw [show rangeT (q : Nat) 0 = [] from rfl, forL_nil hx]
    exact ⟨_, _, _, rfl, rfl⟩
  | f + 1, q, o, found, X, y, v, z, s, hq, ho, h1, h2, h3 => by
    have hkk := ht.kle
    have hmul : (f + 1) * k = f * k + k := by rw [Nat.add_mul, Nat.one_mul]
    rw [rangeT_cons, show ((q : Nat) : Int) + 1 = ((q + 1 : Nat) : Int) by omega]
    unfold forL
    rw [if_pos (by simp [srcOk, hx])]
    have hol : oLen [.ref (B.length + 1)] (memX B (found.map encL) (encG o) X) = .ok (.int (o.length : Nat)) (memX B (found.map encL) (encG o) X) := by
      have := len_at (mx_o B (found.map encL) (encG o) X)
      rw [encG_len] at this
      exact this
    unfold Mt.lst
    by_cases hqe : q = o.length
    · rw [if_pos hqe]
      unfold b2_least_table
      simp only [fnRes, startS, fSeq, fNext, fIfS, fSet, fAsg, gNm, gNms, fPar, fPar3, fRet, fRetN, fDrop, fBreak, fFor, fWhile, fVar, fC, fB, fOp, fAnd, fOr, fNot, fAndV, fOrV, fNotV, fIf, fTup, fLst, fNew, aNil, aCons, aStar, fIx, fSl, oNone, oSome, fCB, fCall, fMt, fPut, fNeg, fChain, fLcG, fLc2G, fRevL, iSeq, iR1, iR2, iEnumF, o1, gYes, endL, Res.bind_ok, Res.st_ok, Res.noex_ok, SRes.seq_nx, SRes.seq_rt, SRes.seq_bk, SRes.turn_nx, SRes.turn_rt, SRes.turn_bk, SRes.res, List.map_cons, List.map_nil, List.length_cons, List.length_nil, List.cons_append, List.nil_append, List.append_nil, List.replicate, List.getElem?_cons_zero, List.getElem?_cons_succ, List.set_cons_zero, List.set_cons_succ, List.zip_cons_cons, List.foldl_cons, List.foldl_nil, List.zip_nil_left, Nat.reduceAdd, Nat.reduceSub, Nat.reduceMul, Nat.reduceLeDiff, Nat.reduceLT, Nat.reduceEqDiff, if_true, if_false, reduceIte, Bool.false_eq_true, wipeS, lim0, lim1, lim2, lim3, hol, i_eqN, decide_eq_true hqe]
      exact ⟨_, _, _, rfl, rfl⟩
    · rw [if_neg hqe]
      have hlt : q < o.length := by omega
      have hget : o.getD q 0 = o[q] := by rw [List.getD_eq_getElem?_getD, List.getElem?_eq_getElem hlt]; rfl
      rw [hget]
      have hoq := ho o[q] (List.getElem_mem hlt)
      have hot : o[q] < t.length := by rw [ht.len]; exact hoq
      have hlr : (Mt.row t o[q]).length = k := ht.row _ (Mt.row_mem hot)
      have hix : oIx (.ref (B.length + 1)) (.int (q : Nat)) (memX B (found.map encL) (encG o) (X ++ [.lst []])) = .ok (.int (o[q] : Nat)) (memX B (found.map encL) (encG o) (X ++ [.lst []])) := ix_at (mx_o _ _ _ _) (by unfold encG; rw [List.getElem?_map, List.getElem?_eq_getElem hlt]; rfl)
      obtain ⟨v', z', e1⟩ := for_sc (w := w) mg B (found.map encL) gs X hgl ⟨(Mt.row t o[q]).map encE, none, []⟩ rfl (some (encT t)) (some (.int (q : Nat))) (Mt.row t o[q]) o [] v z (fun e h => ht.ent _ (Mt.row_mem hot) e h) ho (by omega) (by simp; omega)
      have hsl := sc_len (fun i => gs.getD i 0) id (Mt.row t o[q]) o []
      have hslt := sc_lt (w := w) (fun i => gs.getD i 0) id (fun g h => h) (Mt.row t o[q]) o [] (fun e h => ht.ent _ (Mt.row_mem hot) e h) ho
      unfold b2_least_table
      simp only [fnRes, startS, fSeq, fNext, fIfS, fSet, fAsg, gNm, gNms, fPar, fPar3, fRet, fRetN, fDrop, fBreak, fFor, fWhile, fVar, fC, fB, fOp, fAnd, fOr, fNot, fAndV, fOrV, fNotV, fIf, fTup, fLst, fNew, aNil, aCons, aStar, fIx, fSl, oNone, oSome, fCB, fCall, fMt, fPut, fNeg, fChain, fLcG, fLc2G, fRevL, iSeq, iR1, iR2, iEnumF, o1, gYes, endL, Res.bind_ok, Res.st_ok, Res.noex_ok, SRes.seq_nx, SRes.seq_rt, SRes.seq_bk, SRes.turn_nx, SRes.turn_rt, SRes.turn_bk, SRes.res, List.map_cons, List.map_nil, List.length_cons, List.length_nil, List.cons_append, List.nil_append, List.append_nil, List.replicate, List.getElem?_cons_zero, List.getElem?_cons_succ, List.set_cons_zero, List.set_cons_succ, List.zip_cons_cons, List.foldl_cons, List.foldl_nil, List.zip_nil_left, Nat.reduceAdd, Nat.reduceSub, Nat.reduceMul, Nat.reduceLeDiff, Nat.reduceLT, Nat.reduceEqDiff, if_true, if_false, reduceIte, Bool.false_eq_true, wipeS, lim0, lim1, lim2, lim3, hol, i_eqN, decide_eq_false hqe, mx_len]
      rw [show memX B (found.map encL) (encG o) X ++ [Cell.lst []] = memX B (found.map encL) (encG o) (X ++ [.lst ((([] : List (Mt.Ent T))).map encE)]) from (mx_eq B _ _ X _).symm]
      rw [show (([] : List (Mt.Ent T))).map encE = [] from rfl] at e1 ⊢
      simp only [fnRes, startS, fSeq, fNext, fIfS, fSet, fAsg, gNm, gNms, fPar, fPar3, fRet, fRetN, fDrop, fBreak, fFor, fWhile, fVar, fC, fB, fOp, fAnd, fOr, fNot, fAndV, fOrV, fNotV, fIf, fTup, fLst, fNew, aNil, aCons, aStar, fIx, fSl, oNone, oSome, fCB, fCall, fMt, fPut, fNeg, fChain, fLcG, fLc2G, fRevL, iSeq, iR1, iR2, iEnumF, o1, gYes, endL, Res.bind_ok, Res.st_ok, Res.noex_ok, SRes.seq_nx, SRes.seq_rt, SRes.seq_bk, SRes.turn_nx, SRes.turn_rt, SRes.turn_bk, SRes.res, List.map_cons, List.map_nil, List.length_cons, List.length_nil, List.cons_append, List.nil_append, List.append_nil, List.replicate, List.getElem?_cons_zero, List.getElem?_cons_succ, List.set_cons_zero, List.set_cons_succ, List.zip_cons_cons, List.foldl_cons, List.foldl_nil, List.zip_nil_left, Nat.reduceAdd, Nat.reduceSub, Nat.reduceMul, Nat.reduceLeDiff, Nat.reduceLT, Nat.reduceEqDiff, if_true, if_false, reduceIte, Bool.false_eq_true, wipeS, lim0, lim1, lim2, lim3, hix, ix_row ht hoq]
      rw [show srcOf (memX B (found.map encL) (encG o) (X ++ [.lst []])) (encL (Mt.row t o[q])) = some ⟨(Mt.row t o[q]).map encE, none, []⟩ from rfl]
      simp only [fnRes, startS, fSeq, fNext, fIfS, fSet, fAsg, gNm, gNms, fPar, fPar3, fRet, fRetN, fDrop, fBreak, fFor, fWhile, fVar, fC, fB, fOp, fAnd, fOr, fNot, fAndV, fOrV, fNotV, fIf, fTup, fLst, fNew, aNil, aCons, aStar, fIx, fSl, oNone, oSome, fCB, fCall, fMt, fPut, fNeg, fChain, fLcG, fLc2G, fRevL, iSeq, iR1, iR2, iEnumF, o1, gYes, endL, Res.bind_ok, Res.st_ok, Res.noex_ok, SRes.seq_nx, SRes.seq_rt, SRes.seq_bk, SRes.turn_nx, SRes.turn_rt, SRes.turn_bk, SRes.res, List.map_cons, List.map_nil, List.length_cons, List.length_nil, List.cons_append, List.nil_append, List.append_nil, List.replicate, List.getElem?_cons_zero, List.getElem?_cons_succ, List.set_cons_zero, List.set_cons_succ, List.zip_cons_cons, List.foldl_cons, List.foldl_nil, List.zip_nil_left, Nat.reduceAdd, Nat.reduceSub, Nat.reduceMul, Nat.reduceLeDiff, Nat.reduceLT, Nat.reduceEqDiff, if_true, if_false, reduceIte, Bool.false_eq_true, wipeS, lim0, lim1, lim2, lim3]
      rw [e1]
      simp only [fnRes, startS, fSeq, fNext, fIfS, fSet, fAsg, gNm, gNms, fPar, fPar3, fRet, fRetN, fDrop, fBreak, fFor, fWhile, fVar, fC, fB, fOp, fAnd, fOr, fNot, fAndV, fOrV, fNotV, fIf, fTup, fLst, fNew, aNil, aCons, aStar, fIx, fSl, oNone, oSome, fCB, fCall, fMt, fPut, fNeg, fChain, fLcG, fLc2G, fRevL, iSeq, iR1, iR2, iEnumF, o1, gYes, endL, Res.bind_ok, Res.st_ok, Res.noex_ok, SRes.seq_nx, SRes.seq_rt, SRes.seq_bk, SRes.turn_nx, SRes.turn_rt, SRes.turn_bk, SRes.res, List.map_cons, List.map_nil, List.length_cons, List.length_nil, List.cons_append, List.nil_append, List.append_nil, List.replicate, List.getElem?_cons_zero, List.getElem?_cons_succ, List.set_cons_zero, List.set_cons_succ, List.zip_cons_cons, List.foldl_cons, List.foldl_nil, List.zip_nil_left, Nat.reduceAdd, Nat.reduceSub, Nat.reduceMul, Nat.reduceLeDiff, Nat.reduceLT, Nat.reduceEqDiff, if_true, if_false, reduceIte, Bool.false_eq_true, wipeS, lim0, lim1, lim2, lim3, ty_at (mx_f B (found.map encL) (encG (Mt.sc (fun i => gs.getD i 0) id (Mt.row t o[q]) o []).1) (X ++ [.lst ((Mt.sc (fun i => gs.getD i 0) id (Mt.row t o[q]) o []).2.map encE)])), tup_at (mx_l B (found.map encL) (encG (Mt.sc (fun i => gs.getD i 0) id (Mt.row t o[q]) o []).1) X ((Mt.sc (fun i => gs.getD i 0) id (Mt.row t o[q]) o []).2.map encE))]
      have happ : ∀ (o' : List T) (X' : Mem) (v : T), oAppend (.ref B.length) [v] (memX B (found.map encL) o' X') = .ok .non (memX B (found.map encL ++ [v]) o' X') := fun o' X' v => by
        rw [app_at (mx_f B (found.map encL) o' X') _ (by rw [List.length_map]; unfold lim; omega), sx_f]
      simp only [fnRes, startS, fSeq, fNext, fIfS, fSet, fAsg, gNm, gNms, fPar, fPar3, fRet, fRetN, fDrop, fBreak, fFor, fWhile, fVar, fC, fB, fOp, fAnd, fOr, fNot, fAndV, fOrV, fNotV, fIf, fTup, fLst, fNew, aNil, aCons, aStar, fIx, fSl, oNone, oSome, fCB, fCall, fMt, fPut, fNeg, fChain, fLcG, fLc2G, fRevL, iSeq, iR1, iR2, iEnumF, o1, gYes, endL, Res.bind_ok, Res.st_ok, Res.noex_ok, SRes.seq_nx, SRes.seq_rt, SRes.seq_bk, SRes.turn_nx, SRes.turn_rt, SRes.turn_bk, SRes.res, List.map_cons, List.map_nil, List.length_cons, List.length_nil, List.cons_append, List.nil_append, List.append_nil, List.replicate, List.getElem?_cons_zero, List.getElem?_cons_succ, List.set_cons_zero, List.set_cons_succ, List.zip_cons_cons, List.foldl_cons, List.foldl_nil, List.zip_nil_left, Nat.reduceAdd, Nat.reduceSub, Nat.reduceMul, Nat.reduceLeDiff, Nat.reduceLT, Nat.reduceEqDiff, if_true, if_false, reduceIte, Bool.false_eq_true, wipeS, lim0, lim1, lim2, lim3, happ]
      have := for_lst B ht gs hgl x hx f (q + 1) (Mt.sc (fun i => gs.getD i 0) id (Mt.row t o[q]) o []).1 (found ++ [(Mt.sc (fun i => gs.getD i 0) id (Mt.row t o[q]) o []).2]) (X ++ [.lst ((Mt.sc (fun i => gs.getD i 0) id (Mt.row t o[q]) o []).2.map encE)]) (some (.int (q : Nat))) v' z' (some (.ref (B.length + 2 + X.length))) (by omega) hslt (by simp; omega) (by simp; omega) (by omega)
      rw [List.map_append] at this
      exact this
theorem wf_of (ht : TabOk n k w t) : Mt.WF (fun l => match l with
    | .tup (.str x :: _) => decide (x = ("good" : Str))
    | _ => false) k t := by
  refine ⟨by rw [ht.len]; exact ht.pos, ht.row, fun r hr e he g hg => ?_, fun r hr e he => ?_⟩
  · rw [ht.len]
    cases ht.ent r hr e he with
    | clash => cases hg
    | stuck => cases hg
    | good _ _ h3 => cases hg; exact h3
  · cases ht.ent r hr e he with
    | clash => decide +kernel
    | stuck => decide +kernel
    | good _ _ h3 => simp
theorem legal_least (ht : TabOk n k w t) {c rp : Nat → Nat} (C : Mt.Cls t c rp) : TabOk (Mt.least t c rp).length k w (Mt.least t c rp) := by
  obtain ⟨O, h, h0, hl, hd⟩ := Mt.least_spec (wf_of ht) C
  obtain ⟨_, wf, hle⟩ := Mt.least_bis (wf_of ht) C
  refine ⟨rfl, wf.pos, ?_, ht.kpos, ht.kle, ht.wle, wf.len, fun r hr e he => ?_⟩
  · have := ht.le
    rw [ht.len] at hle
    omega
  · obtain ⟨i, hi, rfl⟩ := List.mem_iff_getElem.mp hr
    have hi' : i < O.length := by rw [← hl]; exact hi
    have hF := hd i _ _ (List.getElem?_eq_getElem hi') (List.getElem?_eq_getElem hi)
    have hxl := (h.img _ (List.getElem_mem hi')).1
    obtain ⟨j, hj, ej⟩ := List.mem_iff_getElem.mp he
    have hj' : j < (Mt.row t O[i]).length := by rw [hF.len]; exact hj
    have q := hF.get (List.getElem?_eq_getElem hj') (List.getElem?_eq_getElem hj)
    have he0 := ht.ent _ (Mt.row_mem hxl) _ (List.getElem_mem hj')
    rw [ej] at q
    have hwf := wf.nx _ hr e he
    have q2 := q.2
    obtain ⟨lb, op⟩ := e
    have q1 : ((Mt.row t O[i])[j]).1 = lb := q.1
    cases ho : ((Mt.row t O[i])[j]).2 with
    | none =>
      cases op with
      | none =>
        have := e_bad (m := (Mt.least t c rp).length) he0 ho
        have ee : (Mt.row t O[i])[j] = (lb, none) := Prod.ext q1 ho
        rw [ee] at this
        exact this
      | some g => rw [ho] at q2; exact q2.elim
    | some g' =>
      cases op with
      | none => rw [ho] at q2; exact q2.elim
      | some g =>
        have := e_set he0 (hwf g rfl) (by rw [ho]; rfl)
        rw [q1] at this
        exact this
theorem lt_ok (ht : TabOk n k w t) (B : Mem) (hB : MemClo B) (hmg : mg [encT t] B = .ok (.lst (encG (Mt.groups t))) B) : cln (g_least_table mg) [encT t] B = .ok (encT (Mt.lt t)) B := by
  have hn := ht.le
  have hk := ht.kle
  have hgl : (Mt.groups t).length = n := by rw [Mt.groups_len (wf_of ht), ht.len]
  have hnk := Nat.mul_le_mul hn hk
  obtain ⟨s', o', X', e1, e2⟩ := for_lst mg B ht (Mt.groups t) hgl ⟨rangeT 0 ((n : Int)).toNat, none, []⟩ rfl n 0 [0] [] [] none none none none (by simp) (fun x hx => by simp at hx; subst hx; exact ht.pos) (by simp) (by simp; omega) (by simp; omega)
  have hlt : Mt.lst t (fun i => (Mt.groups t).getD i 0) id n 0 [0] [] = Mt.lt t := by
    unfold Mt.lt Mt.least
    rw [ht.len]
    rfl
  rw [hlt] at e1
  have hpl := tab_pl (t := Mt.lt t) (legal_least ht (Mt.cls_gi (wf_of ht))).ent
  refine cln_ok (J := .lst ((Mt.lt t).map encL) :: .lst o' :: X') (v := encT (Mt.lt t)) ?_ rfl (.same (pl_clo _ 5 _ hpl)) hB
  unfold g_least_table F_least_table
  simp only [fnRes, startS, fSeq, fNext, fIfS, fSet, fAsg, gNm, gNms, fPar, fPar3, fRet, fRetN, fDrop, fBreak, fFor, fWhile, fVar, fC, fB, fOp, fAnd, fOr, fNot, fAndV, fOrV, fNotV, fIf, fTup, fLst, fNew, aNil, aCons, aStar, fIx, fSl, oNone, oSome, fCB, fCall, fMt, fPut, fNeg, fChain, fLcG, fLc2G, fRevL, iSeq, iR1, iR2, iEnumF, o1, gYes, endL, Res.bind_ok, Res.st_ok, Res.noex_ok, SRes.seq_nx, SRes.seq_rt, SRes.seq_bk, SRes.turn_nx, SRes.turn_rt, SRes.turn_bk, SRes.res, List.map_cons, List.map_nil, List.length_cons, List.length_nil, List.cons_append, List.nil_append, List.append_nil, List.replicate, List.getElem?_cons_zero, List.getElem?_cons_succ, List.set_cons_zero, List.set_cons_succ, List.zip_cons_cons, List.foldl_cons, List.foldl_nil, List.zip_nil_left, Nat.reduceAdd, Nat.reduceSub, Nat.reduceMul, Nat.reduceLeDiff, Nat.reduceLT, Nat.reduceEqDiff, if_true, if_false, reduceIte, Bool.false_eq_true, wipeS, lim0, lim1, lim2, lim3, hmg, List.length_append]
  rw [show B ++ [Cell.lst []] ++ [Cell.lst [T.int 0]] = memX B (([] : Mt.Tb T).map encL) (encG [0]) [] by simp [memX, encG]]
  simp only [fnRes, startS, fSeq, fNext, fIfS, fSet, fAsg, gNm, gNms, fPar, fPar3, fRet, fRetN, fDrop, fBreak, fFor, fWhile, fVar, fC, fB, fOp, fAnd, fOr, fNot, fAndV, fOrV, fNotV, fIf, fTup, fLst, fNew, aNil, aCons, aStar, fIx, fSl, oNone, oSome, fCB, fCall, fMt, fPut, fNeg, fChain, fLcG, fLc2G, fRevL, iSeq, iR1, iR2, iEnumF, o1, gYes, endL, Res.bind_ok, Res.st_ok, Res.noex_ok, SRes.seq_nx, SRes.seq_rt, SRes.seq_bk, SRes.turn_nx, SRes.turn_rt, SRes.turn_bk, SRes.res, List.map_cons, List.map_nil, List.length_cons, List.length_nil, List.cons_append, List.nil_append, List.append_nil, List.replicate, List.getElem?_cons_zero, List.getElem?_cons_succ, List.set_cons_zero, List.set_cons_succ, List.zip_cons_cons, List.foldl_cons, List.foldl_nil, List.zip_nil_left, Nat.reduceAdd, Nat.reduceSub, Nat.reduceMul, Nat.reduceLeDiff, Nat.reduceLT, Nat.reduceEqDiff, if_true, if_false, reduceIte, Bool.false_eq_true, wipeS, lim0, lim1, lim2, lim3, encT_len ht]
  rw [rangeS (n := (n : Int)) (by omega) (by omega)]
  simp only [fnRes, startS, fSeq, fNext, fIfS, fSet, fAsg, gNm, gNms, fPar, fPar3, fRet, fRetN, fDrop, fBreak, fFor, fWhile, fVar, fC, fB, fOp, fAnd, fOr, fNot, fAndV, fOrV, fNotV, fIf, fTup, fLst, fNew, aNil, aCons, aStar, fIx, fSl, oNone, oSome, fCB, fCall, fMt, fPut, fNeg, fChain, fLcG, fLc2G, fRevL, iSeq, iR1, iR2, iEnumF, o1, gYes, endL, Res.bind_ok, Res.st_ok, Res.noex_ok, SRes.seq_nx, SRes.seq_rt, SRes.seq_bk, SRes.turn_nx, SRes.turn_rt, SRes.turn_bk, SRes.res, List.map_cons, List.map_nil, List.length_cons, List.length_nil, List.cons_append, List.nil_append, List.append_nil, List.replicate, List.getElem?_cons_zero, List.getElem?_cons_succ, List.set_cons_zero, List.set_cons_succ, List.zip_cons_cons, List.foldl_cons, List.foldl_nil, List.zip_nil_left, Nat.reduceAdd, Nat.reduceSub, Nat.reduceMul, Nat.reduceLeDiff, Nat.reduceLT, Nat.reduceEqDiff, if_true, if_false, reduceIte, Bool.false_eq_true, wipeS, lim0, lim1, lim2, lim3]
  rw [show rangeT 0 ((n : Int)).toNat = rangeT ((0 : Nat) : Int) n by rw [Int.toNat_natCast]; rfl] at e1 ⊢
  rw [show (([] : Mt.Tb T).map encL) = [] from rfl] at e1
  rw [e1]
  simp only [fnRes, startS, fSeq, fNext, fIfS, fSet, fAsg, gNm, gNms, fPar, fPar3, fRet, fRetN, fDrop, fBreak, fFor, fWhile, fVar, fC, fB, fOp, fAnd, fOr, fNot, fAndV, fOrV, fNotV, fIf, fTup, fLst, fNew, aNil, aCons, aStar, fIx, fSl, oNone, oSome, fCB, fCall, fMt, fPut, fNeg, fChain, fLcG, fLc2G, fRevL, iSeq, iR1, iR2, iEnumF, o1, gYes, endL, Res.bind_ok, Res.st_ok, Res.noex_ok, SRes.seq_nx, SRes.seq_rt, SRes.seq_bk, SRes.turn_nx, SRes.turn_rt, SRes.turn_bk, SRes.res, List.map_cons, List.map_nil, List.length_cons, List.length_nil, List.cons_append, List.nil_append, List.append_nil, List.replicate, List.getElem?_cons_zero, List.getElem?_cons_succ, List.set_cons_zero, List.set_cons_succ, List.zip_cons_cons, List.foldl_cons, List.foldl_nil, List.zip_nil_left, Nat.reduceAdd, Nat.reduceSub, Nat.reduceMul, Nat.reduceLeDiff, Nat.reduceLT, Nat.reduceEqDiff, if_true, if_false, reduceIte, Bool.false_eq_true, wipeS, lim0, lim1, lim2, lim3, e2]
  rw [show oTuple [.ref B.length] (memX B ((Mt.lt t).map encL) o' X') = .ok (encT (Mt.lt t)) (memX B ((Mt.lt t).map encL) o' X') from tup_at (mx_f _ _ _ _)]
  simp only [fnRes, startS, fSeq, fNext, fIfS, fSet, fAsg, gNm, gNms, fPar, fPar3, fRet, fRetN, fDrop, fBreak, fFor, fWhile, fVar, fC, fB, fOp, fAnd, fOr, fNot, fAndV, fOrV, fNotV, fIf, fTup, fLst, fNew, aNil, aCons, aStar, fIx, fSl, oNone, oSome, fCB, fCall, fMt, fPut, fNeg, fChain, fLcG, fLc2G, fRevL, iSeq, iR1, iR2, iEnumF, o1, gYes, endL, Res.bind_ok, Res.st_ok, Res.noex_ok, SRes.seq_nx, SRes.seq_rt, SRes.seq_bk, SRes.turn_nx, SRes.turn_rt, SRes.turn_bk, SRes.res, List.map_cons, List.map_nil, List.length_cons, List.length_nil, List.cons_append, List.nil_append, List.append_nil, List.replicate, List.getElem?_cons_zero, List.getElem?_cons_succ, List.set_cons_zero, List.set_cons_succ, List.zip_cons_cons, List.foldl_cons, List.foldl_nil, List.zip_nil_left, Nat.reduceAdd, Nat.reduceSub, Nat.reduceMul, Nat.reduceLeDiff, Nat.reduceLT, Nat.reduceEqDiff, if_true, if_false, reduceIte, Bool.false_eq_true, wipeS, lim0, lim1, lim2, lim3]
  rfl
end
end Fl
set_option Elab.async false
set_option linter.all false
set_option maxRecDepth 100000
set_option maxHeartbeats 4000000
/-! P14: the law's least tables. -/
namespace Fl
open PySem PySem.Spec PyProof.Rows L2
mutual
theorem clo_mono {a b : Nat} (h : a ≤ b) : ∀ t : T, T.clo a t → T.clo b t
  | .ref m, q => Nat.lt_of_lt_of_le q h
  | .tup ts, q => clos_mono h ts q
  | .lst ts, q => clos_mono h ts q
  | .scr ts, q => clos_mono h ts q
  | .non, _ => trivial
  | .bl _, _ => trivial
  | .int _, _ => trivial
  | .str _, _ => trivial
  | .iset _, _ => trivial
  | .rng _ _, _ => trivial
  | .adr _, _ => trivial
  | .ty _, _ => trivial
theorem clos_mono {a b : Nat} (h : a ≤ b) : ∀ ts : List T, T.clos a ts → T.clos b ts
  | [], _ => trivial
  | t :: ts, q => ⟨clo_mono h t q.1, clos_mono h ts q.2⟩
end
theorem ccl_mono {a b : Nat} (h : a ≤ b) : ∀ c : Cell, Cell.clo a c → Cell.clo b c
  | .lst ts, q => clos_mono h ts q
  | .dk kvs, q => clos_mono h _ q
  | .dn _ _ _, q => q.elim
theorem MemClo.snoc {B : Mem} (h : MemClo B) {us : List T} (hu : T.pls 63 us = true) : MemClo (B ++ [.lst us]) := fun c hc => by
  rw [List.length_append]
  rcases List.mem_append.mp hc with hc | hc
  · exact ccl_mono (by simp) c (h c hc)
  · rw [List.mem_singleton.mp hc]
    exact pls_clo us 63 _ hu
theorem at_s (B : Mem) (c : Cell) : (B ++ [c])[B.length]? = some c := by simp
theorem set_s (B : Mem) (c d : Cell) : (B ++ [c]).set B.length d = B ++ [d] := by simp
section
variable {n k w : Nat} {t : Mt.Tb T} (mp : GT)
theorem fsts_ok (ht : TabOk n k w t) (M : Mem) {i : Nat} (hi : i < n) (hmp : ∀ j, j < n → mp [encT t, .int (i : Nat), encT t, .int (j : Nat)] M = .ok (wayT (Mt.parting t t i j)) M) (a c d e f g h : Option T) :
    lcLoop ⟨rangeT 0 ((i : Int) + 1).toNat, none, []⟩ (gNm 8) (t1__law_least_of mp) (e1__law_least_of mp) [some (encT t), a, some (.int (i : Nat)), c, d, e, f, g, none] (rangeT 0 ((i : Int) + 1).toNat) [] M = .ok (encG (Mt.fsts t i)) M := by
  rw [lc_pure id (fun y => match y with | .int j => decide (Mt.parting t t i j.toNat = none) | _ => false) rfl (rangeT 0 ((i : Int) + 1).toNat) [] (fun y hy => ?_) (by rw [rangeT_len]; unfold lim; have := ht.le; simp; omega)]
  · congr 1
    rw [List.nil_append, List.map_id]
    unfold rangeT encG Mt.fsts
    rw [List.filter_map, show ((i : Int) + 1).toNat = i + 1 by omega]
    rw [show (List.filter ((fun y => match y with | .int j => decide (Mt.parting t t i j.toNat = none) | _ => false) ∘ fun (k : Nat) => T.int (0 + (k : Int))) (List.range (i + 1))) = List.filter (fun j => decide (Mt.parting t t i j = none)) (List.range (i + 1)) from List.filter_congr fun j _ => by
      show decide (Mt.parting t t i (0 + (j : Int)).toNat = none) = _
      rw [Int.zero_add, Int.toNat_natCast]]
    refine List.map_congr_left fun j _ => ?_
    rw [Int.zero_add]
  · obtain ⟨j, hj⟩ := List.mem_iff_getElem?.mp hy
    obtain ⟨hj1, rfl⟩ := rangeT_get hj
    rw [Int.zero_add]
    have := hmp j (by omega)
    refine ⟨_, rfl, ?_, fun _ => rfl⟩
    unfold t1__law_least_of
    simp only [fnRes, startS, fSeq, fNext, fIfS, fSet, fAsg, gNm, gNms, fPar, fPar3, fRet, fRetN, fDrop, fBreak, fFor, fWhile, fVar, fC, fB, fOp, fAnd, fOr, fNot, fAndV, fOrV, fNotV, fIf, fTup, fLst, fNew, aNil, aCons, aStar, fIx, fSl, oNone, oSome, fCB, fCall, fMt, fPut, fNeg, fChain, fLcG, fLc2G, fRevL, iSeq, iR1, iR2, iEnumF, o1, gYes, endL, Res.bind_ok, Res.st_ok, Res.noex_ok, SRes.seq_nx, SRes.seq_rt, SRes.seq_bk, SRes.turn_nx, SRes.turn_rt, SRes.turn_bk, SRes.res, List.map_cons, List.map_nil, List.length_cons, List.length_nil, List.cons_append, List.nil_append, List.append_nil, List.replicate, List.getElem?_cons_zero, List.getElem?_cons_succ, List.set_cons_zero, List.set_cons_succ, List.zip_cons_cons, List.foldl_cons, List.foldl_nil, List.zip_nil_left, Nat.reduceAdd, Nat.reduceSub, Nat.reduceMul, Nat.reduceLeDiff, Nat.reduceLT, Nat.reduceEqDiff, if_true, if_false, reduceIte, Bool.false_eq_true, wipeS, lim0, lim1, lim2, lim3, this]
    cases hp : Mt.parting t t i j with
    | none =>
      simp only [wayT, oIs, T.isNon, Res.bind_ok, Int.toNat_natCast, hp, decide_true]
    | some v =>
      simp only [wayT, encW, oIs, T.isNon, Res.bind_ok, Int.toNat_natCast, hp, reduceCtorEq, decide_false]
theorem for_firsts (ht : TabOk n k w t) (B : Mem) (hmp : ∀ i j, i < n → j < n → ∀ us, T.pls 63 us = true → mp [encT t, .int (i : Nat), encT t, .int (j : Nat)] (B ++ [.lst us]) = .ok (wayT (Mt.parting t t i j)) (B ++ [.lst us])) (x : Src) (hx : x.cell = none) (c d e f g h : Option T) : ∀ (m q : Nat) (fs : List Nat) (y : Option T), q + m = n → fs.length + m < 600 →
    ∃ y', forL x (gNm 2) (b1__law_least_of mp) (rangeT (q : Nat) m) [some (encT t), some (.ref B.length), y, c, d, e, f, g, h] (B ++ [.lst (encG fs)]) =
      .nx [some (encT t), some (.ref B.length), y', c, d, e, f, g, h] (B ++ [.lst (encG (fs ++ (List.range' q m).map (Mt.fst t)))])
  | 0, q, fs, y, hq, hl => by
    rw [show rangeT (q : Nat) 0 = [] from rfl, forL_nil hx]
    exact ⟨y, by simp⟩
  | m + 1, q, fs, y, hq, hl => by
    have hn := ht.le
    have hqn : q < n := by omega
    rw [rangeT_cons, show ((q : Nat) : Int) + 1 = ((q + 1 : Nat) : Int) by omega]
    unfold forL
    rw [if_pos (by simp [srcOk, hx])]
    have hqt : q < t.length := by rw [ht.len]; exact hqn
    have hhead := (Mt.fst_spec (wf_of ht) hqt).2.2.2
    have hix : oIx (.lst (encG (Mt.fsts t q))) (.int 0) (B ++ [.lst (encG fs)]) = .ok (.int (Mt.fst t q : Nat)) (B ++ [.lst (encG fs)]) := by
      refine ix_lst (encG (Mt.fsts t q)) 0 _ _ ?_
      unfold encG
      rw [List.getElem?_map, ← List.head?_eq_getElem?, hhead]
      rfl
    have e1 := fsts_ok mp ht (B ++ [.lst (encG fs)]) hqn (fun j hj => hmp q j hqn hj _ (encG_pl fs 63)) (some (.ref B.length)) c d e f g h
    simp only [fnRes, startS, fSeq, fNext, fIfS, fSet, fAsg, gNm, gNms, fPar, fPar3, fRet, fRetN, fDrop, fBreak, fFor, fWhile, fVar, fC, fB, fOp, fAnd, fOr, fNot, fAndV, fOrV, fNotV, fIf, fTup, fLst, fNew, aNil, aCons, aStar, fIx, fSl, oNone, oSome, fCB, fCall, fMt, fPut, fNeg, fChain, fLcG, fLc2G, fRevL, iSeq, iR1, iR2, iEnumF, o1, gYes, endL, Res.bind_ok, Res.st_ok, Res.noex_ok, SRes.seq_nx, SRes.seq_rt, SRes.seq_bk, SRes.turn_nx, SRes.turn_rt, SRes.turn_bk, SRes.res, List.map_cons, List.map_nil, List.length_cons, List.length_nil, List.cons_append, List.nil_append, List.append_nil, List.replicate, List.getElem?_cons_zero, List.getElem?_cons_succ, List.set_cons_zero, List.set_cons_succ, List.zip_cons_cons, List.foldl_cons, List.foldl_nil, List.zip_nil_left, Nat.reduceAdd, Nat.reduceSub, Nat.reduceMul, Nat.reduceLeDiff, Nat.reduceLT, Nat.reduceEqDiff, if_true, if_false, reduceIte, Bool.false_eq_true, wipeS, lim0, lim1, lim2, lim3]
    have hb : b1__law_least_of mp [some (encT t), some (.ref B.length), some (.int (q : Nat)), c, d, e, f, g, h] (B ++ [.lst (encG fs)]) = .nx [some (encT t), some (.ref B.length), some (.int (q : Nat)), c, d, e, f, g, h] (B ++ [.lst (encG (fs ++ [Mt.fst t q]))]) := by
      unfold b1__law_least_of
      simp only [fnRes, startS, fSeq, fNext, fIfS, fSet, fAsg, gNm, gNms, fPar, fPar3, fRet, fRetN, fDrop, fBreak, fFor, fWhile, fVar, fC, fB, fOp, fAnd, fOr, fNot, fAndV, fOrV, fNotV, fIf, fTup, fLst, fNew, aNil, aCons, aStar, fIx, fSl, oNone, oSome, fCB, fCall, fMt, fPut, fNeg, fChain, fLcG, fLc2G, fRevL, iSeq, iR1, iR2, iEnumF, o1, gYes, endL, Res.bind_ok, Res.st_ok, Res.noex_ok, SRes.seq_nx, SRes.seq_rt, SRes.seq_bk, SRes.turn_nx, SRes.turn_rt, SRes.turn_bk, SRes.res, List.map_cons, List.map_nil, List.length_cons, List.length_nil, List.cons_append, List.nil_append, List.append_nil, List.replicate, List.getElem?_cons_zero, List.getElem?_cons_succ, List.set_cons_zero, List.set_cons_succ, List.zip_cons_cons, List.foldl_cons, List.foldl_nil, List.zip_nil_left, Nat.reduceAdd, Nat.reduceSub, Nat.reduceMul, Nat.reduceLeDiff, Nat.reduceLT, Nat.reduceEqDiff, if_true, if_false, reduceIte, Bool.false_eq_true, wipeS, lim0, lim1, lim2, lim3, ty_at (at_s B (.lst (encG fs))), i_add]
      rw [rangeS (n := (q : Int) + 1) (by omega) (by omega)]
      simp only [fnRes, startS, fSeq, fNext, fIfS, fSet, fAsg, gNm, gNms, fPar, fPar3, fRet, fRetN, fDrop, fBreak, fFor, fWhile, fVar, fC, fB, fOp, fAnd, fOr, fNot, fAndV, fOrV, fNotV, fIf, fTup, fLst, fNew, aNil, aCons, aStar, fIx, fSl, oNone, oSome, fCB, fCall, fMt, fPut, fNeg, fChain, fLcG, fLc2G, fRevL, iSeq, iR1, iR2, iEnumF, o1, gYes, endL, Res.bind_ok, Res.st_ok, Res.noex_ok, SRes.seq_nx, SRes.seq_rt, SRes.seq_bk, SRes.turn_nx, SRes.turn_rt, SRes.turn_bk, SRes.res, List.map_cons, List.map_nil, List.length_cons, List.length_nil, List.cons_append, List.nil_append, List.append_nil, List.replicate, List.getElem?_cons_zero, List.getElem?_cons_succ, List.set_cons_zero, List.set_cons_succ, List.zip_cons_cons, List.foldl_cons, List.foldl_nil, List.zip_nil_left, Nat.reduceAdd, Nat.reduceSub, Nat.reduceMul, Nat.reduceLeDiff, Nat.reduceLT, Nat.reduceEqDiff, if_true, if_false, reduceIte, Bool.false_eq_true, wipeS, lim0, lim1, lim2, lim3]
      rw [e1]
      simp only [fnRes, startS, fSeq, fNext, fIfS, fSet, fAsg, gNm, gNms, fPar, fPar3, fRet, fRetN, fDrop, fBreak, fFor, fWhile, fVar, fC, fB, fOp, fAnd, fOr, fNot, fAndV, fOrV, fNotV, fIf, fTup, fLst, fNew, aNil, aCons, aStar, fIx, fSl, oNone, oSome, fCB, fCall, fMt, fPut, fNeg, fChain, fLcG, fLc2G, fRevL, iSeq, iR1, iR2, iEnumF, o1, gYes, endL, Res.bind_ok, Res.st_ok, Res.noex_ok, SRes.seq_nx, SRes.seq_rt, SRes.seq_bk, SRes.turn_nx, SRes.turn_rt, SRes.turn_bk, SRes.res, List.map_cons, List.map_nil, List.length_cons, List.length_nil, List.cons_append, List.nil_append, List.append_nil, List.replicate, List.getElem?_cons_zero, List.getElem?_cons_succ, List.set_cons_zero, List.set_cons_succ, List.zip_cons_cons, List.foldl_cons, List.foldl_nil, List.zip_nil_left, Nat.reduceAdd, Nat.reduceSub, Nat.reduceMul, Nat.reduceLeDiff, Nat.reduceLT, Nat.reduceEqDiff, if_true, if_false, reduceIte, Bool.false_eq_true, wipeS, lim0, lim1, lim2, lim3, hix]
      rw [app_at (at_s B (.lst (encG fs))) _ (by rw [encG_len]; unfold lim; omega), set_s, encG_snoc]
      simp only [fnRes, startS, fSeq, fNext, fIfS, fSet, fAsg, gNm, gNms, fPar, fPar3, fRet, fRetN, fDrop, fBreak, fFor, fWhile, fVar, fC, fB, fOp, fAnd, fOr, fNot, fAndV, fOrV, fNotV, fIf, fTup, fLst, fNew, aNil, aCons, aStar, fIx, fSl, oNone, oSome, fCB, fCall, fMt, fPut, fNeg, fChain, fLcG, fLc2G, fRevL, iSeq, iR1, iR2, iEnumF, o1, gYes, endL, Res.bind_ok, Res.st_ok, Res.noex_ok, SRes.seq_nx, SRes.seq_rt, SRes.seq_bk, SRes.turn_nx, SRes.turn_rt, SRes.turn_bk, SRes.res, List.map_cons, List.map_nil, List.length_cons, List.length_nil, List.cons_append, List.nil_append, List.append_nil, List.replicate, List.getElem?_cons_zero, List.getElem?_cons_succ, List.set_cons_zero, List.set_cons_succ, List.zip_cons_cons, List.foldl_cons, List.foldl_nil, List.zip_nil_left, Nat.reduceAdd, Nat.reduceSub, Nat.reduceMul, Nat.reduceLeDiff, Nat.reduceLT, Nat.reduceEqDiff, if_true, if_false, reduceIte, Bool.false_eq_true, wipeS, lim0, lim1, lim2, lim3]
    rw [hb]
    simp only [fnRes, startS, fSeq, fNext, fIfS, fSet, fAsg, gNm, gNms, fPar, fPar3, fRet, fRetN, fDrop, fBreak, fFor, fWhile, fVar, fC, fB, fOp, fAnd, fOr, fNot, fAndV, fOrV, fNotV, fIf, fTup, fLst, fNew, aNil, aCons, aStar, fIx, fSl, oNone, oSome, fCB, fCall, fMt, fPut, fNeg, fChain, fLcG, fLc2G, fRevL, iSeq, iR1, iR2, iEnumF, o1, gYes, endL, Res.bind_ok, Res.st_ok, Res.noex_ok, SRes.seq_nx, SRes.seq_rt, SRes.seq_bk, SRes.turn_nx, SRes.turn_rt, SRes.turn_bk, SRes.res, List.map_cons, List.map_nil, List.length_cons, List.length_nil, List.cons_append, List.nil_append, List.append_nil, List.replicate, List.getElem?_cons_zero, List.getElem?_cons_succ, List.set_cons_zero, List.set_cons_succ, List.zip_cons_cons, List.foldl_cons, List.foldl_nil, List.zip_nil_left, Nat.reduceAdd, Nat.reduceSub, Nat.reduceMul, Nat.reduceLeDiff, Nat.reduceLT, Nat.reduceEqDiff, if_true, if_false, reduceIte, Bool.false_eq_true, wipeS, lim0, lim1, lim2, lim3]
    obtain ⟨y', e2⟩ := for_firsts ht B hmp x hx c d e f g h m (q + 1) (fs ++ [Mt.fst t q]) (some (.int (q : Nat))) (by omega) (by simp; omega)
    refine ⟨y', ?_⟩
    rw [e2, List.range'_succ, List.map_cons, List.append_assoc]
    rfl
/-- one entry -/
theorem b2_lo (B : Mem) (fs o : List Nat) (fd : List T) (X : Mem) (l : List (Mt.Ent T)) {e : Mt.Ent T} (he : EntOk n w e) (hgl : fs.length = n) (hol : o.length < 800) (hll : l.length < 800) (a kk y z : Option T) :
    b2__law_least_of mp [a, some (.ref B.length), kk, y, some (.ref (B ++ [Cell.lst (encG fs)]).length), some (.ref ((B ++ [Cell.lst (encG fs)]).length + 1)), some (.ref ((B ++ [Cell.lst (encG fs)]).length + 2 + X.length)), some (encE e), z] (memX (B ++ [Cell.lst (encG fs)]) (encG o) fd (X ++ [.lst (l.map encE)])) =
      .nx [a, some (.ref B.length), kk, y, some (.ref (B ++ [Cell.lst (encG fs)]).length), some (.ref ((B ++ [Cell.lst (encG fs)]).length + 1)), some (.ref ((B ++ [Cell.lst (encG fs)]).length + 2 + X.length)), some (encE e), z] (match e.2 with
        | none => memX (B ++ [Cell.lst (encG fs)]) (encG o) fd (X ++ [.lst ((l ++ [(e.1, none)]).map encE)])
        | some g => if fs.getD g 0 ∈ o then memX (B ++ [Cell.lst (encG fs)]) (encG o) fd (X ++ [.lst ((l ++ [(e.1, Mt.ixOf (fs.getD g 0) o)]).map encE)])
          else memX (B ++ [Cell.lst (encG fs)]) (encG (o ++ [fs.getD g 0])) fd (X ++ [.lst ((l ++ [(e.1, Mt.ixOf (fs.getD g 0) (o ++ [fs.getD g 0]))]).map encE)])) := by
  generalize hB' : B ++ [Cell.lst (encG fs)] = B'
  have hfa : ∀ o' X', (memX B' o' fd X')[B.length]? = some (.lst (encG fs)) := fun o' X' => by
    rw [← hB']
    unfold memX
    rw [List.append_assoc, List.getElem?_append_right (Nat.le_refl _)]
    simp
  have x7 : ∀ M : Mem, (oIx (encE e) (.int 0) M).bind (fun a M1 => oEq a (.str "good") M1) = .ok (.bl e.2.isSome) M := fun M => e_good he M
  have hap : ∀ (o' : List T) (v : T), oAppend (.ref (B'.length + 2 + X.length)) [v] (memX B' o' fd (X ++ [.lst (l.map encE)])) = .ok .non (memX B' o' fd (X ++ [.lst (l.map encE ++ [v])])) := fun o' v => by
    rw [app_at (mx_l B' o' fd X _) _ (by rw [List.length_map]; unfold lim; omega), sx_l]
  have hty : ∀ (o' : List T), tyOk "list" (memX B' o' fd (X ++ [.lst (l.map encE)])) (.ref (B'.length + 2 + X.length)) = true := fun o' => ty_at (mx_l B' o' fd X _)
  unfold b2__law_least_of
  simp only [fnRes, startS, fSeq, fNext, fIfS, fSet, fAsg, gNm, gNms, fPar, fPar3, fRet, fRetN, fDrop, fBreak, fFor, fWhile, fVar, fC, fB, fOp, fAnd, fOr, fNot, fAndV, fOrV, fNotV, fIf, fTup, fLst, fNew, aNil, aCons, aStar, fIx, fSl, oNone, oSome, fCB, fCall, fMt, fPut, fNeg, fChain, fLcG, fLc2G, fRevL, iSeq, iR1, iR2, iEnumF, o1, gYes, endL, Res.bind_ok, Res.st_ok, Res.noex_ok, SRes.seq_nx, SRes.seq_rt, SRes.seq_bk, SRes.turn_nx, SRes.turn_rt, SRes.turn_bk, SRes.res, List.map_cons, List.map_nil, List.length_cons, List.length_nil, List.cons_append, List.nil_append, List.append_nil, List.replicate, List.getElem?_cons_zero, List.getElem?_cons_succ, List.set_cons_zero, List.set_cons_succ, List.zip_cons_cons, List.foldl_cons, List.foldl_nil, List.zip_nil_left, Nat.reduceAdd, Nat.reduceSub, Nat.reduceMul, Nat.reduceLeDiff, Nat.reduceLT, Nat.reduceEqDiff, if_true, if_false, reduceIte, Bool.false_eq_true, wipeS, lim0, lim1, lim2, lim3]
  rw [x7]
  cases hs : e.2 with
  | none =>
    simp only [fnRes, startS, fSeq, fNext, fIfS, fSet, fAsg, gNm, gNms, fPar, fPar3, fRet, fRetN, fDrop, fBreak, fFor, fWhile, fVar, fC, fB, fOp, fAnd, fOr, fNot, fAndV, fOrV, fNotV, fIf, fTup, fLst, fNew, aNil, aCons, aStar, fIx, fSl, oNone, oSome, fCB, fCall, fMt, fPut, fNeg, fChain, fLcG, fLc2G, fRevL, iSeq, iR1, iR2, iEnumF, o1, gYes, endL, Res.bind_ok, Res.st_ok, Res.noex_ok, SRes.seq_nx, SRes.seq_rt, SRes.seq_bk, SRes.turn_nx, SRes.turn_rt, SRes.turn_bk, SRes.res, List.map_cons, List.map_nil, List.length_cons, List.length_nil, List.cons_append, List.nil_append, List.append_nil, List.replicate, List.getElem?_cons_zero, List.getElem?_cons_succ, List.set_cons_zero, List.set_cons_succ, List.zip_cons_cons, List.foldl_cons, List.foldl_nil, List.zip_nil_left, Nat.reduceAdd, Nat.reduceSub, Nat.reduceMul, Nat.reduceLeDiff, Nat.reduceLT, Nat.reduceEqDiff, if_true, if_false, reduceIte, Bool.false_eq_true, wipeS, lim0, lim1, lim2, lim3, Option.isSome_none, hty, hap]
    obtain ⟨l', o'⟩ := e
    have hs : o' = none := hs
    subst hs
    rw [List.map_append]
    rfl
  | some g =>
    obtain ⟨outs, hg, hee, hl1⟩ : ∃ outs : List T, g < n ∧ e = (.tup [.str "good", .tup outs], some g) ∧ True := by
      cases he with
      | clash => cases hs
      | stuck => cases hs
      | @good o' g' _ _ h3 => cases hs; exact ⟨o', h3, rfl, trivial⟩
    have hixg : ∀ o' X', oIx (.ref B.length) (.int (g : Nat)) (memX B' o' fd X') = .ok (.int (fs.getD g 0 : Nat)) (memX B' o' fd X') := fun o' X' => ixG (B := []) (.inr ⟨B.length, Nat.zero_le _, rfl, hfa o' X'⟩) (by omega)
    have hni : ∀ (o' : List Nat) X', oNotIn (.int (fs.getD g 0 : Nat)) (.ref B'.length) (memX B' (encG o') fd X') = .ok (.bl (!decide (fs.getD g 0 ∈ o'))) (memX B' (encG o') fd X') := fun o' X' => by
      rw [notin_pl (seq_at (mx_f B' (encG o') fd X')) rfl (encG_pl _ 63)]
      congr 3
      rw [Bool.eq_iff_iff, decide_eq_true_eq, decide_eq_true_eq, encG_mem]
    have hidx : ∀ (o' : List Nat) (j : Nat) X', Mt.ixOf (fs.getD g 0) o' = some j → oIndex (.ref B'.length) [.int (fs.getD g 0 : Nat)] (memX B' (encG o') fd X') = .ok (.int (j : Nat)) (memX B' (encG o') fd X') := fun o' j X' h => by
      have := index_pl (y := .int (fs.getD g 0 : Nat)) (us := encG o') (M := memX B' (encG o') fd X') (j := j) rfl (encG_pl _ 63) (by rw [encG_ix]; exact h)
      unfold oIndex at this ⊢
      simp only [lstOf, mx_f] at this ⊢
      exact this
    have hoa : ∀ X', oAppend (.ref B'.length) [.int (fs.getD g 0 : Nat)] (memX B' (encG o) fd X') = .ok .non (memX B' (encG (o ++ [fs.getD g 0])) fd X') := fun X' => by
      rw [app_at (mx_f B' (encG o) fd X') _ (by rw [encG_len]; unfold lim; omega), sx_f, encG_snoc]
    have hoty : ∀ o' X', tyOk "list" (memX B' (encG o') fd X') (.ref B'.length) = true := fun o' X' => ty_at (mx_f B' (encG o') fd X')
    have h1 : ∀ M, oIx (encE e) (.int 1) M = .ok (.tup outs) M := fun M => by rw [hee]; rfl
    simp only [fnRes, startS, fSeq, fNext, fIfS, fSet, fAsg, gNm, gNms, fPar, fPar3, fRet, fRetN, fDrop, fBreak, fFor, fWhile, fVar, fC, fB, fOp, fAnd, fOr, fNot, fAndV, fOrV, fNotV, fIf, fTup, fLst, fNew, aNil, aCons, aStar, fIx, fSl, oNone, oSome, fCB, fCall, fMt, fPut, fNeg, fChain, fLcG, fLc2G, fRevL, iSeq, iR1, iR2, iEnumF, o1, gYes, endL, Res.bind_ok, Res.st_ok, Res.noex_ok, SRes.seq_nx, SRes.seq_rt, SRes.seq_bk, SRes.turn_nx, SRes.turn_rt, SRes.turn_bk, SRes.res, List.map_cons, List.map_nil, List.length_cons, List.length_nil, List.cons_append, List.nil_append, List.append_nil, List.replicate, List.getElem?_cons_zero, List.getElem?_cons_succ, List.set_cons_zero, List.set_cons_succ, List.zip_cons_cons, List.foldl_cons, List.foldl_nil, List.zip_nil_left, Nat.reduceAdd, Nat.reduceSub, Nat.reduceMul, Nat.reduceLeDiff, Nat.reduceLT, Nat.reduceEqDiff, if_true, if_false, reduceIte, Bool.false_eq_true, wipeS, lim0, lim1, lim2, lim3, Option.isSome_some, e_nx he hs, hixg, hni]
    by_cases hm : fs.getD g 0 ∈ o
    · rw [if_pos hm, decide_eq_true hm]
      obtain ⟨j, hj⟩ := Mt.ixOf_mem hm
      simp only [fnRes, startS, fSeq, fNext, fIfS, fSet, fAsg, gNm, gNms, fPar, fPar3, fRet, fRetN, fDrop, fBreak, fFor, fWhile, fVar, fC, fB, fOp, fAnd, fOr, fNot, fAndV, fOrV, fNotV, fIf, fTup, fLst, fNew, aNil, aCons, aStar, fIx, fSl, oNone, oSome, fCB, fCall, fMt, fPut, fNeg, fChain, fLcG, fLc2G, fRevL, iSeq, iR1, iR2, iEnumF, o1, gYes, endL, Res.bind_ok, Res.st_ok, Res.noex_ok, SRes.seq_nx, SRes.seq_rt, SRes.seq_bk, SRes.turn_nx, SRes.turn_rt, SRes.turn_bk, SRes.res, List.map_cons, List.map_nil, List.length_cons, List.length_nil, List.cons_append, List.nil_append, List.append_nil, List.replicate, List.getElem?_cons_zero, List.getElem?_cons_succ, List.set_cons_zero, List.set_cons_succ, List.zip_cons_cons, List.foldl_cons, List.foldl_nil, List.zip_nil_left, Nat.reduceAdd, Nat.reduceSub, Nat.reduceMul, Nat.reduceLeDiff, Nat.reduceLT, Nat.reduceEqDiff, if_true, if_false, reduceIte, Bool.false_eq_true, wipeS, lim0, lim1, lim2, lim3, Bool.not_true, hty, h1, hoty, e_nx he hs, hixg, hidx o j _ hj]
      simp only [fnRes, startS, fSeq, fNext, fIfS, fSet, fAsg, gNm, gNms, fPar, fPar3, fRet, fRetN, fDrop, fBreak, fFor, fWhile, fVar, fC, fB, fOp, fAnd, fOr, fNot, fAndV, fOrV, fNotV, fIf, fTup, fLst, fNew, aNil, aCons, aStar, fIx, fSl, oNone, oSome, fCB, fCall, fMt, fPut, fNeg, fChain, fLcG, fLc2G, fRevL, iSeq, iR1, iR2, iEnumF, o1, gYes, endL, Res.bind_ok, Res.st_ok, Res.noex_ok, SRes.seq_nx, SRes.seq_rt, SRes.seq_bk, SRes.turn_nx, SRes.turn_rt, SRes.turn_bk, SRes.res, List.map_cons, List.map_nil, List.length_cons, List.length_nil, List.cons_append, List.nil_append, List.append_nil, List.replicate, List.getElem?_cons_zero, List.getElem?_cons_succ, List.set_cons_zero, List.set_cons_succ, List.zip_cons_cons, List.foldl_cons, List.foldl_nil, List.zip_nil_left, Nat.reduceAdd, Nat.reduceSub, Nat.reduceMul, Nat.reduceLeDiff, Nat.reduceLT, Nat.reduceEqDiff, if_true, if_false, reduceIte, Bool.false_eq_true, wipeS, lim0, lim1, lim2, lim3, hap]
      rw [List.map_append, hj, hee]
      rfl
    · rw [if_neg hm, decide_eq_false hm]
      obtain ⟨j, hj⟩ := Mt.ixOf_mem (l := o ++ [fs.getD g 0]) (s := fs.getD g 0) (by simp)
      simp only [fnRes, startS, fSeq, fNext, fIfS, fSet, fAsg, gNm, gNms, fPar, fPar3, fRet, fRetN, fDrop, fBreak, fFor, fWhile, fVar, fC, fB, fOp, fAnd, fOr, fNot, fAndV, fOrV, fNotV, fIf, fTup, fLst, fNew, aNil, aCons, aStar, fIx, fSl, oNone, oSome, fCB, fCall, fMt, fPut, fNeg, fChain, fLcG, fLc2G, fRevL, iSeq, iR1, iR2, iEnumF, o1, gYes, endL, Res.bind_ok, Res.st_ok, Res.noex_ok, SRes.seq_nx, SRes.seq_rt, SRes.seq_bk, SRes.turn_nx, SRes.turn_rt, SRes.turn_bk, SRes.res, List.map_cons, List.map_nil, List.length_cons, List.length_nil, List.cons_append, List.nil_append, List.append_nil, List.replicate, List.getElem?_cons_zero, List.getElem?_cons_succ, List.set_cons_zero, List.set_cons_succ, List.zip_cons_cons, List.foldl_cons, List.foldl_nil, List.zip_nil_left, Nat.reduceAdd, Nat.reduceSub, Nat.reduceMul, Nat.reduceLeDiff, Nat.reduceLT, Nat.reduceEqDiff, if_true, if_false, reduceIte, Bool.false_eq_true, wipeS, lim0, lim1, lim2, lim3, Bool.not_false, hoty, e_nx he hs, hixg, hoa, hty, h1, hidx (o ++ [fs.getD g 0]) j _ hj]
      simp only [fnRes, startS, fSeq, fNext, fIfS, fSet, fAsg, gNm, gNms, fPar, fPar3, fRet, fRetN, fDrop, fBreak, fFor, fWhile, fVar, fC, fB, fOp, fAnd, fOr, fNot, fAndV, fOrV, fNotV, fIf, fTup, fLst, fNew, aNil, aCons, aStar, fIx, fSl, oNone, oSome, fCB, fCall, fMt, fPut, fNeg, fChain, fLcG, fLc2G, fRevL, iSeq, iR1, iR2, iEnumF, o1, gYes, endL, Res.bind_ok, Res.st_ok, Res.noex_ok, SRes.seq_nx, SRes.seq_rt, SRes.seq_bk, SRes.turn_nx, SRes.turn_rt, SRes.turn_bk, SRes.res, List.map_cons, List.map_nil, List.length_cons, List.length_nil, List.cons_append, List.nil_append, List.append_nil, List.replicate, List.getElem?_cons_zero, List.getElem?_cons_succ, List.set_cons_zero, List.set_cons_succ, List.zip_cons_cons, List.foldl_cons, List.foldl_nil, List.zip_nil_left, Nat.reduceAdd, Nat.reduceSub, Nat.reduceMul, Nat.reduceLeDiff, Nat.reduceLT, Nat.reduceEqDiff, if_true, if_false, reduceIte, Bool.false_eq_true, wipeS, lim0, lim1, lim2, lim3, hap]
      rw [List.map_append, hj, hee]
      rfl
end
end Fl
set_option Elab.async false
set_option linter.all false
set_option maxRecDepth 100000
set_option maxHeartbeats 4000000
/-! P15: the law's least tables, the whole. -/
namespace Fl
open PySem PySem.Spec PyProof.Rows L2
section
variable {n k w : Nat} {t : Mt.Tb T} (mp : GT)
def BF (B : Mem) (fs : List Nat) : Mem := B ++ [Cell.lst (encG fs)]
theorem map_id' (o : List Nat) : o.map (fun i => i) = o := by simp
theorem for_sc2 (B : Mem) (fd : List T) (fs : List Nat) (X : Mem) (hgl : fs.length = n) (hfs : ∀ i ∈ fs, i < n) (x : Src) (hx : x.cell = none) (a kk y : Option T) : ∀ (es : List (Mt.Ent T)) (o : List Nat) (l : List (Mt.Ent T)) (v z : Option T), (∀ e ∈ es, EntOk n w e) → o.length + es.length < 800 → l.length + es.length < 800 →
    ∃ v', forL x (gNm 7) (b2__law_least_of mp) (es.map encE) [a, some (.ref B.length), kk, y, some (.ref (BF B fs).length), some (.ref ((BF B fs).length + 1)), some (.ref ((BF B fs).length + 2 + X.length)), v, z] (memX (BF B fs) (encG o) fd (X ++ [.lst (l.map encE)])) =
      .nx [a, some (.ref B.length), kk, y, some (.ref (BF B fs).length), some (.ref ((BF B fs).length + 1)), some (.ref ((BF B fs).length + 2 + X.length)), v', z] (memX (BF B fs) (encG (Mt.sc id (fun i => fs.getD i 0) es o l).1) fd (X ++ [.lst ((Mt.sc id (fun i => fs.getD i 0) es o l).2.map encE)]))
  | [], o, l, v, z, he, hol, hll => by
    rw [List.map_nil, forL_nil hx]
    exact ⟨v, rfl⟩
  | e :: es, o, l, v, z, he, hol, hll => by
    simp only [List.length_cons] at hol hll
    have hee := he e List.mem_cons_self
    have e1 := b2_lo mp B fs o fd X l hee hgl (by omega) (by omega) a kk y z
    have ih := fun o l v z => for_sc2 B fd fs X hgl hfs x hx a kk y es o l v z fun e' h => he e' (List.mem_cons_of_mem _ h)
    rw [List.map_cons]
    unfold forL
    rw [if_pos (by simp [srcOk, hx])]
    simp only [fnRes, startS, fSeq, fNext, fIfS, fSet, fAsg, gNm, gNms, fPar, fPar3, fRet, fRetN, fDrop, fBreak, fFor, fWhile, fVar, fC, fB, fOp, fAnd, fOr, fNot, fAndV, fOrV, fNotV, fIf, fTup, fLst, fNew, aNil, aCons, aStar, fIx, fSl, oNone, oSome, fCB, fCall, fMt, fPut, fNeg, fChain, fLcG, fLc2G, fRevL, iSeq, iR1, iR2, iEnumF, o1, gYes, endL, Res.bind_ok, Res.st_ok, Res.noex_ok, SRes.seq_nx, SRes.seq_rt, SRes.seq_bk, SRes.turn_nx, SRes.turn_rt, SRes.turn_bk, SRes.res, List.map_cons, List.map_nil, List.length_cons, List.length_nil, List.cons_append, List.nil_append, List.append_nil, List.replicate, List.getElem?_cons_zero, List.getElem?_cons_succ, List.set_cons_zero, List.set_cons_succ, List.zip_cons_cons, List.foldl_cons, List.foldl_nil, List.zip_nil_left, Nat.reduceAdd, Nat.reduceSub, Nat.reduceMul, Nat.reduceLeDiff, Nat.reduceLT, Nat.reduceEqDiff, if_true, if_false, reduceIte, Bool.false_eq_true, wipeS, lim0, lim1, lim2, lim3]
    unfold BF
    rw [e1]
    obtain ⟨lb, op⟩ := e
    cases op with
    | none =>
      simp only [fnRes, startS, fSeq, fNext, fIfS, fSet, fAsg, gNm, gNms, fPar, fPar3, fRet, fRetN, fDrop, fBreak, fFor, fWhile, fVar, fC, fB, fOp, fAnd, fOr, fNot, fAndV, fOrV, fNotV, fIf, fTup, fLst, fNew, aNil, aCons, aStar, fIx, fSl, oNone, oSome, fCB, fCall, fMt, fPut, fNeg, fChain, fLcG, fLc2G, fRevL, iSeq, iR1, iR2, iEnumF, o1, gYes, endL, Res.bind_ok, Res.st_ok, Res.noex_ok, SRes.seq_nx, SRes.seq_rt, SRes.seq_bk, SRes.turn_nx, SRes.turn_rt, SRes.turn_bk, SRes.res, List.map_cons, List.map_nil, List.length_cons, List.length_nil, List.cons_append, List.nil_append, List.append_nil, List.replicate, List.getElem?_cons_zero, List.getElem?_cons_succ, List.set_cons_zero, List.set_cons_succ, List.zip_cons_cons, List.foldl_cons, List.foldl_nil, List.zip_nil_left, Nat.reduceAdd, Nat.reduceSub, Nat.reduceMul, Nat.reduceLeDiff, Nat.reduceLT, Nat.reduceEqDiff, if_true, if_false, reduceIte, Bool.false_eq_true, wipeS, lim0, lim1, lim2, lim3]
      exact ih o (l ++ [(lb, none)]) _ _ (by omega) (by simp; omega)
    | some g =>
      simp only [fnRes, startS, fSeq, fNext, fIfS, fSet, fAsg, gNm, gNms, fPar, fPar3, fRet, fRetN, fDrop, fBreak, fFor, fWhile, fVar, fC, fB, fOp, fAnd, fOr, fNot, fAndV, fOrV, fNotV, fIf, fTup, fLst, fNew, aNil, aCons, aStar, fIx, fSl, oNone, oSome, fCB, fCall, fMt, fPut, fNeg, fChain, fLcG, fLc2G, fRevL, iSeq, iR1, iR2, iEnumF, o1, gYes, endL, Res.bind_ok, Res.st_ok, Res.noex_ok, SRes.seq_nx, SRes.seq_rt, SRes.seq_bk, SRes.turn_nx, SRes.turn_rt, SRes.turn_bk, SRes.res, List.map_cons, List.map_nil, List.length_cons, List.length_nil, List.cons_append, List.nil_append, List.append_nil, List.replicate, List.getElem?_cons_zero, List.getElem?_cons_succ, List.set_cons_zero, List.set_cons_succ, List.zip_cons_cons, List.foldl_cons, List.foldl_nil, List.zip_nil_left, Nat.reduceAdd, Nat.reduceSub, Nat.reduceMul, Nat.reduceLeDiff, Nat.reduceLT, Nat.reduceEqDiff, if_true, if_false, reduceIte, Bool.false_eq_true, wipeS, lim0, lim1, lim2, lim3]
      rw [show Mt.sc id (fun i => fs.getD i 0) ((lb, some g) :: es) o l = (if fs.getD g 0 ∈ o.map id then Mt.sc id (fun i => fs.getD i 0) es o (l ++ [(lb, Mt.ixOf (fs.getD g 0) (o.map id))]) else Mt.sc id (fun i => fs.getD i 0) es (o ++ [fs.getD g 0]) (l ++ [(lb, Mt.ixOf (fs.getD g 0) ((o ++ [fs.getD g 0]).map id))])) from rfl]
      rw [List.map_id, List.map_id]
      by_cases hm : fs.getD g 0 ∈ o
      · rw [if_pos hm, if_pos hm]
        exact ih _ _ _ _ (by omega) (by simp; omega)
      · rw [if_neg hm, if_neg hm]
        exact ih _ _ _ _ (by simp; omega) (by simp; omega)
theorem for_lst2 (B : Mem) (ht : TabOk n k w t) (fs : List Nat) (hgl : fs.length = n) (hfs : ∀ i ∈ fs, i < n) (x : Src) (hx : x.cell = none) (kk : Option T) : ∀ (f q : Nat) (o : List Nat) (found : Mt.Tb T) (X : Mem) (y v z s : Option T), q ≤ o.length → (∀ x ∈ o, x < n) → found.length + f < 700 → o.length + f * k < 700 →
    ∃ s' o' X', forL x (gNm 3) (b3__law_least_of mp) (rangeT (q : Nat) f) [some (encT t), some (.ref B.length), kk, y, some (.ref (BF B fs).length), some (.ref ((BF B fs).length + 1)), s, v, z] (memX (BF B fs) (encG o) (found.map encL) X) =
      .nx ([some (encT t)] ++ s') (memX (BF B fs) o' ((Mt.lst t id (fun i => fs.getD i 0) f q o found).map encL) X') ∧ s'[4]? = some (some (.ref ((BF B fs).length + 1)))
  | 0, q, o, found, X, y, v, z, s, hq, ho, h2, h3 => by
    rw [show rangeT (q : Nat) 0 = [] from rfl, forL_nil hx]
    exact ⟨_, _, _, rfl, rfl⟩
  | f + 1, q, o, found, X, y, v, z, s, hq, ho, h2, h3 => by
    have hkk := ht.kle
    have hmul : (f + 1) * k = f * k + k := by rw [Nat.add_mul, Nat.one_mul]
    rw [rangeT_cons, show ((q : Nat) : Int) + 1 = ((q + 1 : Nat) : Int) by omega]
    unfold forL
    rw [if_pos (by simp [srcOk, hx])]
    have hol : oLen [.ref (BF B fs).length] (memX (BF B fs) (encG o) (found.map encL) X) = .ok (.int (o.length : Nat)) (memX (BF B fs) (encG o) (found.map encL) X) := by
      have := len_at (mx_f (BF B fs) (encG o) (found.map encL) X)
      rw [encG_len] at this
      exact this
    unfold Mt.lst
    by_cases hqe : q = o.length
    · rw [if_pos hqe]
      unfold b3__law_least_of
      simp only [fnRes, startS, fSeq, fNext, fIfS, fSet, fAsg, gNm, gNms, fPar, fPar3, fRet, fRetN, fDrop, fBreak, fFor, fWhile, fVar, fC, fB, fOp, fAnd, fOr, fNot, fAndV, fOrV, fNotV, fIf, fTup, fLst, fNew, aNil, aCons, aStar, fIx, fSl, oNone, oSome, fCB, fCall, fMt, fPut, fNeg, fChain, fLcG, fLc2G, fRevL, iSeq, iR1, iR2, iEnumF, o1, gYes, endL, Res.bind_ok, Res.st_ok, Res.noex_ok, SRes.seq_nx, SRes.seq_rt, SRes.seq_bk, SRes.turn_nx, SRes.turn_rt, SRes.turn_bk, SRes.res, List.map_cons, List.map_nil, List.length_cons, List.length_nil, List.cons_append, List.nil_append, List.append_nil, List.replicate, List.getElem?_cons_zero, List.getElem?_cons_succ, List.set_cons_zero, List.set_cons_succ, List.zip_cons_cons, List.foldl_cons, List.foldl_nil, List.zip_nil_left, Nat.reduceAdd, Nat.reduceSub, Nat.reduceMul, Nat.reduceLeDiff, Nat.reduceLT, Nat.reduceEqDiff, if_true, if_false, reduceIte, Bool.false_eq_true, wipeS, lim0, lim1, lim2, lim3, hol, i_eqN, decide_eq_true hqe]
      exact ⟨_, _, _, rfl, rfl⟩
    · rw [if_neg hqe]
      have hlt : q < o.length := by omega
      have hget : o.getD q 0 = o[q] := by rw [List.getD_eq_getElem?_getD, List.getElem?_eq_getElem hlt]; rfl
      rw [hget]
      have hoq := ho o[q] (List.getElem_mem hlt)
      have hot : o[q] < t.length := by rw [ht.len]; exact hoq
      have hlr : (Mt.row t o[q]).length = k := ht.row _ (Mt.row_mem hot)
      have hix : oIx (.ref (BF B fs).length) (.int (q : Nat)) (memX (BF B fs) (encG o) (found.map encL) (X ++ [.lst []])) = .ok (.int (o[q] : Nat)) (memX (BF B fs) (encG o) (found.map encL) (X ++ [.lst []])) := ix_at (mx_f _ _ _ _) (by unfold encG; rw [List.getElem?_map, List.getElem?_eq_getElem hlt]; rfl)
      obtain ⟨v', e1⟩ := for_sc2 (w := w) mp B (found.map encL) fs X hgl hfs ⟨(Mt.row t o[q]).map encE, none, []⟩ rfl (some (encT t)) kk (some (.int (q : Nat))) (Mt.row t o[q]) o [] v z (fun e h => ht.ent _ (Mt.row_mem hot) e h) (by omega) (by simp; omega)
      have hsl := sc_len id (fun i => fs.getD i 0) (Mt.row t o[q]) o []
      have hslt := sc_lt (w := w) id (fun i => fs.getD i 0) (fun g h => by
        rw [List.getD_eq_getElem?_getD, List.getElem?_eq_getElem (by omega)]
        exact hfs _ (List.getElem_mem _)) (Mt.row t o[q]) o [] (fun e h => ht.ent _ (Mt.row_mem hot) e h) ho
      unfold b3__law_least_of
      simp only [fnRes, startS, fSeq, fNext, fIfS, fSet, fAsg, gNm, gNms, fPar, fPar3, fRet, fRetN, fDrop, fBreak, fFor, fWhile, fVar, fC, fB, fOp, fAnd, fOr, fNot, fAndV, fOrV, fNotV, fIf, fTup, fLst, fNew, aNil, aCons, aStar, fIx, fSl, oNone, oSome, fCB, fCall, fMt, fPut, fNeg, fChain, fLcG, fLc2G, fRevL, iSeq, iR1, iR2, iEnumF, o1, gYes, endL, Res.bind_ok, Res.st_ok, Res.noex_ok, SRes.seq_nx, SRes.seq_rt, SRes.seq_bk, SRes.turn_nx, SRes.turn_rt, SRes.turn_bk, SRes.res, List.map_cons, List.map_nil, List.length_cons, List.length_nil, List.cons_append, List.nil_append, List.append_nil, List.replicate, List.getElem?_cons_zero, List.getElem?_cons_succ, List.set_cons_zero, List.set_cons_succ, List.zip_cons_cons, List.foldl_cons, List.foldl_nil, List.zip_nil_left, Nat.reduceAdd, Nat.reduceSub, Nat.reduceMul, Nat.reduceLeDiff, Nat.reduceLT, Nat.reduceEqDiff, if_true, if_false, reduceIte, Bool.false_eq_true, wipeS, lim0, lim1, lim2, lim3, hol, i_eqN, decide_eq_false hqe, mx_len]
      rw [show memX (BF B fs) (encG o) (found.map encL) X ++ [Cell.lst []] = memX (BF B fs) (encG o) (found.map encL) (X ++ [.lst ((([] : List (Mt.Ent T))).map encE)]) from (mx_eq (BF B fs) _ _ X _).symm]
      rw [show (([] : List (Mt.Ent T))).map encE = [] from rfl] at e1 ⊢
      simp only [fnRes, startS, fSeq, fNext, fIfS, fSet, fAsg, gNm, gNms, fPar, fPar3, fRet, fRetN, fDrop, fBreak, fFor, fWhile, fVar, fC, fB, fOp, fAnd, fOr, fNot, fAndV, fOrV, fNotV, fIf, fTup, fLst, fNew, aNil, aCons, aStar, fIx, fSl, oNone, oSome, fCB, fCall, fMt, fPut, fNeg, fChain, fLcG, fLc2G, fRevL, iSeq, iR1, iR2, iEnumF, o1, gYes, endL, Res.bind_ok, Res.st_ok, Res.noex_ok, SRes.seq_nx, SRes.seq_rt, SRes.seq_bk, SRes.turn_nx, SRes.turn_rt, SRes.turn_bk, SRes.res, List.map_cons, List.map_nil, List.length_cons, List.length_nil, List.cons_append, List.nil_append, List.append_nil, List.replicate, List.getElem?_cons_zero, List.getElem?_cons_succ, List.set_cons_zero, List.set_cons_succ, List.zip_cons_cons, List.foldl_cons, List.foldl_nil, List.zip_nil_left, Nat.reduceAdd, Nat.reduceSub, Nat.reduceMul, Nat.reduceLeDiff, Nat.reduceLT, Nat.reduceEqDiff, if_true, if_false, reduceIte, Bool.false_eq_true, wipeS, lim0, lim1, lim2, lim3, hix, ix_row ht hoq]
      rw [show srcOf (memX (BF B fs) (encG o) (found.map encL) (X ++ [.lst []])) (encL (Mt.row t o[q])) = some ⟨(Mt.row t o[q]).map encE, none, []⟩ from rfl]
      simp only [fnRes, startS, fSeq, fNext, fIfS, fSet, fAsg, gNm, gNms, fPar, fPar3, fRet, fRetN, fDrop, fBreak, fFor, fWhile, fVar, fC, fB, fOp, fAnd, fOr, fNot, fAndV, fOrV, fNotV, fIf, fTup, fLst, fNew, aNil, aCons, aStar, fIx, fSl, oNone, oSome, fCB, fCall, fMt, fPut, fNeg, fChain, fLcG, fLc2G, fRevL, iSeq, iR1, iR2, iEnumF, o1, gYes, endL, Res.bind_ok, Res.st_ok, Res.noex_ok, SRes.seq_nx, SRes.seq_rt, SRes.seq_bk, SRes.turn_nx, SRes.turn_rt, SRes.turn_bk, SRes.res, List.map_cons, List.map_nil, List.length_cons, List.length_nil, List.cons_append, List.nil_append, List.append_nil, List.replicate, List.getElem?_cons_zero, List.getElem?_cons_succ, List.set_cons_zero, List.set_cons_succ, List.zip_cons_cons, List.foldl_cons, List.foldl_nil, List.zip_nil_left, Nat.reduceAdd, Nat.reduceSub, Nat.reduceMul, Nat.reduceLeDiff, Nat.reduceLT, Nat.reduceEqDiff, if_true, if_false, reduceIte, Bool.false_eq_true, wipeS, lim0, lim1, lim2, lim3]
      rw [e1]
      simp only [fnRes, startS, fSeq, fNext, fIfS, fSet, fAsg, gNm, gNms, fPar, fPar3, fRet, fRetN, fDrop, fBreak, fFor, fWhile, fVar, fC, fB, fOp, fAnd, fOr, fNot, fAndV, fOrV, fNotV, fIf, fTup, fLst, fNew, aNil, aCons, aStar, fIx, fSl, oNone, oSome, fCB, fCall, fMt, fPut, fNeg, fChain, fLcG, fLc2G, fRevL, iSeq, iR1, iR2, iEnumF, o1, gYes, endL, Res.bind_ok, Res.st_ok, Res.noex_ok, SRes.seq_nx, SRes.seq_rt, SRes.seq_bk, SRes.turn_nx, SRes.turn_rt, SRes.turn_bk, SRes.res, List.map_cons, List.map_nil, List.length_cons, List.length_nil, List.cons_append, List.nil_append, List.append_nil, List.replicate, List.getElem?_cons_zero, List.getElem?_cons_succ, List.set_cons_zero, List.set_cons_succ, List.zip_cons_cons, List.foldl_cons, List.foldl_nil, List.zip_nil_left, Nat.reduceAdd, Nat.reduceSub, Nat.reduceMul, Nat.reduceLeDiff, Nat.reduceLT, Nat.reduceEqDiff, if_true, if_false, reduceIte, Bool.false_eq_true, wipeS, lim0, lim1, lim2, lim3, ty_at (mx_o (BF B fs) (encG (Mt.sc id (fun i => fs.getD i 0) (Mt.row t o[q]) o []).1) (found.map encL) (X ++ [.lst ((Mt.sc id (fun i => fs.getD i 0) (Mt.row t o[q]) o []).2.map encE)])), tup_at (mx_l (BF B fs) (encG (Mt.sc id (fun i => fs.getD i 0) (Mt.row t o[q]) o []).1) (found.map encL) X ((Mt.sc id (fun i => fs.getD i 0) (Mt.row t o[q]) o []).2.map encE))]
      have happ : ∀ (o' : List T) (X' : Mem) (v : T), oAppend (.ref ((BF B fs).length + 1)) [v] (memX (BF B fs) o' (found.map encL) X') = .ok .non (memX (BF B fs) o' (found.map encL ++ [v]) X') := fun o' X' v => by
        rw [app_at (mx_o (BF B fs) o' (found.map encL) X') _ (by rw [List.length_map]; unfold lim; omega), sx_o]
      simp only [fnRes, startS, fSeq, fNext, fIfS, fSet, fAsg, gNm, gNms, fPar, fPar3, fRet, fRetN, fDrop, fBreak, fFor, fWhile, fVar, fC, fB, fOp, fAnd, fOr, fNot, fAndV, fOrV, fNotV, fIf, fTup, fLst, fNew, aNil, aCons, aStar, fIx, fSl, oNone, oSome, fCB, fCall, fMt, fPut, fNeg, fChain, fLcG, fLc2G, fRevL, iSeq, iR1, iR2, iEnumF, o1, gYes, endL, Res.bind_ok, Res.st_ok, Res.noex_ok, SRes.seq_nx, SRes.seq_rt, SRes.seq_bk, SRes.turn_nx, SRes.turn_rt, SRes.turn_bk, SRes.res, List.map_cons, List.map_nil, List.length_cons, List.length_nil, List.cons_append, List.nil_append, List.append_nil, List.replicate, List.getElem?_cons_zero, List.getElem?_cons_succ, List.set_cons_zero, List.set_cons_succ, List.zip_cons_cons, List.foldl_cons, List.foldl_nil, List.zip_nil_left, Nat.reduceAdd, Nat.reduceSub, Nat.reduceMul, Nat.reduceLeDiff, Nat.reduceLT, Nat.reduceEqDiff, if_true, if_false, reduceIte, Bool.false_eq_true, wipeS, lim0, lim1, lim2, lim3, happ]
      have := for_lst2 B ht fs hgl hfs x hx kk f (q + 1) (Mt.sc id (fun i => fs.getD i 0) (Mt.row t o[q]) o []).1 (found ++ [(Mt.sc id (fun i => fs.getD i 0) (Mt.row t o[q]) o []).2]) (X ++ [.lst ((Mt.sc id (fun i => fs.getD i 0) (Mt.row t o[q]) o []).2.map encE)]) (some (.int (q : Nat))) v' z (some (.ref ((BF B fs).length + 2 + X.length))) (by omega) hslt (by simp; omega) (by omega)
      rw [List.map_append] at this
      exact this
theorem cls_fs (ht : TabOk n k w t) : Mt.Cls t id (fun i => ((List.range n).map (Mt.fst t)).getD i 0) := by
  have hc := Mt.cls_fst (wf_of ht)
  have e : ∀ i, i < t.length → ((List.range n).map (Mt.fst t)).getD i 0 = Mt.fst t i := fun i hi => by
    rw [ht.len] at hi
    rw [List.getD_eq_getElem?_getD, List.getElem?_map, List.getElem?_range hi]
    rfl
  refine ⟨fun g h => ?_, fun g h hg hh => ?_, ?_⟩
  · have := hc.bd g h
    show ((List.range n).map (Mt.fst t)).getD g 0 < t.length ∧ Mt.Bis t t g (((List.range n).map (Mt.fst t)).getD g 0)
    rw [e g h]
    exact this
  · have := hc.eq g h hg hh
    show ((List.range n).map (Mt.fst t)).getD g 0 = ((List.range n).map (Mt.fst t)).getD h 0 ↔ _
    rw [e g hg, e h hh]
    exact this
  · show ((List.range n).map (Mt.fst t)).getD 0 0 = 0
    rw [e 0 (by rw [ht.len]; exact ht.pos)]
    exact hc.z
theorem lo_ok (ht : TabOk n k w t) (B : Mem) (hB : MemClo B) (hmp : ∀ i j, i < n → j < n → ∀ us, T.pls 63 us = true → mp [encT t, .int (i : Nat), encT t, .int (j : Nat)] (B ++ [.lst us]) = .ok (wayT (Mt.parting t t i j)) (B ++ [.lst us])) :
    cln (g__law_least_of mp) [encT t] B = .ok (encT (Mt.lt t)) B := by
  have hn := ht.le
  have hk := ht.kle
  have hnk := Nat.mul_le_mul hn hk
  have hfl : ((List.range n).map (Mt.fst t)).length = n := by simp
  have hfs : ∀ i ∈ (List.range n).map (Mt.fst t), i < n := fun i hi => by
    obtain ⟨j, hj, rfl⟩ := List.mem_map.mp hi
    rw [List.mem_range] at hj
    have := (Mt.fst_spec (wf_of ht) (i := j) (by rw [ht.len]; exact hj)).1
    omega
  obtain ⟨y', e0⟩ := for_firsts mp ht B hmp ⟨rangeT 0 ((n : Int)).toNat, none, []⟩ rfl none none none none none none n 0 [] none (by omega) (by simp; omega)
  obtain ⟨s', o', X', e1, e2⟩ := for_lst2 mp B ht ((List.range n).map (Mt.fst t)) hfl hfs ⟨rangeT 0 ((n : Int)).toNat, none, []⟩ rfl y' n 0 [0] [] [] none none none none (by simp) (fun x hx => by simp at hx; subst hx; exact ht.pos) (by simp; omega) (by simp; omega)
  have hlt : Mt.lst t id (fun i => ((List.range n).map (Mt.fst t)).getD i 0) n 0 [0] [] = Mt.lt t := by
    have := Mt.least_lock (wf_of ht) (wf_of ht) (cls_fs ht) (Mt.cls_gi (wf_of ht)) (Mt.Bis.refl (wf_of ht) (by rw [ht.len]; exact ht.pos))
    rw [← show Mt.least t (Mt.gi t) id = Mt.lt t from rfl, ← this]
    unfold Mt.least
    rw [ht.len]
  rw [hlt] at e1
  have hpl := tab_pl (t := Mt.lt t) (legal_least ht (Mt.cls_gi (wf_of ht))).ent
  refine cln_ok (J := .lst (encG ((List.range n).map (Mt.fst t))) :: .lst o' :: .lst ((Mt.lt t).map encL) :: X') (v := encT (Mt.lt t)) ?_ rfl (.same (pl_clo _ 5 _ hpl)) hB
  unfold g__law_least_of F__law_least_of
  simp only [fnRes, startS, fSeq, fNext, fIfS, fSet, fAsg, gNm, gNms, fPar, fPar3, fRet, fRetN, fDrop, fBreak, fFor, fWhile, fVar, fC, fB, fOp, fAnd, fOr, fNot, fAndV, fOrV, fNotV, fIf, fTup, fLst, fNew, aNil, aCons, aStar, fIx, fSl, oNone, oSome, fCB, fCall, fMt, fPut, fNeg, fChain, fLcG, fLc2G, fRevL, iSeq, iR1, iR2, iEnumF, o1, gYes, endL, Res.bind_ok, Res.st_ok, Res.noex_ok, SRes.seq_nx, SRes.seq_rt, SRes.seq_bk, SRes.turn_nx, SRes.turn_rt, SRes.turn_bk, SRes.res, List.map_cons, List.map_nil, List.length_cons, List.length_nil, List.cons_append, List.nil_append, List.append_nil, List.replicate, List.getElem?_cons_zero, List.getElem?_cons_succ, List.set_cons_zero, List.set_cons_succ, List.zip_cons_cons, List.foldl_cons, List.foldl_nil, List.zip_nil_left, Nat.reduceAdd, Nat.reduceSub, Nat.reduceMul, Nat.reduceLeDiff, Nat.reduceLT, Nat.reduceEqDiff, if_true, if_false, reduceIte, Bool.false_eq_true, wipeS, lim0, lim1, lim2, lim3, encT_len ht]
  rw [rangeS (n := (n : Int)) (by omega) (by omega)]
  simp only [fnRes, startS, fSeq, fNext, fIfS, fSet, fAsg, gNm, gNms, fPar, fPar3, fRet, fRetN, fDrop, fBreak, fFor, fWhile, fVar, fC, fB, fOp, fAnd, fOr, fNot, fAndV, fOrV, fNotV, fIf, fTup, fLst, fNew, aNil, aCons, aStar, fIx, fSl, oNone, oSome, fCB, fCall, fMt, fPut, fNeg, fChain, fLcG, fLc2G, fRevL, iSeq, iR1, iR2, iEnumF, o1, gYes, endL, Res.bind_ok, Res.st_ok, Res.noex_ok, SRes.seq_nx, SRes.seq_rt, SRes.seq_bk, SRes.turn_nx, SRes.turn_rt, SRes.turn_bk, SRes.res, List.map_cons, List.map_nil, List.length_cons, List.length_nil, List.cons_append, List.nil_append, List.append_nil, List.replicate, List.getElem?_cons_zero, List.getElem?_cons_succ, List.set_cons_zero, List.set_cons_succ, List.zip_cons_cons, List.foldl_cons, List.foldl_nil, List.zip_nil_left, Nat.reduceAdd, Nat.reduceSub, Nat.reduceMul, Nat.reduceLeDiff, Nat.reduceLT, Nat.reduceEqDiff, if_true, if_false, reduceIte, Bool.false_eq_true, wipeS, lim0, lim1, lim2, lim3]
  rw [show rangeT 0 ((n : Int)).toNat = rangeT ((0 : Nat) : Int) n by rw [Int.toNat_natCast]; rfl] at e0 e1 ⊢
  rw [show encG [] = [] from rfl] at e0
  rw [e0]
  rw [List.nil_append, ← List.range_eq_range']
  simp only [fnRes, startS, fSeq, fNext, fIfS, fSet, fAsg, gNm, gNms, fPar, fPar3, fRet, fRetN, fDrop, fBreak, fFor, fWhile, fVar, fC, fB, fOp, fAnd, fOr, fNot, fAndV, fOrV, fNotV, fIf, fTup, fLst, fNew, aNil, aCons, aStar, fIx, fSl, oNone, oSome, fCB, fCall, fMt, fPut, fNeg, fChain, fLcG, fLc2G, fRevL, iSeq, iR1, iR2, iEnumF, o1, gYes, endL, Res.bind_ok, Res.st_ok, Res.noex_ok, SRes.seq_nx, SRes.seq_rt, SRes.seq_bk, SRes.turn_nx, SRes.turn_rt, SRes.turn_bk, SRes.res, List.map_cons, List.map_nil, List.length_cons, List.length_nil, List.cons_append, List.nil_append, List.append_nil, List.replicate, List.getElem?_cons_zero, List.getElem?_cons_succ, List.set_cons_zero, List.set_cons_succ, List.zip_cons_cons, List.foldl_cons, List.foldl_nil, List.zip_nil_left, Nat.reduceAdd, Nat.reduceSub, Nat.reduceMul, Nat.reduceLeDiff, Nat.reduceLT, Nat.reduceEqDiff, if_true, if_false, reduceIte, Bool.false_eq_true, wipeS, lim0, lim1, lim2, lim3, List.length_append]
  rw [show B ++ [Cell.lst (encG ((List.range n).map (Mt.fst t)))] ++ [Cell.lst [T.int 0]] ++ [Cell.lst []] = memX (BF B ((List.range n).map (Mt.fst t))) (encG [0]) (([] : Mt.Tb T).map encL) [] by simp [memX, encG, BF]]
  simp only [fnRes, startS, fSeq, fNext, fIfS, fSet, fAsg, gNm, gNms, fPar, fPar3, fRet, fRetN, fDrop, fBreak, fFor, fWhile, fVar, fC, fB, fOp, fAnd, fOr, fNot, fAndV, fOrV, fNotV, fIf, fTup, fLst, fNew, aNil, aCons, aStar, fIx, fSl, oNone, oSome, fCB, fCall, fMt, fPut, fNeg, fChain, fLcG, fLc2G, fRevL, iSeq, iR1, iR2, iEnumF, o1, gYes, endL, Res.bind_ok, Res.st_ok, Res.noex_ok, SRes.seq_nx, SRes.seq_rt, SRes.seq_bk, SRes.turn_nx, SRes.turn_rt, SRes.turn_bk, SRes.res, List.map_cons, List.map_nil, List.length_cons, List.length_nil, List.cons_append, List.nil_append, List.append_nil, List.replicate, List.getElem?_cons_zero, List.getElem?_cons_succ, List.set_cons_zero, List.set_cons_succ, List.zip_cons_cons, List.foldl_cons, List.foldl_nil, List.zip_nil_left, Nat.reduceAdd, Nat.reduceSub, Nat.reduceMul, Nat.reduceLeDiff, Nat.reduceLT, Nat.reduceEqDiff, if_true, if_false, reduceIte, Bool.false_eq_true, wipeS, lim0, lim1, lim2, lim3, encT_len ht]
  rw [rangeS (n := (n : Int)) (by omega) (by omega)]
  simp only [fnRes, startS, fSeq, fNext, fIfS, fSet, fAsg, gNm, gNms, fPar, fPar3, fRet, fRetN, fDrop, fBreak, fFor, fWhile, fVar, fC, fB, fOp, fAnd, fOr, fNot, fAndV, fOrV, fNotV, fIf, fTup, fLst, fNew, aNil, aCons, aStar, fIx, fSl, oNone, oSome, fCB, fCall, fMt, fPut, fNeg, fChain, fLcG, fLc2G, fRevL, iSeq, iR1, iR2, iEnumF, o1, gYes, endL, Res.bind_ok, Res.st_ok, Res.noex_ok, SRes.seq_nx, SRes.seq_rt, SRes.seq_bk, SRes.turn_nx, SRes.turn_rt, SRes.turn_bk, SRes.res, List.map_cons, List.map_nil, List.length_cons, List.length_nil, List.cons_append, List.nil_append, List.append_nil, List.replicate, List.getElem?_cons_zero, List.getElem?_cons_succ, List.set_cons_zero, List.set_cons_succ, List.zip_cons_cons, List.foldl_cons, List.foldl_nil, List.zip_nil_left, Nat.reduceAdd, Nat.reduceSub, Nat.reduceMul, Nat.reduceLeDiff, Nat.reduceLT, Nat.reduceEqDiff, if_true, if_false, reduceIte, Bool.false_eq_true, wipeS, lim0, lim1, lim2, lim3]
  rw [show rangeT 0 ((n : Int)).toNat = rangeT ((0 : Nat) : Int) n by rw [Int.toNat_natCast]; rfl]
  rw [show (([] : Mt.Tb T).map encL) = [] from rfl] at e1
  have hbl : (BF B ((List.range n).map (Mt.fst t))).length = B.length + 1 := by simp [BF]
  have htup : oTuple [.ref (B.length + 1 + 1)] (memX (BF B ((List.range n).map (Mt.fst t))) o' ((Mt.lt t).map encL) X') = .ok (encT (Mt.lt t)) (memX (BF B ((List.range n).map (Mt.fst t))) o' ((Mt.lt t).map encL) X') := by
    rw [← hbl]
    exact tup_at (mx_o _ _ _ _)
  rw [hbl] at e1 e2
  rw [e1]
  simp only [fnRes, startS, fSeq, fNext, fIfS, fSet, fAsg, gNm, gNms, fPar, fPar3, fRet, fRetN, fDrop, fBreak, fFor, fWhile, fVar, fC, fB, fOp, fAnd, fOr, fNot, fAndV, fOrV, fNotV, fIf, fTup, fLst, fNew, aNil, aCons, aStar, fIx, fSl, oNone, oSome, fCB, fCall, fMt, fPut, fNeg, fChain, fLcG, fLc2G, fRevL, iSeq, iR1, iR2, iEnumF, o1, gYes, endL, Res.bind_ok, Res.st_ok, Res.noex_ok, SRes.seq_nx, SRes.seq_rt, SRes.seq_bk, SRes.turn_nx, SRes.turn_rt, SRes.turn_bk, SRes.res, List.map_cons, List.map_nil, List.length_cons, List.length_nil, List.cons_append, List.nil_append, List.append_nil, List.replicate, List.getElem?_cons_zero, List.getElem?_cons_succ, List.set_cons_zero, List.set_cons_succ, List.zip_cons_cons, List.foldl_cons, List.foldl_nil, List.zip_nil_left, Nat.reduceAdd, Nat.reduceSub, Nat.reduceMul, Nat.reduceLeDiff, Nat.reduceLT, Nat.reduceEqDiff, if_true, if_false, reduceIte, Bool.false_eq_true, wipeS, lim0, lim1, lim2, lim3, e2, htup]
  simp [memX, BF]
end
end Fl
set_option Elab.async false
set_option linter.all false
set_option maxRecDepth 100000
set_option maxHeartbeats 4000000
/-! P16: is_table's parts, known_right. -/
namespace Fl
open PySem PySem.Spec PyProof.Rows L2
abbrev GTold : GT := g_is_told g_is_word g_is_number
abbrev GEnt : GT := g_is_entry g_is_number GTold
abbrev GTab : GT := g_is_table g_widths GEnt
theorem told0 (M : Mem) : GTold [.int 0] M = .ok (.bl true) M := by kernel_rfl
theorem told1 (M : Mem) : GTold [.int 1] M = .ok (.bl true) M := by kernel_rfl
theorem told2 (M : Mem) : GTold [.non] M = .ok (.bl true) M := by kernel_rfl
theorem told3 (M : Mem) : GTold [.str "yes"] M = .ok (.bl true) M := by kernel_rfl
theorem told4 (M : Mem) : GTold [.tup [.int 0, .str "no"]] M = .ok (.bl true) M := by kernel_rfl
end Fl
set_option Elab.async false
set_option linter.all false
set_option maxRecDepth 100000
set_option maxHeartbeats 4000000
/-! P17: known_right. -/
namespace Fl
open PySem PySem.Spec PyProof.Rows L2
theorem kr_ok (S : Sr) : g__law_known_right g__law_like (g_is_table g_widths (g_is_entry g_is_number (g_is_told g_is_word g_is_number))) [] (srcM S) = .ok (.bl true) (srcM S ++ [.lst [.bl true, .bl false, .bl false, .bl false, .bl false, .bl true, .bl false, .bl false, .bl true, .bl false, .bl false, .bl false, .bl false, .bl false, .bl false]]) := by kernel_rfl
end Fl
set_option Elab.async false
set_option linter.all false
set_option maxRecDepth 100000
set_option maxHeartbeats 4000000
/-! P18: is_table of a drawn table. -/
namespace Fl
open PySem PySem.Spec PyProof.Rows L2
theorem told_ok {v : T} (h : v ∈ vals) (M : Mem) : GTold [v] M = .ok (.bl true) M := by
  simp only [vals, List.mem_cons, List.not_mem_nil, or_false] at h
  rcases h with rfl | rfl | rfl | rfl | rfl
  · exact told0 M
  · exact told1 M
  · exact told2 M
  · exact told3 M
  · exact told4 M
theorem isi_tt (ts : List T) (M : Mem) : oIsi [.tup ts, .ty "tuple"] M = .ok (.bl true) M := by kernel_rfl
theorem bools_true {β : Type} : ∀ (o : List β), bools (o.map fun _ => T.bl true) = some (o.map fun _ => true)
  | [] => rfl
  | a :: o => by
    show (bools (o.map fun _ => T.bl true)).map (true :: ·) = _
    rw [bools_true o]
    rfl
theorem all_true {β : Type} (o : List β) (M : Mem) : oAll [.lst (o.map fun _ => T.bl true)] M = .ok (.bl true) M := by
  unfold oAll o1
  simp only [lstOf, bools_true]
  congr 2
  simp
theorem ent_clash (n w : T) (M : Mem) : GEnt [.tup [.str "clash"], n, w] M = .ok (.bl true) M := by kernel_rfl
theorem ent_stuck (n w : T) (M : Mem) : GEnt [.tup [.str "stuck"], n, w] M = .ok (.bl true) M := by kernel_rfl
theorem num_ok (i : Int) (M : Mem) : g_is_number [.int i] M = .ok (.bl true) M := by kernel_rfl
theorem ent_good {n w g : Nat} {o : List T} (h1 : o.length = w) (hw : w ≤ 2) (h2 : ∀ v ∈ o, v ∈ vals) (h3 : g < n) (M : Mem) : GEnt [.tup [.str "good", .tup o, .int (g : Nat)], .int (n : Nat), .int (w : Nat)] M = .ok (.bl true) M := by
  have hpl : T.pl 64 (.tup [.str "good", .tup o, .int (g : Nat)]) = true := pl_mono _ 3 64 (by decide) (ent_pl (n := n) (w := w) (e := (.tup [.str "good", .tup o], some g)) (.good h1 h2 h3))
  generalize hv : T.tup [.str "good", .tup o, .int (g : Nat)] = v at hpl ⊢
  have a1 : oIsi [v, .ty "tuple"] M = .ok (.bl true) M := by rw [← hv]; exact isi_tt _ _
  have a2 : oEq v (.tup []) M = .ok (.bl false) M := by
    rw [eq_pl hpl rfl, ← hv]
    congr 2
  have a3 : oIx v (.int 0) M = .ok (.str "good") M := by rw [← hv]; rfl
  have a4 : oIsi [.str "good", .ty "str"] M = .ok (.bl true) M := by kernel_rfl
  have a5 : oLen [v] M = .ok (.int 3) M := by rw [← hv]; rfl
  have a6 : oEq (.int 3) (.int 1) M = .ok (.bl false) M := by kernel_rfl
  have a7 : oNe (.int 3) (.int 3) M = .ok (.bl false) M := by kernel_rfl
  have a8 : oNe (.str "good") (.str "good") M = .ok (.bl false) M := by kernel_rfl
  have a9 : oIx v (.int 1) M = .ok (.tup o) M := by rw [← hv]; rfl
  have b1 : oLen [.tup o] M = .ok (.int (w : Nat)) M := by rw [← h1]; rfl
  have b2 : oNe (.int (w : Nat)) (.int (w : Nat)) M = .ok (.bl false) M := by
    rw [ne_pl rfl rfl, decide_eq_true rfl]
    rfl
  have b3 : oIx v (.int 2) M = .ok (.int (g : Nat)) M := by rw [← hv]; rfl
  have b4 : srcOf M (.tup o) = some ⟨o, none, []⟩ := rfl
  have b5 := lc_map (x := ⟨o, none, []⟩) (G := gNm 3) (te := e1_is_entry g_is_number GTold) (s := [some v, some (.int (n : Nat)), some (.int (w : Nat)), none]) (M := M) (fun _ => .bl true) rfl o (fun y hy => ⟨_, rfl, by
    unfold e1_is_entry
    simp only [fnRes, startS, fSeq, fNext, fIfS, fSet, fAsg, gNm, gNms, fPar, fPar3, fRet, fRetN, fDrop, fBreak, fFor, fWhile, fVar, fC, fB, fOp, fAnd, fOr, fNot, fAndV, fOrV, fNotV, fIf, fTup, fLst, fNew, aNil, aCons, aStar, fIx, fSl, oNone, oSome, fCB, fCall, fMt, fPut, fNeg, fChain, fLcG, fLc2G, fRevL, iSeq, iR1, iR2, iEnumF, o1, gYes, endL, Res.bind_ok, Res.st_ok, Res.noex_ok, SRes.seq_nx, SRes.seq_rt, SRes.seq_bk, SRes.turn_nx, SRes.turn_rt, SRes.turn_bk, SRes.res, List.map_cons, List.map_nil, List.length_cons, List.length_nil, List.cons_append, List.nil_append, List.append_nil, List.replicate, List.getElem?_cons_zero, List.getElem?_cons_succ, List.set_cons_zero, List.set_cons_succ, List.zip_cons_cons, List.foldl_cons, List.foldl_nil, List.zip_nil_left, Nat.reduceAdd, Nat.reduceSub, Nat.reduceMul, Nat.reduceLeDiff, Nat.reduceLT, Nat.reduceEqDiff, if_true, if_false, reduceIte, Bool.false_eq_true, wipeS, lim0, lim1, lim2, lim3, told_ok (h2 y hy)]⟩) (by unfold lim; omega)
  unfold GEnt g_is_entry F_is_entry
  simp only [fnRes, startS, fSeq, fNext, fIfS, fSet, fAsg, gNm, gNms, fPar, fPar3, fRet, fRetN, fDrop, fBreak, fFor, fWhile, fVar, fC, fB, fOp, fAnd, fOr, fNot, fAndV, fOrV, fNotV, fIf, fTup, fLst, fNew, aNil, aCons, aStar, fIx, fSl, oNone, oSome, fCB, fCall, fMt, fPut, fNeg, fChain, fLcG, fLc2G, fRevL, iSeq, iR1, iR2, iEnumF, o1, gYes, endL, Res.bind_ok, Res.st_ok, Res.noex_ok, SRes.seq_nx, SRes.seq_rt, SRes.seq_bk, SRes.turn_nx, SRes.turn_rt, SRes.turn_bk, SRes.res, List.map_cons, List.map_nil, List.length_cons, List.length_nil, List.cons_append, List.nil_append, List.append_nil, List.replicate, List.getElem?_cons_zero, List.getElem?_cons_succ, List.set_cons_zero, List.set_cons_succ, List.zip_cons_cons, List.foldl_cons, List.foldl_nil, List.zip_nil_left, Nat.reduceAdd, Nat.reduceSub, Nat.reduceMul, Nat.reduceLeDiff, Nat.reduceLT, Nat.reduceEqDiff, if_true, if_false, reduceIte, Bool.false_eq_true, wipeS, lim0, lim1, lim2, lim3, a1, a2, a3, a4, a5, a6, a7, a8, a9, isi_tt, b1, b2, b3, b4, Bool.not_true, Bool.not_false]
  rw [b5]
  simp only [fnRes, startS, fSeq, fNext, fIfS, fSet, fAsg, gNm, gNms, fPar, fPar3, fRet, fRetN, fDrop, fBreak, fFor, fWhile, fVar, fC, fB, fOp, fAnd, fOr, fNot, fAndV, fOrV, fNotV, fIf, fTup, fLst, fNew, aNil, aCons, aStar, fIx, fSl, oNone, oSome, fCB, fCall, fMt, fPut, fNeg, fChain, fLcG, fLc2G, fRevL, iSeq, iR1, iR2, iEnumF, o1, gYes, endL, Res.bind_ok, Res.st_ok, Res.noex_ok, SRes.seq_nx, SRes.seq_rt, SRes.seq_bk, SRes.turn_nx, SRes.turn_rt, SRes.turn_bk, SRes.res, List.map_cons, List.map_nil, List.length_cons, List.length_nil, List.cons_append, List.nil_append, List.append_nil, List.replicate, List.getElem?_cons_zero, List.getElem?_cons_succ, List.set_cons_zero, List.set_cons_succ, List.zip_cons_cons, List.foldl_cons, List.foldl_nil, List.zip_nil_left, Nat.reduceAdd, Nat.reduceSub, Nat.reduceMul, Nat.reduceLeDiff, Nat.reduceLT, Nat.reduceEqDiff, if_true, if_false, reduceIte, Bool.false_eq_true, wipeS, lim0, lim1, lim2, lim3, all_true, b3, num_ok, i_le, i_lt]
  rw [decide_eq_true (show (0 : Int) ≤ (g : Int) by omega)]
  simp only [fnRes, startS, fSeq, fNext, fIfS, fSet, fAsg, gNm, gNms, fPar, fPar3, fRet, fRetN, fDrop, fBreak, fFor, fWhile, fVar, fC, fB, fOp, fAnd, fOr, fNot, fAndV, fOrV, fNotV, fIf, fTup, fLst, fNew, aNil, aCons, aStar, fIx, fSl, oNone, oSome, fCB, fCall, fMt, fPut, fNeg, fChain, fLcG, fLc2G, fRevL, iSeq, iR1, iR2, iEnumF, o1, gYes, endL, Res.bind_ok, Res.st_ok, Res.noex_ok, SRes.seq_nx, SRes.seq_rt, SRes.seq_bk, SRes.turn_nx, SRes.turn_rt, SRes.turn_bk, SRes.res, List.map_cons, List.map_nil, List.length_cons, List.length_nil, List.cons_append, List.nil_append, List.append_nil, List.replicate, List.getElem?_cons_zero, List.getElem?_cons_succ, List.set_cons_zero, List.set_cons_succ, List.zip_cons_cons, List.foldl_cons, List.foldl_nil, List.zip_nil_left, Nat.reduceAdd, Nat.reduceSub, Nat.reduceMul, Nat.reduceLeDiff, Nat.reduceLT, Nat.reduceEqDiff, if_true, if_false, reduceIte, Bool.false_eq_true, wipeS, lim0, lim1, lim2, lim3, b3, i_lt]
  rw [decide_eq_true (show (g : Int) < (n : Int) by omega)]
theorem ent_ok' {n w : Nat} {e : Mt.Ent T} (he : EntOk n w e) (hw : w ≤ 2) (w' : Nat) (hw' : w' = w ∨ e.2 = none) (M : Mem) : GEnt [encE e, .int (n : Nat), .int (w' : Nat)] M = .ok (.bl true) M := by
  cases he with
  | clash => exact ent_clash _ _ _
  | stuck => exact ent_stuck _ _ _
  | good h1 h2 h3 =>
    rcases hw' with rfl | h
    · exact ent_good h1 hw h2 h3 M
    · cases h
end Fl
set_option Elab.async false
set_option linter.all false
set_option maxRecDepth 100000
set_option maxHeartbeats 4000000
/-! P19: is_table of a drawn table. -/
namespace Fl
open PySem PySem.Spec PyProof.Rows L2
theorem lc2_pure {x : Src} {G G1 : FG} {fi1 : FI} {tt1 : FT} {te : FE} {vs1 : List Nat} {s : Slots} {M : Mem} (f : T → List T) (hx : srcOk x M = true) : ∀ (ys acc : List T), (∀ y ∈ ys, ∃ s2 x1, G y s = some s2 ∧ fi1 s2 M = .ok x1 M ∧ (f y).length ≤ 10 ∧ ∀ acc : List T, acc.length < 900 → lcLoop x1 G1 tt1 te (wipeS s2 vs1) x1.us acc M = .ok (acc ++ f y) M) → acc.length + 10 * ys.length < 900 →
    lc2Loop x G gYes fi1 G1 tt1 te vs1 s ys acc M = .ok (acc ++ (ys.map f).flatten) M
  | [], acc, _, _ => by
    unfold lc2Loop
    rw [if_pos hx]
    simp
  | y :: ys, acc, h, hl => by
    obtain ⟨s2, x1, e1, e2, e4, e3⟩ := h y List.mem_cons_self
    simp only [List.length_cons] at hl
    unfold lc2Loop
    rw [if_pos hx, e1]
    simp only [gYes, Res.noex_ok, Res.bind_ok, if_true]
    rw [e2]
    simp only [Res.noex_ok, Res.bind_ok]
    rw [e3 acc (by omega)]
    simp only [Res.bind_ok]
    rw [lc2_pure f hx ys (acc ++ f y) (fun z hz => h z (List.mem_cons_of_mem _ hz)) (by rw [List.length_append]; omega)]
    simp
def pGood : T → Bool
  | .tup ts => decide (ts.length = 3)
  | _ => false
theorem pGood_enc {n w : Nat} {e : Mt.Ent T} (he : EntOk n w e) : pGood (encE e) = e.2.isSome := by
  cases he with
  | clash => rfl
  | stuck => rfl
  | good _ _ _ => rfl
section
variable {n k w : Nat} {t : Mt.Tb T}
def ents (t : Mt.Tb T) : List T := ((t.map encL).map fun y => match y with
  | .tup ts => (ts.filter pGood).map id
  | _ => []).flatten
theorem ents_mem (ht : TabOk n k w t) {y : T} : y ∈ ents t ↔ ∃ r ∈ t, ∃ e ∈ r, y = encE e ∧ e.2.isSome = true := by
  unfold ents
  rw [List.map_map, List.mem_flatten]
  constructor
  · rintro ⟨l, hl, hy⟩
    obtain ⟨r, hr, rfl⟩ := List.mem_map.mp hl
    simp only [Function.comp, encL, List.map_id, List.mem_filter, List.mem_map] at hy
    obtain ⟨⟨e, he, rfl⟩, hp⟩ := hy
    exact ⟨r, hr, e, he, rfl, by rw [← pGood_enc (ht.ent r hr e he)]; exact hp⟩
  · rintro ⟨r, hr, e, he, rfl, hp⟩
    refine ⟨_, List.mem_map.mpr ⟨r, hr, rfl⟩, ?_⟩
    simp only [Function.comp, encL, List.map_id, List.mem_filter, List.mem_map]
    exact ⟨⟨e, he, rfl⟩, by rw [pGood_enc (ht.ent r hr e he)]; exact hp⟩
theorem enc_row {r : List (Mt.Ent T)} (ht : TabOk n k w t) {y : T} (hy : y ∈ t.map encL) : ∃ r ∈ t, y = encL r := by
  obtain ⟨r, hr, rfl⟩ := List.mem_map.mp hy
  exact ⟨r, hr, rfl⟩
theorem ents_len (ht : TabOk n k w t) : (ents t).length < 900 := by
  have hn := ht.le
  have hk := ht.kle
  have h : ∀ (ts : Mt.Tb T), (∀ r ∈ ts, r.length = k) → (ents ts).length ≤ 3 * ts.length := by
    intro ts
    induction ts with
    | nil => intro _; exact Nat.le_refl _
    | cons r ts ih =>
      intro hr
      have := ih fun r' h => hr r' (List.mem_cons_of_mem _ h)
      have hrl := hr r List.mem_cons_self
      have hf := List.length_filter_le pGood (r.map encE)
      rw [List.length_map] at hf
      show ((((r.map encE).filter pGood).map id) ++ ents ts).length ≤ _
      rw [List.length_append, List.length_map, List.length_cons]
      omega
  have := h t ht.row
  rw [ht.len] at this
  omega
theorem widths_ok (ht : TabOk n k w t) (M : Mem) : g_widths [encT t] M = .ok (.lst ((ents t).map fun _ => .int (w : Nat))) M := by
  have hn := ht.le
  have hk := ht.kle
  have isE : ∀ e n w, EntOk n w e → oIsi [encE e, .ty "tuple"] M = .ok (.bl true) M := fun e n w he => by
    cases he with
    | clash => exact isi_tt _ _
    | stuck => exact isi_tt _ _
    | good _ _ _ => exact isi_tt _ _
  have l3 : ∀ e n w, EntOk n w e → (oLen [encE e] M).bind (fun a M1 => oEq a (.int 3) M1) = .ok (.bl e.2.isSome) M := fun e n w he => by
    cases he with
    | clash => kernel_rfl
    | stuck => kernel_rfl
    | good _ _ _ => kernel_rfl
  have q1 := lc2_pure (x := ⟨t.map encL, none, []⟩) (G := gNm 2) (G1 := gNm 3) (fi1 := iSeq (fVar 2)) (tt1 := t1_widths) (te := e1_widths) (vs1 := [3]) (s := [some (encT t), none, none, none]) (M := M) (fun y => match y with
    | .tup ts => (ts.filter pGood).map id
    | _ => []) rfl (t.map encL) [] (fun y hy => by
      obtain ⟨r, hr, rfl⟩ := List.mem_map.mp hy
      have hrl := ht.row r hr
      refine ⟨_, ⟨r.map encE, none, []⟩, rfl, rfl, ?_, fun acc hacc => ?_⟩
      · show ((((r.map encE).filter pGood).map id)).length ≤ 10
        have hf := List.length_filter_le pGood (r.map encE)
        rw [List.length_map] at hf
        rw [List.length_map]
        omega
      · refine lc_pure id pGood rfl (r.map encE) acc (fun z hz => ?_) (by rw [List.length_map]; unfold lim; omega)
        obtain ⟨e, he, rfl⟩ := List.mem_map.mp hz
        have heo := ht.ent r hr e he
        refine ⟨_, rfl, ?_, fun _ => rfl⟩
        unfold t1_widths
        simp only [fnRes, startS, fSeq, fNext, fIfS, fSet, fAsg, gNm, gNms, fPar, fPar3, fRet, fRetN, fDrop, fBreak, fFor, fWhile, fVar, fC, fB, fOp, fAnd, fOr, fNot, fAndV, fOrV, fNotV, fIf, fTup, fLst, fNew, aNil, aCons, aStar, fIx, fSl, oNone, oSome, fCB, fCall, fMt, fPut, fNeg, fChain, fLcG, fLc2G, fRevL, iSeq, iR1, iR2, iEnumF, o1, gYes, endL, Res.bind_ok, Res.st_ok, Res.noex_ok, SRes.seq_nx, SRes.seq_rt, SRes.seq_bk, SRes.turn_nx, SRes.turn_rt, SRes.turn_bk, SRes.res, List.map_cons, List.map_nil, List.length_cons, List.length_nil, List.cons_append, List.nil_append, List.append_nil, List.replicate, List.getElem?_cons_zero, List.getElem?_cons_succ, List.set_cons_zero, List.set_cons_succ, List.zip_cons_cons, List.foldl_cons, List.foldl_nil, List.zip_nil_left, Nat.reduceAdd, Nat.reduceSub, Nat.reduceMul, Nat.reduceLeDiff, Nat.reduceLT, Nat.reduceEqDiff, if_true, if_false, reduceIte, Bool.false_eq_true, wipeS, lim0, lim1, lim2, lim3, isE e _ _ heo]
        rw [l3 e _ _ heo, pGood_enc heo]
        rfl) (by rw [List.length_map, ht.len]; simp; omega)
  rw [List.nil_append] at q1
  have q2 := lc_pure (x := ⟨ents t, none, []⟩) (G := gNm 3) (tt := t2_widths) (te := e2_widths) (s := [some (encT t), some (.lst (ents t)), none, none]) (M := M) (fun _ => .int (w : Nat)) (fun _ => true) rfl (ents t) [] (fun y hy => by
    obtain ⟨r, hr, e, he, rfl, hs⟩ := (ents_mem ht).mp hy
    have heo := ht.ent r hr e he
    cases heo with
    | clash => cases hs
    | stuck => cases hs
    | @good o g h1 h2 h3 =>
      have i1 : oIx (encE (.tup [.str "good", .tup o], some g)) (.int 1) M = .ok (.tup o) M := rfl
      have i2 : oLen [.tup o] M = .ok (.int (w : Nat)) M := by rw [← h1]; rfl
      refine ⟨_, rfl, ?_, fun _ => ?_⟩
      · unfold t2_widths
        simp only [fnRes, startS, fSeq, fNext, fIfS, fSet, fAsg, gNm, gNms, fPar, fPar3, fRet, fRetN, fDrop, fBreak, fFor, fWhile, fVar, fC, fB, fOp, fAnd, fOr, fNot, fAndV, fOrV, fNotV, fIf, fTup, fLst, fNew, aNil, aCons, aStar, fIx, fSl, oNone, oSome, fCB, fCall, fMt, fPut, fNeg, fChain, fLcG, fLc2G, fRevL, iSeq, iR1, iR2, iEnumF, o1, gYes, endL, Res.bind_ok, Res.st_ok, Res.noex_ok, SRes.seq_nx, SRes.seq_rt, SRes.seq_bk, SRes.turn_nx, SRes.turn_rt, SRes.turn_bk, SRes.res, List.map_cons, List.map_nil, List.length_cons, List.length_nil, List.cons_append, List.nil_append, List.append_nil, List.replicate, List.getElem?_cons_zero, List.getElem?_cons_succ, List.set_cons_zero, List.set_cons_succ, List.zip_cons_cons, List.foldl_cons, List.foldl_nil, List.zip_nil_left, Nat.reduceAdd, Nat.reduceSub, Nat.reduceMul, Nat.reduceLeDiff, Nat.reduceLT, Nat.reduceEqDiff, if_true, if_false, reduceIte, Bool.false_eq_true, wipeS, lim0, lim1, lim2, lim3, i1, isi_tt]
      · unfold e2_widths
        simp only [fnRes, startS, fSeq, fNext, fIfS, fSet, fAsg, gNm, gNms, fPar, fPar3, fRet, fRetN, fDrop, fBreak, fFor, fWhile, fVar, fC, fB, fOp, fAnd, fOr, fNot, fAndV, fOrV, fNotV, fIf, fTup, fLst, fNew, aNil, aCons, aStar, fIx, fSl, oNone, oSome, fCB, fCall, fMt, fPut, fNeg, fChain, fLcG, fLc2G, fRevL, iSeq, iR1, iR2, iEnumF, o1, gYes, endL, Res.bind_ok, Res.st_ok, Res.noex_ok, SRes.seq_nx, SRes.seq_rt, SRes.seq_bk, SRes.turn_nx, SRes.turn_rt, SRes.turn_bk, SRes.res, List.map_cons, List.map_nil, List.length_cons, List.length_nil, List.cons_append, List.nil_append, List.append_nil, List.replicate, List.getElem?_cons_zero, List.getElem?_cons_succ, List.set_cons_zero, List.set_cons_succ, List.zip_cons_cons, List.foldl_cons, List.foldl_nil, List.zip_nil_left, Nat.reduceAdd, Nat.reduceSub, Nat.reduceMul, Nat.reduceLeDiff, Nat.reduceLT, Nat.reduceEqDiff, if_true, if_false, reduceIte, Bool.false_eq_true, wipeS, lim0, lim1, lim2, lim3, i1, i2]) (by have := ents_len ht; unfold lim; simp; omega)
  rw [List.nil_append, List.filter_eq_self.mpr (fun _ _ => rfl)] at q2
  have q1' : lc2Loop ⟨t.map encL, none, []⟩ (gNm 2) gYes (iSeq (fVar 2)) (gNm 3) t1_widths e1_widths [3] [some (encT t), none, none, none] (t.map encL) [] M = .ok (ents t) M := q1
  unfold g_widths F_widths
  simp only [fnRes, startS, fSeq, fNext, fIfS, fSet, fAsg, gNm, gNms, fPar, fPar3, fRet, fRetN, fDrop, fBreak, fFor, fWhile, fVar, fC, fB, fOp, fAnd, fOr, fNot, fAndV, fOrV, fNotV, fIf, fTup, fLst, fNew, aNil, aCons, aStar, fIx, fSl, oNone, oSome, fCB, fCall, fMt, fPut, fNeg, fChain, fLcG, fLc2G, fRevL, iSeq, iR1, iR2, iEnumF, o1, gYes, endL, Res.bind_ok, Res.st_ok, Res.noex_ok, SRes.seq_nx, SRes.seq_rt, SRes.seq_bk, SRes.turn_nx, SRes.turn_rt, SRes.turn_bk, SRes.res, List.map_cons, List.map_nil, List.length_cons, List.length_nil, List.cons_append, List.nil_append, List.append_nil, List.replicate, List.getElem?_cons_zero, List.getElem?_cons_succ, List.set_cons_zero, List.set_cons_succ, List.zip_cons_cons, List.foldl_cons, List.foldl_nil, List.zip_nil_left, Nat.reduceAdd, Nat.reduceSub, Nat.reduceMul, Nat.reduceLeDiff, Nat.reduceLT, Nat.reduceEqDiff, if_true, if_false, reduceIte, Bool.false_eq_true, wipeS, lim0, lim1, lim2, lim3]
  rw [show srcOf M (encT t) = some ⟨t.map encL, none, []⟩ from rfl]
  simp only [fnRes, startS, fSeq, fNext, fIfS, fSet, fAsg, gNm, gNms, fPar, fPar3, fRet, fRetN, fDrop, fBreak, fFor, fWhile, fVar, fC, fB, fOp, fAnd, fOr, fNot, fAndV, fOrV, fNotV, fIf, fTup, fLst, fNew, aNil, aCons, aStar, fIx, fSl, oNone, oSome, fCB, fCall, fMt, fPut, fNeg, fChain, fLcG, fLc2G, fRevL, iSeq, iR1, iR2, iEnumF, o1, gYes, endL, Res.bind_ok, Res.st_ok, Res.noex_ok, SRes.seq_nx, SRes.seq_rt, SRes.seq_bk, SRes.turn_nx, SRes.turn_rt, SRes.turn_bk, SRes.res, List.map_cons, List.map_nil, List.length_cons, List.length_nil, List.cons_append, List.nil_append, List.append_nil, List.replicate, List.getElem?_cons_zero, List.getElem?_cons_succ, List.set_cons_zero, List.set_cons_succ, List.zip_cons_cons, List.foldl_cons, List.foldl_nil, List.zip_nil_left, Nat.reduceAdd, Nat.reduceSub, Nat.reduceMul, Nat.reduceLeDiff, Nat.reduceLT, Nat.reduceEqDiff, if_true, if_false, reduceIte, Bool.false_eq_true, wipeS, lim0, lim1, lim2, lim3]
  rw [q1']
  simp only [fnRes, startS, fSeq, fNext, fIfS, fSet, fAsg, gNm, gNms, fPar, fPar3, fRet, fRetN, fDrop, fBreak, fFor, fWhile, fVar, fC, fB, fOp, fAnd, fOr, fNot, fAndV, fOrV, fNotV, fIf, fTup, fLst, fNew, aNil, aCons, aStar, fIx, fSl, oNone, oSome, fCB, fCall, fMt, fPut, fNeg, fChain, fLcG, fLc2G, fRevL, iSeq, iR1, iR2, iEnumF, o1, gYes, endL, Res.bind_ok, Res.st_ok, Res.noex_ok, SRes.seq_nx, SRes.seq_rt, SRes.seq_bk, SRes.turn_nx, SRes.turn_rt, SRes.turn_bk, SRes.res, List.map_cons, List.map_nil, List.length_cons, List.length_nil, List.cons_append, List.nil_append, List.append_nil, List.replicate, List.getElem?_cons_zero, List.getElem?_cons_succ, List.set_cons_zero, List.set_cons_succ, List.zip_cons_cons, List.foldl_cons, List.foldl_nil, List.zip_nil_left, Nat.reduceAdd, Nat.reduceSub, Nat.reduceMul, Nat.reduceLeDiff, Nat.reduceLT, Nat.reduceEqDiff, if_true, if_false, reduceIte, Bool.false_eq_true, wipeS, lim0, lim1, lim2, lim3]
  rw [show srcOf M (.lst (ents t)) = some ⟨ents t, none, []⟩ from rfl]
  simp only [fnRes, startS, fSeq, fNext, fIfS, fSet, fAsg, gNm, gNms, fPar, fPar3, fRet, fRetN, fDrop, fBreak, fFor, fWhile, fVar, fC, fB, fOp, fAnd, fOr, fNot, fAndV, fOrV, fNotV, fIf, fTup, fLst, fNew, aNil, aCons, aStar, fIx, fSl, oNone, oSome, fCB, fCall, fMt, fPut, fNeg, fChain, fLcG, fLc2G, fRevL, iSeq, iR1, iR2, iEnumF, o1, gYes, endL, Res.bind_ok, Res.st_ok, Res.noex_ok, SRes.seq_nx, SRes.seq_rt, SRes.seq_bk, SRes.turn_nx, SRes.turn_rt, SRes.turn_bk, SRes.res, List.map_cons, List.map_nil, List.length_cons, List.length_nil, List.cons_append, List.nil_append, List.append_nil, List.replicate, List.getElem?_cons_zero, List.getElem?_cons_succ, List.set_cons_zero, List.set_cons_succ, List.zip_cons_cons, List.foldl_cons, List.foldl_nil, List.zip_nil_left, Nat.reduceAdd, Nat.reduceSub, Nat.reduceMul, Nat.reduceLeDiff, Nat.reduceLT, Nat.reduceEqDiff, if_true, if_false, reduceIte, Bool.false_eq_true, wipeS, lim0, lim1, lim2, lim3]
  rw [q2]
  simp only [fnRes, startS, fSeq, fNext, fIfS, fSet, fAsg, gNm, gNms, fPar, fPar3, fRet, fRetN, fDrop, fBreak, fFor, fWhile, fVar, fC, fB, fOp, fAnd, fOr, fNot, fAndV, fOrV, fNotV, fIf, fTup, fLst, fNew, aNil, aCons, aStar, fIx, fSl, oNone, oSome, fCB, fCall, fMt, fPut, fNeg, fChain, fLcG, fLc2G, fRevL, iSeq, iR1, iR2, iEnumF, o1, gYes, endL, Res.bind_ok, Res.st_ok, Res.noex_ok, SRes.seq_nx, SRes.seq_rt, SRes.seq_bk, SRes.turn_nx, SRes.turn_rt, SRes.turn_bk, SRes.res, List.map_cons, List.map_nil, List.length_cons, List.length_nil, List.cons_append, List.nil_append, List.append_nil, List.replicate, List.getElem?_cons_zero, List.getElem?_cons_succ, List.set_cons_zero, List.set_cons_succ, List.zip_cons_cons, List.foldl_cons, List.foldl_nil, List.zip_nil_left, Nat.reduceAdd, Nat.reduceSub, Nat.reduceMul, Nat.reduceLeDiff, Nat.reduceLT, Nat.reduceEqDiff, if_true, if_false, reduceIte, Bool.false_eq_true, wipeS, lim0, lim1, lim2, lim3]
theorem istab_ok (ht : TabOk n k w t) (M : Mem) : GTab [encT t] M = .ok (.bl true) M := by
  have hn := ht.le
  have hk := ht.kle
  have hn0 := ht.pos
  have hk0 := ht.kpos
  have htl : 0 < t.length := by rw [ht.len]; exact hn0
  have hpl : T.pl 64 (encT t) = true := pl_mono _ 5 64 (by decide) (tab_pl ht.ent)
  have hr0 : (t[0]).length = k := ht.row _ (List.getElem_mem htl)
  have a1 : oIsi [encT t, .ty "tuple"] M = .ok (.bl true) M := isi_tt _ _
  have a2 : oEq (encT t) (.tup []) M = .ok (.bl false) M := by
    rw [eq_pl hpl rfl, decide_eq_false]
    intro z
    unfold encT at z
    rw [T.tup.injEq, List.map_eq_nil_iff] at z
    rw [z] at htl
    exact absurd htl (Nat.lt_irrefl _)
  have a3 : oIx (encT t) (.int 0) M = .ok (encL t[0]) M := ix_tup (t.map encL) 0 _ _ (map_get encL t 0 htl)
  have a4 : oEq (encL t[0]) (.tup []) M = .ok (.bl false) M := by
    rw [eq_pl (pl_mono _ 4 64 (by decide) (line_pl (ht.ent _ (List.getElem_mem htl)))) rfl, decide_eq_false]
    intro z
    unfold encL at z
    rw [T.tup.injEq, List.map_eq_nil_iff] at z
    rw [z] at hr0
    simp at hr0
    omega
  have a5 : ∀ r ∈ t, oLen [encL r] M = .ok (.int (k : Nat)) M := fun r hr => by
    show Res.ok (T.int ((r.map encE).length : Nat)) _ = _
    rw [List.length_map, ht.row r hr]
  have c1 := lc_map (x := ⟨t.map encL, none, []⟩) (G := gNm 2) (te := e1_is_table g_widths GEnt) (s := [some (encT t), none, none, none]) (M := M) (fun _ => .bl true) rfl (t.map encL) (fun y hy => by
    obtain ⟨r, hr, rfl⟩ := List.mem_map.mp hy
    refine ⟨_, rfl, ?_⟩
    unfold e1_is_table
    simp only [fnRes, startS, fSeq, fNext, fIfS, fSet, fAsg, gNm, gNms, fPar, fPar3, fRet, fRetN, fDrop, fBreak, fFor, fWhile, fVar, fC, fB, fOp, fAnd, fOr, fNot, fAndV, fOrV, fNotV, fIf, fTup, fLst, fNew, aNil, aCons, aStar, fIx, fSl, oNone, oSome, fCB, fCall, fMt, fPut, fNeg, fChain, fLcG, fLc2G, fRevL, iSeq, iR1, iR2, iEnumF, o1, gYes, endL, Res.bind_ok, Res.st_ok, Res.noex_ok, SRes.seq_nx, SRes.seq_rt, SRes.seq_bk, SRes.turn_nx, SRes.turn_rt, SRes.turn_bk, SRes.res, List.map_cons, List.map_nil, List.length_cons, List.length_nil, List.cons_append, List.nil_append, List.append_nil, List.replicate, List.getElem?_cons_zero, List.getElem?_cons_succ, List.set_cons_zero, List.set_cons_succ, List.zip_cons_cons, List.foldl_cons, List.foldl_nil, List.zip_nil_left, Nat.reduceAdd, Nat.reduceSub, Nat.reduceMul, Nat.reduceLeDiff, Nat.reduceLT, Nat.reduceEqDiff, if_true, if_false, reduceIte, Bool.false_eq_true, wipeS, lim0, lim1, lim2, lim3, show oIsi [encL r, .ty "tuple"] M = .ok (.bl true) M from isi_tt _ _]) (by rw [List.length_map, ht.len]; unfold lim; omega)
  have c2 := lc_map (x := ⟨t.map encL, none, []⟩) (G := gNm 2) (te := e2_is_table g_widths GEnt) (s := [some (encT t), none, none, none]) (M := M) (fun _ => .bl true) rfl (t.map encL) (fun y hy => by
    obtain ⟨r, hr, rfl⟩ := List.mem_map.mp hy
    refine ⟨_, rfl, ?_⟩
    unfold e2_is_table
    simp only [fnRes, startS, fSeq, fNext, fIfS, fSet, fAsg, gNm, gNms, fPar, fPar3, fRet, fRetN, fDrop, fBreak, fFor, fWhile, fVar, fC, fB, fOp, fAnd, fOr, fNot, fAndV, fOrV, fNotV, fIf, fTup, fLst, fNew, aNil, aCons, aStar, fIx, fSl, oNone, oSome, fCB, fCall, fMt, fPut, fNeg, fChain, fLcG, fLc2G, fRevL, iSeq, iR1, iR2, iEnumF, o1, gYes, endL, Res.bind_ok, Res.st_ok, Res.noex_ok, SRes.seq_nx, SRes.seq_rt, SRes.seq_bk, SRes.turn_nx, SRes.turn_rt, SRes.turn_bk, SRes.res, List.map_cons, List.map_nil, List.length_cons, List.length_nil, List.cons_append, List.nil_append, List.append_nil, List.replicate, List.getElem?_cons_zero, List.getElem?_cons_succ, List.set_cons_zero, List.set_cons_succ, List.zip_cons_cons, List.foldl_cons, List.foldl_nil, List.zip_nil_left, Nat.reduceAdd, Nat.reduceSub, Nat.reduceMul, Nat.reduceLeDiff, Nat.reduceLT, Nat.reduceEqDiff, if_true, if_false, reduceIte, Bool.false_eq_true, wipeS, lim0, lim1, lim2, lim3, a5 r hr, a3, a5 t[0] (List.getElem_mem htl), i_eqN, decide_true]) (by rw [List.length_map, ht.len]; unfold lim; omega)
  obtain ⟨w', hw, hw'⟩ : ∃ w' : Nat, (oAdd (.lst ((ents t).map fun _ => .int (w : Nat))) (.lst [.int 0]) M).bind (fun a M1 => oIx a (.int 0) M1) = .ok (.int (w' : Nat)) M ∧ ∀ r ∈ t, ∀ e ∈ r, w' = w ∨ e.2 = none := by
    have hel := ents_len ht
    have hadd : oAdd (.lst ((ents t).map fun _ => .int (w : Nat))) (.lst [.int 0]) M = .ok (.lst (((ents t).map fun _ => .int (w : Nat)) ++ [.int 0])) M := by
      show (if ((ents t).map fun _ => T.int (w : Nat)).length + 1 ≤ lim then _ else _) = _
      rw [if_pos (by rw [List.length_map]; unfold lim; omega)]
    rw [hadd]
    simp only [Res.bind_ok]
    cases he : ents t with
    | nil =>
      refine ⟨0, rfl, fun r hr e he' => .inr ?_⟩
      cases ho : e.2 with
      | none => rfl
      | some g =>
        have := (ents_mem ht (y := encE e)).mpr ⟨r, hr, e, he', rfl, by rw [ho]; rfl⟩
        rw [he] at this
        cases this
    | cons a as => exact ⟨w, ix_lst _ 0 _ _ rfl, fun _ _ _ _ => .inl rfl⟩
  have c3 := lc2_pure (x := ⟨t.map encL, none, []⟩) (G := gNm 2) (G1 := gNm 3) (fi1 := iSeq (fVar 2)) (tt1 := gYes) (te := e3_is_table g_widths GEnt) (vs1 := [3]) (s := [some (encT t), some (.int (w' : Nat)), none, none]) (M := M) (fun y => match y with
    | .tup ts => ts.map fun _ => T.bl true
    | _ => []) rfl (t.map encL) [] (fun y hy => by
      obtain ⟨r, hr, rfl⟩ := List.mem_map.mp hy
      have hrl := ht.row r hr
      refine ⟨_, ⟨r.map encE, none, []⟩, rfl, rfl, ?_, fun acc hacc => ?_⟩
      · show ((r.map encE).map fun _ => T.bl true).length ≤ 10
        rw [List.length_map, List.length_map]
        omega
      · rw [lc_pure (fun _ => .bl true) (fun _ => true) rfl (r.map encE) acc (fun z hz => ?_) (by rw [List.length_map]; unfold lim; omega), List.filter_eq_self.mpr (fun _ _ => rfl)]
        · rfl
        · obtain ⟨e, he, rfl⟩ := List.mem_map.mp hz
          refine ⟨_, rfl, rfl, fun _ => ?_⟩
          unfold e3_is_table
          simp only [fnRes, startS, fSeq, fNext, fIfS, fSet, fAsg, gNm, gNms, fPar, fPar3, fRet, fRetN, fDrop, fBreak, fFor, fWhile, fVar, fC, fB, fOp, fAnd, fOr, fNot, fAndV, fOrV, fNotV, fIf, fTup, fLst, fNew, aNil, aCons, aStar, fIx, fSl, oNone, oSome, fCB, fCall, fMt, fPut, fNeg, fChain, fLcG, fLc2G, fRevL, iSeq, iR1, iR2, iEnumF, o1, gYes, endL, Res.bind_ok, Res.st_ok, Res.noex_ok, SRes.seq_nx, SRes.seq_rt, SRes.seq_bk, SRes.turn_nx, SRes.turn_rt, SRes.turn_bk, SRes.res, List.map_cons, List.map_nil, List.length_cons, List.length_nil, List.cons_append, List.nil_append, List.append_nil, List.replicate, List.getElem?_cons_zero, List.getElem?_cons_succ, List.set_cons_zero, List.set_cons_succ, List.zip_cons_cons, List.foldl_cons, List.foldl_nil, List.zip_nil_left, Nat.reduceAdd, Nat.reduceSub, Nat.reduceMul, Nat.reduceLeDiff, Nat.reduceLT, Nat.reduceEqDiff, if_true, if_false, reduceIte, Bool.false_eq_true, wipeS, lim0, lim1, lim2, lim3, encT_len ht, ent_ok' (ht.ent r hr e he) ht.wle w' (hw' r hr e he)]) (by rw [List.length_map, ht.len]; simp; omega)
  have c3' : ∃ bs : List (Mt.Ent T), lc2Loop ⟨t.map encL, none, []⟩ (gNm 2) gYes (iSeq (fVar 2)) (gNm 3) gYes (e3_is_table g_widths GEnt) [3] [some (encT t), some (.int (w' : Nat)), none, none] (t.map encL) [] M = .ok (bs.map fun _ => T.bl true) M := by
    refine ⟨t.flatten, c3.trans ?_⟩
    congr 1
    rw [List.nil_append, List.map_map, List.map_flatten]
    congr 1
    refine List.map_congr_left fun r _ => ?_
    show ((r.map encE).map fun _ => T.bl true) = _
    rw [List.map_map]
    rfl
  obtain ⟨bs, c3'⟩ := c3'
  have hsrc : srcOf M (encT t) = some ⟨t.map encL, none, []⟩ := rfl
  unfold GTab g_is_table F_is_table
  simp only [fnRes, startS, fSeq, fNext, fIfS, fSet, fAsg, gNm, gNms, fPar, fPar3, fRet, fRetN, fDrop, fBreak, fFor, fWhile, fVar, fC, fB, fOp, fAnd, fOr, fNot, fAndV, fOrV, fNotV, fIf, fTup, fLst, fNew, aNil, aCons, aStar, fIx, fSl, oNone, oSome, fCB, fCall, fMt, fPut, fNeg, fChain, fLcG, fLc2G, fRevL, iSeq, iR1, iR2, iEnumF, o1, gYes, endL, Res.bind_ok, Res.st_ok, Res.noex_ok, SRes.seq_nx, SRes.seq_rt, SRes.seq_bk, SRes.turn_nx, SRes.turn_rt, SRes.turn_bk, SRes.res, List.map_cons, List.map_nil, List.length_cons, List.length_nil, List.cons_append, List.nil_append, List.append_nil, List.replicate, List.getElem?_cons_zero, List.getElem?_cons_succ, List.set_cons_zero, List.set_cons_succ, List.zip_cons_cons, List.foldl_cons, List.foldl_nil, List.zip_nil_left, Nat.reduceAdd, Nat.reduceSub, Nat.reduceMul, Nat.reduceLeDiff, Nat.reduceLT, Nat.reduceEqDiff, if_true, if_false, reduceIte, Bool.false_eq_true, wipeS, lim0, lim1, lim2, lim3, a1, a2, hsrc, Bool.not_true, Bool.not_false]
  rw [c1]
  simp only [fnRes, startS, fSeq, fNext, fIfS, fSet, fAsg, gNm, gNms, fPar, fPar3, fRet, fRetN, fDrop, fBreak, fFor, fWhile, fVar, fC, fB, fOp, fAnd, fOr, fNot, fAndV, fOrV, fNotV, fIf, fTup, fLst, fNew, aNil, aCons, aStar, fIx, fSl, oNone, oSome, fCB, fCall, fMt, fPut, fNeg, fChain, fLcG, fLc2G, fRevL, iSeq, iR1, iR2, iEnumF, o1, gYes, endL, Res.bind_ok, Res.st_ok, Res.noex_ok, SRes.seq_nx, SRes.seq_rt, SRes.seq_bk, SRes.turn_nx, SRes.turn_rt, SRes.turn_bk, SRes.res, List.map_cons, List.map_nil, List.length_cons, List.length_nil, List.cons_append, List.nil_append, List.append_nil, List.replicate, List.getElem?_cons_zero, List.getElem?_cons_succ, List.set_cons_zero, List.set_cons_succ, List.zip_cons_cons, List.foldl_cons, List.foldl_nil, List.zip_nil_left, Nat.reduceAdd, Nat.reduceSub, Nat.reduceMul, Nat.reduceLeDiff, Nat.reduceLT, Nat.reduceEqDiff, if_true, if_false, reduceIte, Bool.false_eq_true, wipeS, lim0, lim1, lim2, lim3, all_true, Bool.not_true, a3, a4, hsrc]
  rw [c2]
  simp only [fnRes, startS, fSeq, fNext, fIfS, fSet, fAsg, gNm, gNms, fPar, fPar3, fRet, fRetN, fDrop, fBreak, fFor, fWhile, fVar, fC, fB, fOp, fAnd, fOr, fNot, fAndV, fOrV, fNotV, fIf, fTup, fLst, fNew, aNil, aCons, aStar, fIx, fSl, oNone, oSome, fCB, fCall, fMt, fPut, fNeg, fChain, fLcG, fLc2G, fRevL, iSeq, iR1, iR2, iEnumF, o1, gYes, endL, Res.bind_ok, Res.st_ok, Res.noex_ok, SRes.seq_nx, SRes.seq_rt, SRes.seq_bk, SRes.turn_nx, SRes.turn_rt, SRes.turn_bk, SRes.res, List.map_cons, List.map_nil, List.length_cons, List.length_nil, List.cons_append, List.nil_append, List.append_nil, List.replicate, List.getElem?_cons_zero, List.getElem?_cons_succ, List.set_cons_zero, List.set_cons_succ, List.zip_cons_cons, List.foldl_cons, List.foldl_nil, List.zip_nil_left, Nat.reduceAdd, Nat.reduceSub, Nat.reduceMul, Nat.reduceLeDiff, Nat.reduceLT, Nat.reduceEqDiff, if_true, if_false, reduceIte, Bool.false_eq_true, wipeS, lim0, lim1, lim2, lim3, all_true, Bool.not_true, widths_ok ht]
  rw [hw]
  simp only [fnRes, startS, fSeq, fNext, fIfS, fSet, fAsg, gNm, gNms, fPar, fPar3, fRet, fRetN, fDrop, fBreak, fFor, fWhile, fVar, fC, fB, fOp, fAnd, fOr, fNot, fAndV, fOrV, fNotV, fIf, fTup, fLst, fNew, aNil, aCons, aStar, fIx, fSl, oNone, oSome, fCB, fCall, fMt, fPut, fNeg, fChain, fLcG, fLc2G, fRevL, iSeq, iR1, iR2, iEnumF, o1, gYes, endL, Res.bind_ok, Res.st_ok, Res.noex_ok, SRes.seq_nx, SRes.seq_rt, SRes.seq_bk, SRes.turn_nx, SRes.turn_rt, SRes.turn_bk, SRes.res, List.map_cons, List.map_nil, List.length_cons, List.length_nil, List.cons_append, List.nil_append, List.append_nil, List.replicate, List.getElem?_cons_zero, List.getElem?_cons_succ, List.set_cons_zero, List.set_cons_succ, List.zip_cons_cons, List.foldl_cons, List.foldl_nil, List.zip_nil_left, Nat.reduceAdd, Nat.reduceSub, Nat.reduceMul, Nat.reduceLeDiff, Nat.reduceLT, Nat.reduceEqDiff, if_true, if_false, reduceIte, Bool.false_eq_true, wipeS, lim0, lim1, lim2, lim3, hsrc]
  rw [c3']
  simp only [fnRes, startS, fSeq, fNext, fIfS, fSet, fAsg, gNm, gNms, fPar, fPar3, fRet, fRetN, fDrop, fBreak, fFor, fWhile, fVar, fC, fB, fOp, fAnd, fOr, fNot, fAndV, fOrV, fNotV, fIf, fTup, fLst, fNew, aNil, aCons, aStar, fIx, fSl, oNone, oSome, fCB, fCall, fMt, fPut, fNeg, fChain, fLcG, fLc2G, fRevL, iSeq, iR1, iR2, iEnumF, o1, gYes, endL, Res.bind_ok, Res.st_ok, Res.noex_ok, SRes.seq_nx, SRes.seq_rt, SRes.seq_bk, SRes.turn_nx, SRes.turn_rt, SRes.turn_bk, SRes.res, List.map_cons, List.map_nil, List.length_cons, List.length_nil, List.cons_append, List.nil_append, List.append_nil, List.replicate, List.getElem?_cons_zero, List.getElem?_cons_succ, List.set_cons_zero, List.set_cons_succ, List.zip_cons_cons, List.foldl_cons, List.foldl_nil, List.zip_nil_left, Nat.reduceAdd, Nat.reduceSub, Nat.reduceMul, Nat.reduceLeDiff, Nat.reduceLT, Nat.reduceEqDiff, if_true, if_false, reduceIte, Bool.false_eq_true, wipeS, lim0, lim1, lim2, lim3, all_true]
end
end Fl
set_option Elab.async false
set_option linter.all false
set_option maxRecDepth 100000
set_option maxHeartbeats 4000000
/-! P20: alike by repr; the cells opened. -/
namespace Fl
open PySem PySem.Spec PyProof.Rows L2
theorem sok_app (a b : Str) (ha : PyData.strOk a = true) (hb : PyData.strOk b = true) : PyData.strOk (a ++ b) = true := by
  unfold PyData.strOk at *
  show ((a.cps ++ b.cps).all _) = true
  rw [Array.all_append, ha, hb]
  rfl
theorem sok_join : ∀ ts : List Str, (∀ t ∈ ts, PyData.strOk t = true) → PyData.strOk (Str.join ", " ts) = true
  | [], _ => by decide +kernel
  | [x], h => h x List.mem_cons_self
  | x :: y :: r, h => by
    show PyData.strOk (x ++ ", " ++ Str.join ", " (y :: r)) = true
    exact sok_app _ _ (sok_app _ _ (h x List.mem_cons_self) (by decide +kernel)) (sok_join (y :: r) fun t ht => h t (List.mem_cons_of_mem _ ht))
theorem sok_tup (ts : List Str) (h : ∀ t ∈ ts, PyData.strOk t = true) : PyData.strOk (tupleText ts) = true := by
  unfold tupleText
  refine sok_app _ _ (sok_app _ _ (by decide +kernel) (sok_join ts h)) ?_
  split <;> decide +kernel
theorem sok_int : ∀ n : Fin 16, PyData.strOk ((toString ((n.val : Nat) : Int) : String) : Str) = true := by decide +kernel
mutual
theorem sz_sok : ∀ (t : T) (n : Nat), T.sz t = some n → PyData.strOk t.data.shown = true
  | .non, n, h => by decide +kernel
  | .int i, n, h => by
    simp only [T.sz] at h
    split at h
    · rename_i hi
      obtain ⟨k, rfl⟩ := Int.eq_ofNat_of_zero_le hi.1
      have hk : k < 16 := by omega
      have := sok_int ⟨k, hk⟩
      simp only [T.data, PyData.shown]
      exact this
    · cases h
  | .str x, n, h => by
    simp only [T.sz] at h
    split at h
    · rename_i hx
      rcases hx with rfl | rfl | rfl | rfl | rfl <;> decide +kernel
    · cases h
  | .tup ts, n, h => by
    simp only [T.sz, Option.map_eq_some_iff] at h
    obtain ⟨m, h1, rfl⟩ := h
    simp only [T.data, PyData.shown]
    exact sok_tup _ (szs_sok ts m h1)
  | .bl _, _, h => by simp [T.sz] at h
  | .lst _, _, h => by simp [T.sz] at h
  | .scr _, _, h => by simp [T.sz] at h
  | .iset _, _, h => by simp [T.sz] at h
  | .rng _ _, _, h => by simp [T.sz] at h
  | .ref _, _, h => by simp [T.sz] at h
  | .adr _, _, h => by simp [T.sz] at h
  | .ty _, _, h => by simp [T.sz] at h
theorem szs_sok : ∀ (ts : List T) (n : Nat), T.szs ts = some n → ∀ s ∈ PyData.shownAll (T.datas ts), PyData.strOk s = true
  | [], n, h => fun s hs => by simp [T.datas, PyData.shownAll] at hs
  | t :: ts, n, h => by
    simp only [T.szs] at h
    split at h
    · rename_i a b h1 h2
      intro s hs
      simp only [T.datas, PyData.shownAll, List.mem_cons] at hs
      rcases hs with rfl | hs
      · exact sz_sok t a h1
      · exact szs_sok ts b h2 s hs
    · cases h
end
theorem like_ok {t : T} {n d : Nat} (h : T.sz t = some n) (hn : n ≤ lim) (hp : T.pl d t = true) (hd : d ≤ 64) (M : Mem) : g__law_like [t, t] M = .ok (.bl true) M := by
  unfold g__law_like F__law_like
  simp only [fnRes, startS, fSeq, fNext, fIfS, fSet, fAsg, gNm, gNms, fPar, fPar3, fRet, fRetN, fDrop, fBreak, fFor, fWhile, fVar, fC, fB, fOp, fAnd, fOr, fNot, fAndV, fOrV, fNotV, fIf, fTup, fLst, fNew, aNil, aCons, aStar, fIx, fSl, oNone, oSome, fCB, fCall, fMt, fPut, fNeg, fChain, fLcG, fLc2G, fRevL, iSeq, iR1, iR2, iEnumF, o1, gYes, endL, Res.bind_ok, Res.st_ok, Res.noex_ok, SRes.seq_nx, SRes.seq_rt, SRes.seq_bk, SRes.turn_nx, SRes.turn_rt, SRes.turn_bk, SRes.res, List.map_cons, List.map_nil, List.length_cons, List.length_nil, List.cons_append, List.nil_append, List.append_nil, List.replicate, List.getElem?_cons_zero, List.getElem?_cons_succ, List.set_cons_zero, List.set_cons_succ, List.zip_cons_cons, List.foldl_cons, List.foldl_nil, List.zip_nil_left, Nat.reduceAdd, Nat.reduceSub, Nat.reduceMul, Nat.reduceLeDiff, Nat.reduceLT, Nat.reduceEqDiff, if_true, if_false, reduceIte, Bool.false_eq_true, wipeS, lim0, lim1, lim2, lim3, repr_ok (M := M) h hn hp hd]
  rw [eq_pl (by simp only [T.pl]; exact sz_sok t n h) (by simp only [T.pl]; exact sz_sok t n h), decide_eq_true rfl]
  rfl
theorem vals_sz : ∀ v ∈ vals, ∃ n, T.sz v = some n ∧ n ≤ 20 := by
  intro v hv
  simp only [vals, List.mem_cons, List.not_mem_nil, or_false] at hv
  rcases hv with rfl | rfl | rfl | rfl | rfl <;> simp [T.sz, T.szs]
theorem ent_sz {n w : Nat} {e : Mt.Ent T} (h : EntOk n w e) (hn : n ≤ 7) (hw : w ≤ 2) : ∃ m, T.sz (encE e) = some m ∧ m ≤ 100 := by
  cases h with
  | clash => exact ⟨12, by simp [encE, T.sz, T.szs], by decide⟩
  | stuck => exact ⟨12, by simp [encE, T.sz, T.szs], by decide⟩
  | @good o g h1 h2 h3 =>
    obtain ⟨m, hm, hle⟩ := szs_le o fun v hv => vals_sz v (h2 v hv)
    have hg : (0 : Int) ≤ (g : Int) ∧ (g : Int) < 16 := by omega
    have hb : o.length * (20 + 2) ≤ 2 * 22 := Nat.mul_le_mul (by omega) (by decide)
    refine ⟨7 + 2 + ((m + 3) + 2 + (2 + 2 + 0)) + 3, ?_, by omega⟩
    simp only [encE, List.cons_append, List.nil_append, T.sz, T.szs, hm, Option.map_some, if_pos hg, true_or, if_true]
theorem tab_sz {n k w : Nat} {t : Mt.Tb T} (ht : TabOk n k w t) : ∃ m, T.sz (encT t) = some m ∧ m ≤ 5000 := by
  have line : ∀ r ∈ t, ∃ m, T.sz (encL r) = some m ∧ m ≤ 400 := fun r hr => by
    obtain ⟨m, hm, hle⟩ := szs_le (r.map encE) (m := 100) fun v hv => by
      obtain ⟨e, he, rfl⟩ := List.mem_map.mp hv
      exact ent_sz (ht.ent r hr e he) ht.le ht.wle
    rw [List.length_map, ht.row r hr] at hle
    have := Nat.mul_le_mul ht.kle (Nat.le_refl (100 + 2))
    refine ⟨m + 3, by simp only [encL, T.sz, hm, Option.map_some], by omega⟩
  obtain ⟨m, hm, hle⟩ := szs_le (t.map encL) (m := 400) fun v hv => by
    obtain ⟨r, hr, rfl⟩ := List.mem_map.mp hv
    exact line r hr
  rw [List.length_map, ht.len] at hle
  have := Nat.mul_le_mul ht.le (Nat.le_refl (400 + 2))
  exact ⟨m + 3, by simp only [encT, T.sz, hm, Option.map_some], by omega⟩
theorem like_tab {n k w : Nat} {t : Mt.Tb T} (ht : TabOk n k w t) (M : Mem) : g__law_like [encT t, encT t] M = .ok (.bl true) M := by
  obtain ⟨m, hm, hle⟩ := tab_sz ht
  exact like_ok hm (by unfold lim; omega) (tab_pl ht.ent) (by decide) M
/-! ### how long a way is -/
theorem scan_err {wy w : List Nat} : ∀ (es fs : List (Mt.Ent T)) (p : Nat) (ps : List (Nat × Nat)) (ws : List (List Nat)), Mt.scan wy p es fs ps ws = .error w → ∃ j, w = wy ++ [j] ∧ j < p + es.length
  | [], fs, p, ps, ws, h => by simp [Mt.scan] at h
  | e :: es, [], p, ps, ws, h => by simp [Mt.scan] at h
  | e :: es, f :: fs, p, ps, ws, h => by
    unfold Mt.scan at h
    have nxt : ∀ ps ws, Mt.scan wy (p + 1) es fs ps ws = .error w → ∃ j, w = wy ++ [j] ∧ j < p + (e :: es).length := fun ps ws h => by
      obtain ⟨j, h1, h2⟩ := scan_err es fs (p + 1) ps ws h
      exact ⟨j, h1, by simp; omega⟩
    split at h
    · cases h
      exact ⟨p, rfl, by simp⟩
    · split at h
      · split at h
        · exact nxt _ _ h
        · exact nxt _ _ h
      · exact nxt _ _ h
theorem scan_ws {wy : List Nat} : ∀ (es fs : List (Mt.Ent T)) (p : Nat) (ps : List (Nat × Nat)) (ws : List (List Nat)) {ps' : List (Nat × Nat)} {ws' : List (List Nat)}, Mt.scan wy p es fs ps ws = .ok (ps', ws') → ∀ z ∈ ws', z ∈ ws ∨ ∃ j, z = wy ++ [j] ∧ j < p + es.length
  | [], fs, p, ps, ws, ps', ws', h, z, hz => by
    simp only [Mt.scan, Except.ok.injEq, Prod.mk.injEq] at h
    exact .inl (h.2 ▸ hz)
  | e :: es, [], p, ps, ws, ps', ws', h, z, hz => by
    simp only [Mt.scan, Except.ok.injEq, Prod.mk.injEq] at h
    exact .inl (h.2 ▸ hz)
  | e :: es, f :: fs, p, ps, ws, ps', ws', h, z, hz => by
    unfold Mt.scan at h
    have nxt : ∀ ps, Mt.scan wy (p + 1) es fs ps ws = .ok (ps', ws') → z ∈ ws ∨ ∃ j, z = wy ++ [j] ∧ j < p + (e :: es).length := fun ps h => by
      rcases scan_ws es fs (p + 1) ps ws h z hz with h | ⟨j, h1, h2⟩
      · exact .inl h
      · exact .inr ⟨j, h1, by simp; omega⟩
    split at h
    · cases h
    · split at h
      · split at h
        · exact nxt _ h
        · rcases scan_ws es fs (p + 1) _ _ h z hz with h | ⟨j, h1, h2⟩
          · rcases List.mem_append.mp h with h | h
            · exact .inl h
            · rw [List.mem_singleton.mp h]
              exact .inr ⟨p, rfl, by simp⟩
          · exact .inr ⟨j, h1, by simp; omega⟩
      · exact nxt _ h
theorem row_le {t : Mt.Tb T} {n k w : Nat} (ht : TabOk n k w t) (i : Nat) : (Mt.row t i).length ≤ 3 := by
  by_cases h : i < t.length
  · rw [ht.row _ (Mt.row_mem h)]
    exact ht.kle
  · unfold Mt.row
    rw [List.getD_eq_getElem?_getD, List.getElem?_eq_none (by omega)]
    exact Nat.zero_le _
theorem way_b {t u : Mt.Tb T} {n k w : Nat} (ht : TabOk n k w t) : ∀ (f q : Nat) (ps : List (Nat × Nat)) (ws : List (List Nat)) (wy : List Nat), (∀ z ∈ ws, (∀ x ∈ z, x < 3) ∧ z.length ≤ q) → Mt.part t u f q ps ws = some wy → (∀ x ∈ wy, x < 3) ∧ wy.length ≤ q + f
  | 0, q, ps, ws, wy, hw, h => by simp [Mt.part] at h
  | f + 1, q, ps, ws, wy, hw, h => by
    have hq : (∀ x ∈ ws.getD q [], x < 3) ∧ (ws.getD q []).length ≤ q := by
      by_cases hl : q < ws.length
      · rw [List.getD_eq_getElem?_getD, List.getElem?_eq_getElem hl]
        exact hw _ (List.getElem_mem hl)
      · rw [List.getD_eq_getElem?_getD, List.getElem?_eq_none (by omega)]
        exact ⟨fun x hx => (nomatch hx), Nat.zero_le _⟩
    have snoc : ∀ j, j < 3 → (∀ x ∈ ws.getD q [] ++ [j], x < 3) ∧ (ws.getD q [] ++ [j]).length ≤ q + 1 := fun j hj => by
      refine ⟨fun x hx => ?_, by rw [List.length_append, List.length_singleton]; have := hq.2; omega⟩
      rcases List.mem_append.mp hx with h | h
      · exact hq.1 x h
      · rw [List.mem_singleton.mp h]
        exact hj
    have hr := row_le ht (ps.getD q (0, 0)).1
    unfold Mt.part at h
    split at h
    · cases h
    · split at h
      · rename_i w1 hs
        cases h
        obtain ⟨j, rfl, hj⟩ := scan_err _ _ _ _ _ hs
        obtain ⟨b1, b2⟩ := snoc j (by omega)
        exact ⟨b1, by omega⟩
      · rename_i ps' ws' hs
        have := way_b ht f (q + 1) ps' ws' wy (fun z hz => ?_) h
        · exact ⟨this.1, by omega⟩
        · rcases scan_ws _ _ _ _ _ hs z hz with h | ⟨j, rfl, hj⟩
          · obtain ⟨c1, c2⟩ := hw z h
            exact ⟨c1, by omega⟩
          · exact snoc j (by omega)
theorem way_sz {t u : Mt.Tb T} {n m k w w' : Nat} (ht : TabOk n k w t) (hu : TabOk m k w' u) : ∃ z, T.sz (wayT (Mt.parting t u 0 0)) = some z ∧ z ≤ lim := by
  cases hp : Mt.parting t u 0 0 with
  | none => exact ⟨4, rfl, by unfold lim; decide⟩
  | some wy =>
    unfold Mt.parting at hp
    have := nm_le ht hu
    rw [ht.len, hu.len] at hp
    obtain ⟨h1, h2⟩ := way_b ht _ 0 _ _ wy (fun z hz => by simp at hz; subst hz; exact ⟨fun x hx => (nomatch hx), Nat.le_refl _⟩) hp
    obtain ⟨z, hz, hle⟩ := szs_le (wy.map fun (i : Nat) => T.int (i : Nat)) (m := 2) fun v hv => by
      obtain ⟨i, hi, rfl⟩ := List.mem_map.mp hv
      have := h1 i hi
      exact ⟨2, by simp only [T.sz]; rw [if_pos ⟨by omega, by omega⟩], Nat.le_refl _⟩
    rw [List.length_map] at hle
    refine ⟨z + 3, by simp only [wayT, encW, T.sz, hz, Option.map_some], ?_⟩
    unfold lim
    omega
theorem like_way {t u : Mt.Tb T} {n m k w w' : Nat} (ht : TabOk n k w t) (hu : TabOk m k w' u) (M : Mem) : g__law_like [wayT (Mt.parting t u 0 0), wayT (Mt.parting t u 0 0)] M = .ok (.bl true) M := by
  obtain ⟨z, hz, hle⟩ := way_sz ht hu
  exact like_ok hz hle (wayT_pl _) (by decide) M
/-! ### the cells opened -/
theorem open_ok (ns : List Int) (hl : ns.length ≤ 63) : ∃ S : Sr, g__law_open_cells [.scr (ns.map T.int)] [] = .ok (.ref 0) (srcM S) ∧ S.cells.length ≤ 63 := by
  obtain ⟨s', M', e1, ⟨m, a, rfl, rfl⟩⟩ := for_run (x := ⟨ns.map T.int, none, []⟩) (G := gNm 2) (B := b1__law_open_cells)
    (fun _ s M => ∃ (m : Int) (a : Option T), s = [some (.scr (ns.map T.int)), some (.int m), a, none] ∧ M = []) rfl (ns.map T.int) 0 [some (.scr (ns.map T.int)), some (.int 11), none, none] [] (by
      rintro i y hy s M ⟨m, a, rfl, rfl⟩
      obtain ⟨c, _, rfl⟩ := List.mem_map.mp (List.mem_of_getElem? hy)
      refine ⟨_, [some (.scr (ns.map T.int)), some (.int ((m * 69069 + c * 31 + 5) % 2147483629)), some (.int c), none], [], rfl, ?_, _, _, rfl, rfl⟩
      unfold b1__law_open_cells
      simp only [fnRes, startS, fSeq, fNext, fIfS, fSet, fAsg, gNm, gNms, fPar, fPar3, fRet, fRetN, fDrop, fBreak, fFor, fWhile, fVar, fC, fB, fOp, fAnd, fOr, fNot, fAndV, fOrV, fNotV, fIf, fTup, fLst, fNew, aNil, aCons, aStar, fIx, fSl, oNone, oSome, fCB, fCall, fMt, fPut, fNeg, fChain, fLcG, fLc2G, fRevL, iSeq, iR1, iR2, iEnumF, o1, gYes, endL, Res.bind_ok, Res.st_ok, Res.noex_ok, SRes.seq_nx, SRes.seq_rt, SRes.seq_bk, SRes.turn_nx, SRes.turn_rt, SRes.turn_bk, SRes.res, List.map_cons, List.map_nil, List.length_cons, List.length_nil, List.cons_append, List.nil_append, List.append_nil, List.replicate, List.getElem?_cons_zero, List.getElem?_cons_succ, List.set_cons_zero, List.set_cons_succ, List.zip_cons_cons, List.foldl_cons, List.foldl_nil, List.zip_nil_left, Nat.reduceAdd, Nat.reduceSub, Nat.reduceMul, Nat.reduceLeDiff, Nat.reduceLT, Nat.reduceEqDiff, if_true, if_false, reduceIte, Bool.false_eq_true, wipeS, lim0, lim1, lim2, lim3]
      rw [i_mul _ _ _ (by simp [mulOk])]
      simp only [fnRes, startS, fSeq, fNext, fIfS, fSet, fAsg, gNm, gNms, fPar, fPar3, fRet, fRetN, fDrop, fBreak, fFor, fWhile, fVar, fC, fB, fOp, fAnd, fOr, fNot, fAndV, fOrV, fNotV, fIf, fTup, fLst, fNew, aNil, aCons, aStar, fIx, fSl, oNone, oSome, fCB, fCall, fMt, fPut, fNeg, fChain, fLcG, fLc2G, fRevL, iSeq, iR1, iR2, iEnumF, o1, gYes, endL, Res.bind_ok, Res.st_ok, Res.noex_ok, SRes.seq_nx, SRes.seq_rt, SRes.seq_bk, SRes.turn_nx, SRes.turn_rt, SRes.turn_bk, SRes.res, List.map_cons, List.map_nil, List.length_cons, List.length_nil, List.cons_append, List.nil_append, List.append_nil, List.replicate, List.getElem?_cons_zero, List.getElem?_cons_succ, List.set_cons_zero, List.set_cons_succ, List.zip_cons_cons, List.foldl_cons, List.foldl_nil, List.zip_nil_left, Nat.reduceAdd, Nat.reduceSub, Nat.reduceMul, Nat.reduceLeDiff, Nat.reduceLT, Nat.reduceEqDiff, if_true, if_false, reduceIte, Bool.false_eq_true, wipeS, lim0, lim1, lim2, lim3]
      rw [i_mul _ _ _ (by simp [mulOk])]
      simp only [fnRes, startS, fSeq, fNext, fIfS, fSet, fAsg, gNm, gNms, fPar, fPar3, fRet, fRetN, fDrop, fBreak, fFor, fWhile, fVar, fC, fB, fOp, fAnd, fOr, fNot, fAndV, fOrV, fNotV, fIf, fTup, fLst, fNew, aNil, aCons, aStar, fIx, fSl, oNone, oSome, fCB, fCall, fMt, fPut, fNeg, fChain, fLcG, fLc2G, fRevL, iSeq, iR1, iR2, iEnumF, o1, gYes, endL, Res.bind_ok, Res.st_ok, Res.noex_ok, SRes.seq_nx, SRes.seq_rt, SRes.seq_bk, SRes.turn_nx, SRes.turn_rt, SRes.turn_bk, SRes.res, List.map_cons, List.map_nil, List.length_cons, List.length_nil, List.cons_append, List.nil_append, List.append_nil, List.replicate, List.getElem?_cons_zero, List.getElem?_cons_succ, List.set_cons_zero, List.set_cons_succ, List.zip_cons_cons, List.foldl_cons, List.foldl_nil, List.zip_nil_left, Nat.reduceAdd, Nat.reduceSub, Nat.reduceMul, Nat.reduceLeDiff, Nat.reduceLT, Nat.reduceEqDiff, if_true, if_false, reduceIte, Bool.false_eq_true, wipeS, lim0, lim1, lim2, lim3, i_add, i_int]
      rw [i_mod _ _ _ (by decide)]
      simp only [fnRes, startS, fSeq, fNext, fIfS, fSet, fAsg, gNm, gNms, fPar, fPar3, fRet, fRetN, fDrop, fBreak, fFor, fWhile, fVar, fC, fB, fOp, fAnd, fOr, fNot, fAndV, fOrV, fNotV, fIf, fTup, fLst, fNew, aNil, aCons, aStar, fIx, fSl, oNone, oSome, fCB, fCall, fMt, fPut, fNeg, fChain, fLcG, fLc2G, fRevL, iSeq, iR1, iR2, iEnumF, o1, gYes, endL, Res.bind_ok, Res.st_ok, Res.noex_ok, SRes.seq_nx, SRes.seq_rt, SRes.seq_bk, SRes.turn_nx, SRes.turn_rt, SRes.turn_bk, SRes.res, List.map_cons, List.map_nil, List.length_cons, List.length_nil, List.cons_append, List.nil_append, List.append_nil, List.replicate, List.getElem?_cons_zero, List.getElem?_cons_succ, List.set_cons_zero, List.set_cons_succ, List.zip_cons_cons, List.foldl_cons, List.foldl_nil, List.zip_nil_left, Nat.reduceAdd, Nat.reduceSub, Nat.reduceMul, Nat.reduceLeDiff, Nat.reduceLT, Nat.reduceEqDiff, if_true, if_false, reduceIte, Bool.false_eq_true, wipeS, lim0, lim1, lim2, lim3]) ⟨11, none, rfl, rfl⟩
  obtain ⟨us, M2, e2, ⟨cs, rfl, rfl, hc⟩, _⟩ := lc_run (x := ⟨ns.map T.int, none, []⟩) (G := gNm 2) (te := e1__law_open_cells) (s := [some (.scr (ns.map T.int)), some (.int m), none, none])
    (fun i acc M => ∃ cs : List Int, M = [] ∧ acc = cs.map T.int ∧ cs.length = i) rfl (ns.map T.int) 0 [] [] (by
      rintro i y hy acc M ⟨cs, rfl, rfl, hc⟩
      obtain ⟨c, _, rfl⟩ := List.mem_map.mp (List.mem_of_getElem? hy)
      refine ⟨_, .int (if c < 0 then -c else c), [], rfl, rfl, cs ++ [if c < 0 then -c else c], rfl, by simp, by simp; omega⟩) ⟨[], rfl, rfl, rfl⟩ (by rw [List.length_map]; unfold lim; simp; omega)
  refine ⟨⟨cs.reverse, 1, m, 0⟩, ?_, by simp only [List.length_reverse, hc, List.length_map]; omega⟩
  unfold g__law_open_cells F__law_open_cells
  simp only [fnRes, startS, fSeq, fNext, fIfS, fSet, fAsg, gNm, gNms, fPar, fPar3, fRet, fRetN, fDrop, fBreak, fFor, fWhile, fVar, fC, fB, fOp, fAnd, fOr, fNot, fAndV, fOrV, fNotV, fIf, fTup, fLst, fNew, aNil, aCons, aStar, fIx, fSl, oNone, oSome, fCB, fCall, fMt, fPut, fNeg, fChain, fLcG, fLc2G, fRevL, iSeq, iR1, iR2, iEnumF, o1, gYes, endL, Res.bind_ok, Res.st_ok, Res.noex_ok, SRes.seq_nx, SRes.seq_rt, SRes.seq_bk, SRes.turn_nx, SRes.turn_rt, SRes.turn_bk, SRes.res, List.map_cons, List.map_nil, List.length_cons, List.length_nil, List.cons_append, List.nil_append, List.append_nil, List.replicate, List.getElem?_cons_zero, List.getElem?_cons_succ, List.set_cons_zero, List.set_cons_succ, List.zip_cons_cons, List.foldl_cons, List.foldl_nil, List.zip_nil_left, Nat.reduceAdd, Nat.reduceSub, Nat.reduceMul, Nat.reduceLeDiff, Nat.reduceLT, Nat.reduceEqDiff, if_true, if_false, reduceIte, Bool.false_eq_true, wipeS, lim0, lim1, lim2, lim3]
  rw [show srcOf [] (.scr (ns.map T.int)) = some ⟨ns.map T.int, none, []⟩ from rfl]
  simp only [fnRes, startS, fSeq, fNext, fIfS, fSet, fAsg, gNm, gNms, fPar, fPar3, fRet, fRetN, fDrop, fBreak, fFor, fWhile, fVar, fC, fB, fOp, fAnd, fOr, fNot, fAndV, fOrV, fNotV, fIf, fTup, fLst, fNew, aNil, aCons, aStar, fIx, fSl, oNone, oSome, fCB, fCall, fMt, fPut, fNeg, fChain, fLcG, fLc2G, fRevL, iSeq, iR1, iR2, iEnumF, o1, gYes, endL, Res.bind_ok, Res.st_ok, Res.noex_ok, SRes.seq_nx, SRes.seq_rt, SRes.seq_bk, SRes.turn_nx, SRes.turn_rt, SRes.turn_bk, SRes.res, List.map_cons, List.map_nil, List.length_cons, List.length_nil, List.cons_append, List.nil_append, List.append_nil, List.replicate, List.getElem?_cons_zero, List.getElem?_cons_succ, List.set_cons_zero, List.set_cons_succ, List.zip_cons_cons, List.foldl_cons, List.foldl_nil, List.zip_nil_left, Nat.reduceAdd, Nat.reduceSub, Nat.reduceMul, Nat.reduceLeDiff, Nat.reduceLT, Nat.reduceEqDiff, if_true, if_false, reduceIte, Bool.false_eq_true, wipeS, lim0, lim1, lim2, lim3]
  rw [e1]
  simp only [fnRes, startS, fSeq, fNext, fIfS, fSet, fAsg, gNm, gNms, fPar, fPar3, fRet, fRetN, fDrop, fBreak, fFor, fWhile, fVar, fC, fB, fOp, fAnd, fOr, fNot, fAndV, fOrV, fNotV, fIf, fTup, fLst, fNew, aNil, aCons, aStar, fIx, fSl, oNone, oSome, fCB, fCall, fMt, fPut, fNeg, fChain, fLcG, fLc2G, fRevL, iSeq, iR1, iR2, iEnumF, o1, gYes, endL, Res.bind_ok, Res.st_ok, Res.noex_ok, SRes.seq_nx, SRes.seq_rt, SRes.seq_bk, SRes.turn_nx, SRes.turn_rt, SRes.turn_bk, SRes.res, List.map_cons, List.map_nil, List.length_cons, List.length_nil, List.cons_append, List.nil_append, List.append_nil, List.replicate, List.getElem?_cons_zero, List.getElem?_cons_succ, List.set_cons_zero, List.set_cons_succ, List.zip_cons_cons, List.foldl_cons, List.foldl_nil, List.zip_nil_left, Nat.reduceAdd, Nat.reduceSub, Nat.reduceMul, Nat.reduceLeDiff, Nat.reduceLT, Nat.reduceEqDiff, if_true, if_false, reduceIte, Bool.false_eq_true, wipeS, lim0, lim1, lim2, lim3]
  rw [show srcOf [] (.scr (ns.map T.int)) = some ⟨ns.map T.int, none, []⟩ from rfl]
  simp only [fnRes, startS, fSeq, fNext, fIfS, fSet, fAsg, gNm, gNms, fPar, fPar3, fRet, fRetN, fDrop, fBreak, fFor, fWhile, fVar, fC, fB, fOp, fAnd, fOr, fNot, fAndV, fOrV, fNotV, fIf, fTup, fLst, fNew, aNil, aCons, aStar, fIx, fSl, oNone, oSome, fCB, fCall, fMt, fPut, fNeg, fChain, fLcG, fLc2G, fRevL, iSeq, iR1, iR2, iEnumF, o1, gYes, endL, Res.bind_ok, Res.st_ok, Res.noex_ok, SRes.seq_nx, SRes.seq_rt, SRes.seq_bk, SRes.turn_nx, SRes.turn_rt, SRes.turn_bk, SRes.res, List.map_cons, List.map_nil, List.length_cons, List.length_nil, List.cons_append, List.nil_append, List.append_nil, List.replicate, List.getElem?_cons_zero, List.getElem?_cons_succ, List.set_cons_zero, List.set_cons_succ, List.zip_cons_cons, List.foldl_cons, List.foldl_nil, List.zip_nil_left, Nat.reduceAdd, Nat.reduceSub, Nat.reduceMul, Nat.reduceLeDiff, Nat.reduceLT, Nat.reduceEqDiff, if_true, if_false, reduceIte, Bool.false_eq_true, wipeS, lim0, lim1, lim2, lim3]
  rw [e2]
  simp only [fnRes, startS, fSeq, fNext, fIfS, fSet, fAsg, gNm, gNms, fPar, fPar3, fRet, fRetN, fDrop, fBreak, fFor, fWhile, fVar, fC, fB, fOp, fAnd, fOr, fNot, fAndV, fOrV, fNotV, fIf, fTup, fLst, fNew, aNil, aCons, aStar, fIx, fSl, oNone, oSome, fCB, fCall, fMt, fPut, fNeg, fChain, fLcG, fLc2G, fRevL, iSeq, iR1, iR2, iEnumF, o1, gYes, endL, Res.bind_ok, Res.st_ok, Res.noex_ok, SRes.seq_nx, SRes.seq_rt, SRes.seq_bk, SRes.turn_nx, SRes.turn_rt, SRes.turn_bk, SRes.res, List.map_cons, List.map_nil, List.length_cons, List.length_nil, List.cons_append, List.nil_append, List.append_nil, List.replicate, List.getElem?_cons_zero, List.getElem?_cons_succ, List.set_cons_zero, List.set_cons_succ, List.zip_cons_cons, List.foldl_cons, List.foldl_nil, List.zip_nil_left, Nat.reduceAdd, Nat.reduceSub, Nat.reduceMul, Nat.reduceLeDiff, Nat.reduceLT, Nat.reduceEqDiff, if_true, if_false, reduceIte, Bool.false_eq_true, wipeS, lim0, lim1, lim2, lim3]
  have hd : fDisp [((fC (.str "cells")), (fRevL true (fVar 3))), ((fC (.str "left")), (fC (.int 1))), ((fC (.str "mixed")), (fVar 1)), ((fC (.str "turn")), (fC (.int 0)))] [some (.scr (ns.map T.int)), some (.int m), a, some (.lst (cs.map T.int))] [] = .ok (.ref 0) [.dk [(.inr "cells", .ref 1), (.inr "left", .int 1), (.inr "mixed", .int m), (.inr "turn", .int 0)], .lst (cs.map T.int).reverse] := by kernel_rfl
  rw [hd, ← List.map_reverse]
  rfl
end Fl
set_option Elab.async false
set_option linter.all false
set_option maxRecDepth 100000
set_option maxHeartbeats 4000000
/-! P21: the law holds of its mirror. -/
namespace Fl
open PySem PySem.Spec PyProof.Rows L2
theorem encT_inj {n m k k' w w' : Nat} {t u : Mt.Tb T} (ht : TabOk n k w t) (hu : TabOk m k' w' u) (h : encT t = encT u) : t = u := by
  unfold encT at h
  rw [T.tup.injEq] at h
  have go : ∀ (t u : Mt.Tb T), (∀ r ∈ t, ∀ e ∈ r, EntOk n w e) → (∀ r ∈ u, ∀ e ∈ r, EntOk m w' e) → t.map encL = u.map encL → t = u := by
    intro t
    induction t with
    | nil =>
      intro u _ _ h
      cases u with
      | nil => rfl
      | cons _ _ => simp at h
    | cons r t ih =>
      intro u h1 h2 h
      cases u with
      | nil => simp at h
      | cons s u =>
        rw [List.map_cons, List.map_cons, List.cons.injEq] at h
        rw [encL_inj (h1 r List.mem_cons_self) (h2 s List.mem_cons_self) h.1, ih u (fun r hr => h1 r (List.mem_cons_of_mem _ hr)) (fun r hr => h2 r (List.mem_cons_of_mem _ hr)) h.2]
  exact go t u ht.ent hu.ent h
section
variable (P : Program) (w0 : World)
noncomputable abbrev Mlt : GT := cln (g_least_table (cln (g_grouped P w0)))
noncomputable abbrev Mtp : GT := cln g_tables_parted
noncomputable abbrev Mpt : GT := cln g__law_parting
noncomputable abbrev Mlo : GT := cln (g__law_least_of Mpt)
noncomputable abbrev Mdl : GT := cln (g__law_draw_lines (g__law_draw_entry g__law_pick) g__law_pick)
noncomputable abbrev Msh : GT := cln (g__law_shuffled (cln (g__law_any_order g__law_pick)) g__law_pick)
noncomputable abbrev Mkr : GT := cln (g__law_known_right g__law_like GTab)
noncomputable abbrev Bl : FS := b1_law g__law_open_cells Mkr Mdl (Mlt P w0) Mtp g__law_pick Msh g__law_like GTab Mlo Mpt
noncomputable abbrev El : FE := e1_law g__law_open_cells Mkr Mdl (Mlt P w0) Mtp g__law_pick Msh g__law_like GTab Mlo Mpt
noncomputable abbrev Gl' : GT := g_law g__law_open_cells Mkr Mdl (Mlt P w0) Mtp g__law_pick Msh g__law_like GTab Mlo Mpt
theorem src_mc (S : Sr) : MemClo (srcM S) := src_clo S
theorem mlt_ok {n k w : Nat} {t : Mt.Tb T} (ht : TabOk n k w t) (S : Sr) : Mlt P w0 [encT t] (srcM S) = .ok (encT (Mt.lt t)) (srcM S) := lt_ok _ ht _ (src_mc S) (gr_ok P w0 ht _ (src_mc S))
theorem mlo_ok {n k w : Nat} {t : Mt.Tb T} (ht : TabOk n k w t) (S : Sr) : Mlo [encT t] (srcM S) = .ok (encT (Mt.lt t)) (srcM S) :=
  lo_ok _ ht _ (src_mc S) fun i j hi hj us hus => lp_ok _ ((src_mc S).snoc hus) ht ht hi hj
theorem pickR (S : Sr) (m : Int) (h0 : 0 ≤ m) (hm : m < 1000) (hS : S.cells.length < 900) : ∃ (r : Nat) (S' : Sr), g__law_pick [.ref 0, .int m] (srcM S) = .ok (.int r) (srcM S') ∧ (r : Int) < max 1 m ∧ S'.cells.length ≤ S.cells.length := by
  obtain ⟨r, S', e, h⟩ := pick_I S [] m h0 hm hS
  rw [List.append_nil, List.append_nil] at e
  exact ⟨r, S', e, h⟩
theorem after_draw {n m k w : Nat} {t u : Mt.Tb T} (ht : TabOk n k w t) (hu : TabOk m k w u) (S : Sr) (a y o3 d0 e0 f0 g0 : Option T) : ∃ x1 x2 : Option T,
    ((fSeq (fSet 5 (fCall (Mlt P w0) [] 1 (aCons (fVar 3) aNil)))
  (fSeq (fIfS (fOr (fNot (fB (fCall g__law_like [] 2 (aCons (fVar 5) (aCons (fCall Mlo [] 1 (aCons (fVar 3) aNil)) aNil))))) (fB (fOp oNe (fCall (Mlt P w0) [] 1 (aCons (fVar 5) aNil)) (fVar 5))))
  (fRet (fC (.bl false)))
  fNext)
  (fSeq (fIfS (fB (fOp oNe (fLcG false (iSeq (fLst (aCons (fVar 3) (aCons (fVar 5) (aCons (fVar 4) aNil))))) (gNm 9) gYes (El P w0) [9]) (fOp oMul (fLst (aCons (fC (.bl true)) aNil)) (fC (.int 3)))))
  (fRet (fC (.bl false)))
  fNext)
  (fSeq (fSet 6 (fCall Mtp [] 2 (aCons (fVar 3) (aCons (fVar 4) aNil))))
  (fSeq (fIfS (fOr (fNot (fB (fCall g__law_like [] 2 (aCons (fVar 6) (aCons (fCall Mpt [] 4 (aCons (fVar 3) (aCons (fC (.int 0)) (aCons (fVar 4) (aCons (fC (.int 0)) aNil))))) aNil))))) (fB (fOp oIsNot (fCall Mtp [] 2 (aCons (fVar 3) (aCons (fVar 5) aNil))) (fC .non))))
  (fRet (fC (.bl false)))
  fNext)
  (fIfS (fOr (fB (fOp oNe (fOp oIs (fVar 6) (fC .non)) (fOp oEq (fVar 5) (fCall (Mlt P w0) [] 1 (aCons (fVar 4) aNil))))) (fB (fOp oNe (fCall Mtp [] 2 (aCons (fVar 4) (aCons (fVar 3) aNil))) (fVar 6))))
  (fRet (fC (.bl false)))
  fNext)))))) : FS) [a, some (.ref 0), y, some (encT t), some (encT u), o3, d0, e0, f0, g0] (srcM S) = .nx [a, some (.ref 0), y, some (encT t), some (encT u), x1, x2, e0, f0, g0] (srcM S) := by
  have hlt := legal_least ht (Mt.cls_gi (wf_of ht))
  have hltu := legal_least hu (Mt.cls_gi (wf_of hu))
  have hlt : TabOk (Mt.lt t).length k w (Mt.lt t) := hlt
  have hltu : TabOk (Mt.lt u).length k w (Mt.lt u) := hltu
  have w1 := wf_of ht
  have w2 := wf_of hu
  have n1 : oNe (encT (Mt.lt t)) (encT (Mt.lt t)) (srcM S) = .ok (.bl false) (srcM S) := by
    have := pl_mono _ 5 64 (by decide) (tab_pl hlt.ent)
    rw [ne_pl this this, decide_eq_true rfl]
    rfl
  have lc := lc_map (x := ⟨[encT t, encT (Mt.lt t), encT u], none, []⟩) (G := gNm 9) (te := El P w0) (s := [a, some (.ref 0), y, some (encT t), some (encT u), some (encT (Mt.lt t)), d0, e0, f0, none]) (M := srcM S) (fun _ => .bl true) rfl [encT t, encT (Mt.lt t), encT u] (fun z hz => by
    refine ⟨_, rfl, ?_⟩
    simp only [List.mem_cons, List.not_mem_nil, or_false] at hz
    unfold El e1_law
    rcases hz with rfl | rfl | rfl
    · simp only [fnRes, startS, fSeq, fNext, fIfS, fSet, fAsg, gNm, gNms, fPar, fPar3, fRet, fRetN, fDrop, fBreak, fFor, fWhile, fVar, fC, fB, fOp, fAnd, fOr, fNot, fAndV, fOrV, fNotV, fIf, fTup, fLst, fNew, aNil, aCons, aStar, fIx, fSl, oNone, oSome, fCB, fCall, fMt, fPut, fNeg, fChain, fLcG, fLc2G, fRevL, iSeq, iR1, iR2, iEnumF, o1, gYes, endL, Res.bind_ok, Res.st_ok, Res.noex_ok, SRes.seq_nx, SRes.seq_rt, SRes.seq_bk, SRes.turn_nx, SRes.turn_rt, SRes.turn_bk, SRes.res, List.map_cons, List.map_nil, List.length_cons, List.length_nil, List.cons_append, List.nil_append, List.append_nil, List.replicate, List.getElem?_cons_zero, List.getElem?_cons_succ, List.set_cons_zero, List.set_cons_succ, List.zip_cons_cons, List.foldl_cons, List.foldl_nil, List.zip_nil_left, Nat.reduceAdd, Nat.reduceSub, Nat.reduceMul, Nat.reduceLeDiff, Nat.reduceLT, Nat.reduceEqDiff, if_true, if_false, reduceIte, Bool.false_eq_true, wipeS, lim0, lim1, lim2, lim3, istab_ok ht]
    · simp only [fnRes, startS, fSeq, fNext, fIfS, fSet, fAsg, gNm, gNms, fPar, fPar3, fRet, fRetN, fDrop, fBreak, fFor, fWhile, fVar, fC, fB, fOp, fAnd, fOr, fNot, fAndV, fOrV, fNotV, fIf, fTup, fLst, fNew, aNil, aCons, aStar, fIx, fSl, oNone, oSome, fCB, fCall, fMt, fPut, fNeg, fChain, fLcG, fLc2G, fRevL, iSeq, iR1, iR2, iEnumF, o1, gYes, endL, Res.bind_ok, Res.st_ok, Res.noex_ok, SRes.seq_nx, SRes.seq_rt, SRes.seq_bk, SRes.turn_nx, SRes.turn_rt, SRes.turn_bk, SRes.res, List.map_cons, List.map_nil, List.length_cons, List.length_nil, List.cons_append, List.nil_append, List.append_nil, List.replicate, List.getElem?_cons_zero, List.getElem?_cons_succ, List.set_cons_zero, List.set_cons_succ, List.zip_cons_cons, List.foldl_cons, List.foldl_nil, List.zip_nil_left, Nat.reduceAdd, Nat.reduceSub, Nat.reduceMul, Nat.reduceLeDiff, Nat.reduceLT, Nat.reduceEqDiff, if_true, if_false, reduceIte, Bool.false_eq_true, wipeS, lim0, lim1, lim2, lim3, istab_ok hlt]
    · simp only [fnRes, startS, fSeq, fNext, fIfS, fSet, fAsg, gNm, gNms, fPar, fPar3, fRet, fRetN, fDrop, fBreak, fFor, fWhile, fVar, fC, fB, fOp, fAnd, fOr, fNot, fAndV, fOrV, fNotV, fIf, fTup, fLst, fNew, aNil, aCons, aStar, fIx, fSl, oNone, oSome, fCB, fCall, fMt, fPut, fNeg, fChain, fLcG, fLc2G, fRevL, iSeq, iR1, iR2, iEnumF, o1, gYes, endL, Res.bind_ok, Res.st_ok, Res.noex_ok, SRes.seq_nx, SRes.seq_rt, SRes.seq_bk, SRes.turn_nx, SRes.turn_rt, SRes.turn_bk, SRes.res, List.map_cons, List.map_nil, List.length_cons, List.length_nil, List.cons_append, List.nil_append, List.append_nil, List.replicate, List.getElem?_cons_zero, List.getElem?_cons_succ, List.set_cons_zero, List.set_cons_succ, List.zip_cons_cons, List.foldl_cons, List.foldl_nil, List.zip_nil_left, Nat.reduceAdd, Nat.reduceSub, Nat.reduceMul, Nat.reduceLeDiff, Nat.reduceLT, Nat.reduceEqDiff, if_true, if_false, reduceIte, Bool.false_eq_true, wipeS, lim0, lim1, lim2, lim3, istab_ok hu]) (show 3 < lim by unfold lim; decide)
  have m3 : oMul (.lst [.bl true]) (.int 3) (srcM S) = .ok (.lst [.bl true, .bl true, .bl true]) (srcM S) := by kernel_rfl
  have n3 : oNe (.lst [.bl true, .bl true, .bl true]) (.lst [.bl true, .bl true, .bl true]) (srcM S) = .ok (.bl false) (srcM S) := by kernel_rfl
  have t1 : Mtp [encT t, encT u] (srcM S) = .ok (wayT (Mt.parting t u 0 0)) (srcM S) := tp_ok _ (src_mc S) ht hu
  have t2 : Mtp [encT t, encT (Mt.lt t)] (srcM S) = .ok .non (srcM S) := by
    have := tp_ok _ (src_mc S) ht hlt
    rw [Mt.law3 w1] at this
    exact this
  have t3 : Mtp [encT u, encT t] (srcM S) = .ok (wayT (Mt.parting t u 0 0)) (srcM S) := by
    have := tp_ok _ (src_mc S) hu ht
    rw [Mt.law5] at this
    exact this
  have t4 : Mpt [encT t, .int 0, encT u, .int 0] (srcM S) = .ok (wayT (Mt.parting t u 0 0)) (srcM S) := lp_ok (i := 0) (j := 0) _ (src_mc S) ht hu ht.pos hu.pos
  have isn : oIsNot .non .non (srcM S) = .ok (.bl false) (srcM S) := rfl
  have is1 : oIs (wayT (Mt.parting t u 0 0)) .non (srcM S) = .ok (.bl (decide (Mt.parting t u 0 0 = none))) (srcM S) := by
    cases Mt.parting t u 0 0 with
    | none => rfl
    | some v => rfl
  have eq1 : oEq (encT (Mt.lt t)) (encT (Mt.lt u)) (srcM S) = .ok (.bl (decide (Mt.parting t u 0 0 = none))) (srcM S) := by
    rw [eq_pl (pl_mono _ 5 64 (by decide) (tab_pl hlt.ent)) (pl_mono _ 5 64 (by decide) (tab_pl hltu.ent))]
    congr 2
    rw [Bool.eq_iff_iff, decide_eq_true_eq, decide_eq_true_eq, Mt.law4 w1 w2]
    exact ⟨fun h => encT_inj hlt hltu h, fun h => by rw [h]⟩
  have nb : ∀ b : Bool, oNe (.bl b) (.bl b) (srcM S) = .ok (.bl false) (srcM S) := fun b => by cases b <;> kernel_rfl
  have nw : oNe (wayT (Mt.parting t u 0 0)) (wayT (Mt.parting t u 0 0)) (srcM S) = .ok (.bl false) (srcM S) := by
    have := pl_mono _ 1 64 (by decide) (wayT_pl (Mt.parting t u 0 0))
    rw [ne_pl this this, decide_eq_true rfl]
    rfl
  have mm1 := mlt_ok P w0 ht S
  have mm2 : Mlt P w0 [encT (Mt.lt t)] (srcM S) = .ok (encT (Mt.lt t)) (srcM S) := by
    have := mlt_ok P w0 hlt S
    rw [Mt.law2 w1] at this
    exact this
  have mm3 := mlt_ok P w0 hu S
  have mm4 := mlo_ok ht S
  have lk1 := like_tab hlt (srcM S)
  have lk2 := like_way ht hu (srcM S)
  refine ⟨some (encT (Mt.lt t)), some (wayT (Mt.parting t u 0 0)), ?_⟩
  simp only [fnRes, startS, fSeq, fNext, fIfS, fSet, fAsg, gNm, gNms, fPar, fPar3, fRet, fRetN, fDrop, fBreak, fFor, fWhile, fVar, fC, fB, fOp, fAnd, fOr, fNot, fAndV, fOrV, fNotV, fIf, fTup, fLst, fNew, aNil, aCons, aStar, fIx, fSl, oNone, oSome, fCB, fCall, fMt, fPut, fNeg, fChain, fLcG, fLc2G, fRevL, iSeq, iR1, iR2, iEnumF, o1, gYes, endL, Res.bind_ok, Res.st_ok, Res.noex_ok, SRes.seq_nx, SRes.seq_rt, SRes.seq_bk, SRes.turn_nx, SRes.turn_rt, SRes.turn_bk, SRes.res, List.map_cons, List.map_nil, List.length_cons, List.length_nil, List.cons_append, List.nil_append, List.append_nil, List.replicate, List.getElem?_cons_zero, List.getElem?_cons_succ, List.set_cons_zero, List.set_cons_succ, List.zip_cons_cons, List.foldl_cons, List.foldl_nil, List.zip_nil_left, Nat.reduceAdd, Nat.reduceSub, Nat.reduceMul, Nat.reduceLeDiff, Nat.reduceLT, Nat.reduceEqDiff, if_true, if_false, reduceIte, Bool.false_eq_true, wipeS, lim0, lim1, lim2, lim3, mm1, mm4, lk1, Bool.not_true, mm2, n1]
  rw [show srcOf (srcM S) (.lst [encT t, encT (Mt.lt t), encT u]) = some ⟨[encT t, encT (Mt.lt t), encT u], none, []⟩ from rfl]
  simp only [fnRes, startS, fSeq, fNext, fIfS, fSet, fAsg, gNm, gNms, fPar, fPar3, fRet, fRetN, fDrop, fBreak, fFor, fWhile, fVar, fC, fB, fOp, fAnd, fOr, fNot, fAndV, fOrV, fNotV, fIf, fTup, fLst, fNew, aNil, aCons, aStar, fIx, fSl, oNone, oSome, fCB, fCall, fMt, fPut, fNeg, fChain, fLcG, fLc2G, fRevL, iSeq, iR1, iR2, iEnumF, o1, gYes, endL, Res.bind_ok, Res.st_ok, Res.noex_ok, SRes.seq_nx, SRes.seq_rt, SRes.seq_bk, SRes.turn_nx, SRes.turn_rt, SRes.turn_bk, SRes.res, List.map_cons, List.map_nil, List.length_cons, List.length_nil, List.cons_append, List.nil_append, List.append_nil, List.replicate, List.getElem?_cons_zero, List.getElem?_cons_succ, List.set_cons_zero, List.set_cons_succ, List.zip_cons_cons, List.foldl_cons, List.foldl_nil, List.zip_nil_left, Nat.reduceAdd, Nat.reduceSub, Nat.reduceMul, Nat.reduceLeDiff, Nat.reduceLT, Nat.reduceEqDiff, if_true, if_false, reduceIte, Bool.false_eq_true, wipeS, lim0, lim1, lim2, lim3]
  rw [lc]
  simp only [fnRes, startS, fSeq, fNext, fIfS, fSet, fAsg, gNm, gNms, fPar, fPar3, fRet, fRetN, fDrop, fBreak, fFor, fWhile, fVar, fC, fB, fOp, fAnd, fOr, fNot, fAndV, fOrV, fNotV, fIf, fTup, fLst, fNew, aNil, aCons, aStar, fIx, fSl, oNone, oSome, fCB, fCall, fMt, fPut, fNeg, fChain, fLcG, fLc2G, fRevL, iSeq, iR1, iR2, iEnumF, o1, gYes, endL, Res.bind_ok, Res.st_ok, Res.noex_ok, SRes.seq_nx, SRes.seq_rt, SRes.seq_bk, SRes.turn_nx, SRes.turn_rt, SRes.turn_bk, SRes.res, List.map_cons, List.map_nil, List.length_cons, List.length_nil, List.cons_append, List.nil_append, List.append_nil, List.replicate, List.getElem?_cons_zero, List.getElem?_cons_succ, List.set_cons_zero, List.set_cons_succ, List.zip_cons_cons, List.foldl_cons, List.foldl_nil, List.zip_nil_left, Nat.reduceAdd, Nat.reduceSub, Nat.reduceMul, Nat.reduceLeDiff, Nat.reduceLT, Nat.reduceEqDiff, if_true, if_false, reduceIte, Bool.false_eq_true, wipeS, lim0, lim1, lim2, lim3, m3, n3, t1, t4, lk2, Bool.not_true, t2, isn, is1, mm3, eq1, nb, t3, nw]
/-- a turn of the law -/
theorem turn_ok (S : Sr) (hS : S.cells.length < 900) (a y b0 b1 b2 b3 b4 b5 b6 : Option T) : ∃ (S' : Sr) (x0 x1 x2 x3 x4 x5 x6 : Option T), Bl P w0 [a, some (.ref 0), y, b0, b1, b2, b3, b4, b5, b6] (srcM S) = .nx [a, some (.ref 0), y, x0, x1, x2, x3, x4, x5, x6] (srcM S') ∧ S'.cells.length ≤ S.cells.length := by
  obtain ⟨r1, S1, e1, h1, q1⟩ := pickR S 3 (by decide) (by decide) hS
  obtain ⟨r2, S2, e2, h2, q2⟩ := pickR S1 3 (by decide) (by decide) (by omega)
  obtain ⟨r3, S3, e3, h3, q3⟩ := pickR S2 6 (by decide) (by decide) (by omega)
  have c1 : (1 : Int) + (r1 : Int) = ((r1 + 1 : Nat) : Int) := by omega
  have c3 : (1 : Int) + (r3 : Int) = ((r3 + 1 : Nat) : Int) := by omega
  obtain ⟨t, S4, e4, ht, q4⟩ := lines_ok S3 (r3 + 1) (r1 + 1) r2 (by omega) (by omega) (by omega) (by omega) (by omega) (by omega)
  obtain ⟨r5, S5, e5, h5, q5⟩ := pickR S4 5 (by decide) (by decide) (by omega)
  have c5 : (1 : Int) + (r5 : Int) = ((r5 + 1 : Nat) : Int) := by omega
  obtain ⟨u1, S6, e6, hu1, q6⟩ := lines_ok S5 (r5 + 1) (r1 + 1) r2 (by omega) (by omega) (by omega) (by omega) (by omega) (by omega)
  obtain ⟨u2, S7, e7, hu2, q7⟩ := shuf_ok S6 (r3 + 1) (r1 + 1) r2 t ht (by omega) (by omega)
  obtain ⟨r8, S8, e8, h8, q8⟩ := pickR S7 2 (by decide) (by decide) (by omega)
  obtain ⟨m, u, hu, hix⟩ : ∃ (m : Nat) (u : Mt.Tb T), TabOk m (r1 + 1) r2 u ∧ oIx (.lst [encT u1, encT u2]) (.int (r8 : Nat)) (srcM S8) = .ok (encT u) (srcM S8) := by
    have : r8 = 0 ∨ r8 = 1 := by omega
    rcases this with rfl | rfl
    · exact ⟨_, u1, hu1, rfl⟩
    · exact ⟨_, u2, hu2, rfl⟩
  obtain ⟨x1, x2, e9⟩ := after_draw P w0 ht hu S8 a y b2 b3 (some (.int ((r1 + 1 : Nat) : Int))) (some (.int (r2 : Nat))) b6
  refine ⟨S8, some (encT t), some (encT u), x1, x2, some (.int ((r1 + 1 : Nat) : Int)), some (.int (r2 : Nat)), b6, ?_, by omega⟩
  unfold Bl b1_law
  rw [← e9]
  simp only [fnRes, startS, fSeq, fNext, fIfS, fSet, fAsg, gNm, gNms, fPar, fPar3, fRet, fRetN, fDrop, fBreak, fFor, fWhile, fVar, fC, fB, fOp, fAnd, fOr, fNot, fAndV, fOrV, fNotV, fIf, fTup, fLst, fNew, aNil, aCons, aStar, fIx, fSl, oNone, oSome, fCB, fCall, fMt, fPut, fNeg, fChain, fLcG, fLc2G, fRevL, iSeq, iR1, iR2, iEnumF, o1, gYes, endL, Res.bind_ok, Res.st_ok, Res.noex_ok, SRes.seq_nx, SRes.seq_rt, SRes.seq_bk, SRes.turn_nx, SRes.turn_rt, SRes.turn_bk, SRes.res, List.map_cons, List.map_nil, List.length_cons, List.length_nil, List.cons_append, List.nil_append, List.append_nil, List.replicate, List.getElem?_cons_zero, List.getElem?_cons_succ, List.set_cons_zero, List.set_cons_succ, List.zip_cons_cons, List.foldl_cons, List.foldl_nil, List.zip_nil_left, Nat.reduceAdd, Nat.reduceSub, Nat.reduceMul, Nat.reduceLeDiff, Nat.reduceLT, Nat.reduceEqDiff, if_true, if_false, reduceIte, Bool.false_eq_true, wipeS, lim0, lim1, lim2, lim3, e1, i_add, e2, e3, c1, c3, e4, e5, c5, e6, e7, e8, hix]
theorem law_ok (ns : List Int) (hl : ns.length ≤ 63) : ∃ M, Gl' P w0 [.scr (ns.map T.int)] [] = .ok (.bl true) M := by
  obtain ⟨S, e1, hS⟩ := open_ok ns hl
  have e2 : Mkr [] (srcM S) = .ok (.bl true) (srcM S) := cln_ok (kr_ok S) rfl (.same trivial) (src_clo S)
  obtain ⟨s', M', e3, _⟩ := for_run (x := ⟨rangeT 0 5, none, []⟩) (G := gNm 2) (B := Bl P w0)
    (fun _ s M => ∃ (S' : Sr) (y x0 x1 x2 x3 x4 x5 x6 : Option T), s = [some (.scr (ns.map T.int)), some (.ref 0), y, x0, x1, x2, x3, x4, x5, x6] ∧ M = srcM S' ∧ S'.cells.length < 900) rfl (rangeT 0 5) 0 [some (.scr (ns.map T.int)), some (.ref 0), none, none, none, none, none, none, none, none] (srcM S) (by
      rintro i y hy s M ⟨S', y0, x0, x1, x2, x3, x4, x5, x6, rfl, rfl, hS'⟩
      obtain ⟨S2, z0, z1, z2, z3, z4, z5, z6, f1, f2⟩ := turn_ok P w0 S' hS' (some (.scr (ns.map T.int))) (some y) x0 x1 x2 x3 x4 x5 x6
      exact ⟨_, _, _, rfl, f1, S2, some y, z0, z1, z2, z3, z4, z5, z6, rfl, rfl, by omega⟩) ⟨S, none, none, none, none, none, none, none, none, rfl, rfl, by omega⟩
  refine ⟨M', ?_⟩
  unfold Gl' g_law F_law
  simp only [fnRes, startS, fSeq, fNext, fIfS, fSet, fAsg, gNm, gNms, fPar, fPar3, fRet, fRetN, fDrop, fBreak, fFor, fWhile, fVar, fC, fB, fOp, fAnd, fOr, fNot, fAndV, fOrV, fNotV, fIf, fTup, fLst, fNew, aNil, aCons, aStar, fIx, fSl, oNone, oSome, fCB, fCall, fMt, fPut, fNeg, fChain, fLcG, fLc2G, fRevL, iSeq, iR1, iR2, iEnumF, o1, gYes, endL, Res.bind_ok, Res.st_ok, Res.noex_ok, SRes.seq_nx, SRes.seq_rt, SRes.seq_bk, SRes.turn_nx, SRes.turn_rt, SRes.turn_bk, SRes.res, List.map_cons, List.map_nil, List.length_cons, List.length_nil, List.cons_append, List.nil_append, List.append_nil, List.replicate, List.getElem?_cons_zero, List.getElem?_cons_succ, List.set_cons_zero, List.set_cons_succ, List.zip_cons_cons, List.foldl_cons, List.foldl_nil, List.zip_nil_left, Nat.reduceAdd, Nat.reduceSub, Nat.reduceMul, Nat.reduceLeDiff, Nat.reduceLT, Nat.reduceEqDiff, if_true, if_false, reduceIte, Bool.false_eq_true, wipeS, lim0, lim1, lim2, lim3, e1, e2, Bool.not_true]
  rw [show (if spanOk 0 5 = true then Res.ok (⟨rangeT 0 (5 : Int).toNat, none, []⟩ : Src) (srcM S) else .stuck) = .ok ⟨rangeT 0 5, none, []⟩ (srcM S) from rangeS (n := 5) (by decide) (by decide) _]
  simp only [fnRes, startS, fSeq, fNext, fIfS, fSet, fAsg, gNm, gNms, fPar, fPar3, fRet, fRetN, fDrop, fBreak, fFor, fWhile, fVar, fC, fB, fOp, fAnd, fOr, fNot, fAndV, fOrV, fNotV, fIf, fTup, fLst, fNew, aNil, aCons, aStar, fIx, fSl, oNone, oSome, fCB, fCall, fMt, fPut, fNeg, fChain, fLcG, fLc2G, fRevL, iSeq, iR1, iR2, iEnumF, o1, gYes, endL, Res.bind_ok, Res.st_ok, Res.noex_ok, SRes.seq_nx, SRes.seq_rt, SRes.seq_bk, SRes.turn_nx, SRes.turn_rt, SRes.turn_bk, SRes.res, List.map_cons, List.map_nil, List.length_cons, List.length_nil, List.cons_append, List.nil_append, List.append_nil, List.replicate, List.getElem?_cons_zero, List.getElem?_cons_succ, List.set_cons_zero, List.set_cons_succ, List.zip_cons_cons, List.foldl_cons, List.foldl_nil, List.zip_nil_left, Nat.reduceAdd, Nat.reduceSub, Nat.reduceMul, Nat.reduceLeDiff, Nat.reduceLT, Nat.reduceEqDiff, if_true, if_false, reduceIte, Bool.false_eq_true, wipeS, lim0, lim1, lim2, lim3]
  rw [e3]
  simp only [fnRes, startS, fSeq, fNext, fIfS, fSet, fAsg, gNm, gNms, fPar, fPar3, fRet, fRetN, fDrop, fBreak, fFor, fWhile, fVar, fC, fB, fOp, fAnd, fOr, fNot, fAndV, fOrV, fNotV, fIf, fTup, fLst, fNew, aNil, aCons, aStar, fIx, fSl, oNone, oSome, fCB, fCall, fMt, fPut, fNeg, fChain, fLcG, fLc2G, fRevL, iSeq, iR1, iR2, iEnumF, o1, gYes, endL, Res.bind_ok, Res.st_ok, Res.noex_ok, SRes.seq_nx, SRes.seq_rt, SRes.seq_bk, SRes.turn_nx, SRes.turn_rt, SRes.turn_bk, SRes.res, List.map_cons, List.map_nil, List.length_cons, List.length_nil, List.cons_append, List.nil_append, List.append_nil, List.replicate, List.getElem?_cons_zero, List.getElem?_cons_succ, List.set_cons_zero, List.set_cons_succ, List.zip_cons_cons, List.foldl_cons, List.foldl_nil, List.zip_nil_left, Nat.reduceAdd, Nat.reduceSub, Nat.reduceMul, Nat.reduceLeDiff, Nat.reduceLT, Nat.reduceEqDiff, if_true, if_false, reduceIte, Bool.false_eq_true, wipeS, lim0, lim1, lim2, lim3]
end
section
variable {P : Program} {w : World} {K : PySem.W.Frag} {mg : Str → Option Value} {base : Heap}
theorem all_ok (tp : Top K mg) : FnT P w K mg base 12 "law" ["_law_script"] (Gl' P w) := by
  have a1 := ok_is_number (P := P) (w := w) (base := base) tp
  have a2 := ok_is_word (P := P) (w := w) (base := base) tp
  have a3 := ok_is_told (P := P) (w := w) (base := base) tp a2 a1
  have a4 := ok_is_entry (P := P) (w := w) (base := base) tp a1 a3
  have a5 := ok_widths (P := P) (w := w) (base := base) tp
  have a6 := ok_is_table (P := P) (w := w) (base := base) tp a5 a4
  have a7 := (ok_grouped (P := P) (w := w) (base := base) tp).cln
  have a8 := (ok_least_table (P := P) (w := w) (base := base) tp a7).cln
  have a9 := (ok_tables_parted (P := P) (w := w) (base := base) tp).cln
  have b1 := ok__law_open_cells (P := P) (w := w) (base := base) tp
  have b2 := ok__law_pick (P := P) (w := w) (base := base) tp
  have b3 := (ok__law_any_order (P := P) (w := w) (base := base) tp b2).cln
  have b4 := ok__law_like (P := P) (w := w) (base := base) tp
  have b5 := ok__law_draw_entry (P := P) (w := w) (base := base) tp b2
  have b6 := (ok__law_draw_lines (P := P) (w := w) (base := base) tp b5 b2).cln
  have b7 := (ok__law_parting (P := P) (w := w) (base := base) tp).cln
  have b8 := (ok__law_least_of (P := P) (w := w) (base := base) tp b7).cln
  have b9 := (ok__law_shuffled (P := P) (w := w) (base := base) tp b3 b2).cln
  have c1 := (ok__law_known_right (P := P) (w := w) (base := base) tp b4 a6).cln
  exact ok_law tp b1 c1 b6 a8 a9 b2 b9 b4 a6 b8 b7
end
end Fl
set_option Elab.async false
set_option linter.all false
set_option maxRecDepth 100000
set_option maxHeartbeats 4000000
open PySem PySem.W PyProof.Rows
set_option maxHeartbeats 0 in
theorem PySem.Challenge.cw_tickworks_k86_least_tables_and_parting_r_holds : PySem.Challenge.rw_tickworks_k86_least_tables_and_parting_r.Holds := by
  w_on; o_law; k_head; (case hw => w_witness2)
  k_fill
  refine Fl.walk_T (l := PySem.Challenge.rw_tickworks_k86_least_tables_and_parting_r) (n := 63) (k := 12) (x := "_law_script") (g := fun w => Fl.Gl' (PySem.Challenge.rw_tickworks_k86_least_tables_and_parting_r).prog w) rfl (by decide) rfl ⟨rfl, by decide, by decide⟩ (fun w h Y => PySem.W.kIn_of Y) ?F ?L
  case L => exact fun w ns h => Fl.law_ok _ w ns h
  case F =>
    intro w mg fa h KX G hmg
    refine' Fl.all_top KX G hmg ?a0 ?l0 ?c0 ?k0 ?a1 ?l1 ?c1 ?k1 ?a2 ?l2 ?c2 ?k2 ?a3 ?l3 ?c3 ?k3 ?a4 ?l4 ?c4 ?k4 ?a5 ?l5 ?c5 ?k5 ?a6 ?l6 ?c6 ?k6 ?a7 ?l7 ?c7 ?k7 ?a8 ?l8 ?c8 ?k8 ?a9 ?l9 ?c9 ?k9 ?a10 ?l10 ?c10 ?k10 ?a11 ?l11 ?c11 ?k11 ?a12 ?l12 ?c12 ?k12 ?a13 ?l13 ?c13 ?k13 ?a14 ?l14 ?c14 ?k14 ?a15 ?l15 ?c15 ?k15 ?a16 ?l16 ?c16 ?k16 ?a17 ?l17 ?c17 ?k17 ?a18 ?l18 ?c18 ?k18 ?a19 ?l19 ?c19 ?k19 ?z_abs ?z_all ?z_bool ?z_enumerate ?z_int ?z_isinstance ?z_len ?z_list ?z_range ?z_repr ?z_set ?z_str ?z_tuple ?g_BAD_WORDS ?h_BAD_WORDS ?g_LETTERS ?g_MOST_COUNT ?g_MOST_LETTERS (fun tp base => Fl.all_ok tp)
    (case a0 => k_is); (case l0 => k_is); (case c0 => k_is); (case k0 => k_is); (case a1 => k_is); (case l1 => k_is); (case c1 => k_is); (case k1 => k_is); (case a2 => k_is); (case l2 => k_is); (case c2 => k_is); (case k2 => k_is); (case a3 => k_is); (case l3 => k_is); (case c3 => k_is); (case k3 => k_is); (case a4 => k_is); (case l4 => k_is); (case c4 => k_is); (case k4 => k_is); (case a5 => k_is); (case l5 => k_is); (case c5 => k_is); (case k5 => k_is); (case a6 => k_is); (case l6 => k_is); (case c6 => k_is); (case k6 => k_is); (case a7 => k_is); (case l7 => k_is); (case c7 => k_is); (case k7 => k_is); (case a8 => k_is); (case l8 => k_is); (case c8 => k_is); (case k8 => k_is); (case a9 => k_is); (case l9 => k_is); (case c9 => k_is); (case k9 => k_is); (case a10 => k_is); (case l10 => k_is); (case c10 => k_is); (case k10 => k_is); (case a11 => k_is); (case l11 => k_is); (case c11 => k_is); (case k11 => k_is); (case a12 => k_is); (case l12 => k_is); (case c12 => k_is); (case k12 => k_is); (case a13 => k_is); (case l13 => k_is); (case c13 => k_is); (case k13 => k_is); (case a14 => k_is); (case l14 => k_is); (case c14 => k_is); (case k14 => k_is); (case a15 => k_is); (case l15 => k_is); (case c15 => k_is); (case k15 => k_is); (case a16 => k_is); (case l16 => k_is); (case c16 => k_is); (case k16 => k_is); (case a17 => k_is); (case l17 => k_is); (case c17 => k_is); (case k17 => k_is); (case a18 => k_is); (case l18 => k_is); (case c18 => k_is); (case k18 => k_is); (case a19 => k_is); (case l19 => k_is); (case c19 => k_is); (case k19 => k_is); (case z_abs => k_is); (case z_all => k_is); (case z_bool => k_is); (case z_enumerate => k_is); (case z_int => k_is); (case z_isinstance => k_is); (case z_len => k_is); (case z_list => k_is); (case z_range => k_is); (case z_repr => k_is); (case z_set => k_is); (case z_str => k_is); (case z_tuple => k_is); (case g_BAD_WORDS => k_is); (case h_BAD_WORDS => k_is); (case g_LETTERS => k_is); (case g_MOST_COUNT => k_is); (case g_MOST_LETTERS => k_is)
