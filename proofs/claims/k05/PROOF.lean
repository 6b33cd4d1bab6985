import PyProof.Rows.All
import Wide.All
import OpenK.AllK
import Wide.FinOn
import HandS.ForMost
import HandS.Exc
import HandS.TupAny
import HandS.TupMul
import HandS.Flow
import HandS.Style
import HandS.Deep
import HandS.Lambda
import HandS.HeadHook4
import KE.KDictKeyed
import KE.KeyNested
import HandS.Wide
import HandS.Text
import KE.DataEq
import KE.DataAny
import HandS.Conv
import HandS.SortInts
import KE.KTupSum
import KE.DataMinMax
import KE.GoesNew
import KE.GoesMore
import KE.GoesEnum
import HandS.Zip
import HandS.More
import HandS.ExcInit
import HandS.ExcField
import KE.KRevSl
import KE.SortData
import PyProof.TupleOfSeq
import HandS.Set
import PyProof.Rows.SetFrom
import HandS.SetFor
import HandS.Strs
import HandS.TupLen
import HandS.DictTup
import HandS.DictComp
import KE.KDictSum
import HandS.Defaults
import HandS.HeadHook1
import HandS.HeadHook2
import HandS.HeadEnd
import HandS.ExcSuper
import KE.KExcSuper
import KE.KSuper
import HandS.HeadWalk
import KE.KNestM
import KE.KStateDown
import HandS.Base
import HandS.Call
import HandS.Ends
import HandS.Words
import HandS.WordsExc
import HandS.Head0
import HandS.Head1
import HandS.Head2
import PySem.Challenge.RW_secrethall_k05_whole_small_groups
set_option Elab.async false
set_option linter.all false
set_option maxRecDepth 100000
set_option maxHeartbeats 1000000
/-! D layer 1: values, slots, the state relation. -/
namespace L2.DL
open PySem PySem.Spec PyProof.Rows
/-- the tables of code objects that are told of -/
class TabL where
  T : List (Addr × Str)
  PW : Option (Program × World)
variable [TabL]

/-- results of the pure run -/
inductive R (α : Type) where
  | ok (a : α)
  | err (c : Str)
  | stuck
abbrev D := PyData
/-- the draws' list: the script, the place, what is left of the number, the seed -/
structure Dr where
  scr : List Int
  pos : Int
  cur : Int
  seed : Int
/-- what a slot holds: nothing, a value that stands, a list of this def's own that it changes (lk: not now), the draws -/
inductive Sl where
  | no
  | val (d : D)
  | lst (lk : Bool) (xs : List D)
  | drw
  | scr (ns : List Int)
  | dct (kvs : List (D × D))
abbrev En := List Sl

/-! a value that reads as data; lists stand at tracked addresses -/
mutual
inductive Dv (K : PySem.W.Frag) (H : Hp) : V → D → Prop
  | non : Dv K H .non .none
  | bl (b : Bool) : Dv K H (.bl b) (.bool b)
  | int (i : Int) : Dv K H (.int i) (.int i)
  | str (x : Str) : Dv K H (.str x) (.str x)
  | lst {a : Addr} {xs : List V} {ds : List D} : H a = some (.lst xs) → DvAll K H xs ds → Dv K H (.ref a) (.list ds)
  | tup {a : Addr} {xs : List V} {ds : List D} : SqT K H a xs → DvAll K H xs ds → Dv K H (.ref a) (.tuple ds)
inductive DvAll (K : PySem.W.Frag) (H : Hp) : List V → List D → Prop
  | nil : DvAll K H [] []
  | cons {v : V} {vs : List V} {d : D} {ds : List D} : Dv K H v d → DvAll K H vs ds → DvAll K H (v :: vs) (d :: ds)
end
mutual
theorem Dv.dp {K : PySem.W.Frag} {H : Hp} : ∀ {v : V} {d : D}, Dv K H v d → Dp K H v d
  | _, _, .non => .non
  | _, _, .bl b => .bl b
  | _, _, .int i => .int i
  | _, _, .str x => .str x
  | _, _, .lst q r => .lst (SqL.of q) (DvAll.dp r)
  | _, _, .tup q r => .tup q (DvAll.dp r)
theorem DvAll.dp {K : PySem.W.Frag} {H : Hp} : ∀ {vs : List V} {ds : List D}, DvAll K H vs ds → DpAll K H vs ds
  | _, _, .nil => .nil
  | _, _, .cons a b => .cons (Dv.dp a) (DvAll.dp b)
end

def Sub (H H' : Hp) : Prop := ∀ b o, H b = some o → H' b = some o
theorem Sub.refl (H : Hp) : Sub H H := fun _ _ h => h
theorem Sub.trans {H H1 H2 : Hp} (a : Sub H H1) (b : Sub H1 H2) : Sub H H2 := fun c o h => b c o (a c o h)
theorem Sub.upd {H : Hp} {p : Addr} {o : HO} (h : H p = none) : Sub H (upd H p o) := fun b x e => by
  rw [upd_ne (ne_of_none e h)]; exact e
theorem Sub.upd2 {H H' : Hp} {p : Addr} {o : HO} (s : Sub H H') (h : H' p = none) : Sub (L2.upd H p o) (L2.upd H' p o) := fun b x e => by
  by_cases hb : b = p
  · subst hb; rw [upd_same] at e; rw [upd_same]; exact e
  · rw [upd_ne hb] at e; rw [upd_ne hb]; exact s _ _ e
theorem Sub.none {H H' : Hp} (s : Sub H H') {p : Addr} (h : H' p = none) : H p = none := by
  cases e : H p with
  | none => rfl
  | some o => rw [s _ _ e] at h; cases h

section
variable {K : PySem.W.Frag} {H H' : Hp}
theorem Sub.rd (s : Sub H H') {a : Addr} {u : HO} (r : Rd H a u) : Rd H' a u := by
  rcases r with r | ⟨o, r⟩
  · exact .inl (s _ _ r)
  · exact .inr ⟨o, s _ _ r⟩
theorem Sub.sqL (s : Sub H H') {a : Addr} {xs : List V} (r : SqL K H a xs) : SqL K H' a xs := by
  rcases r with r | r
  · exact .inl (s.rd r)
  · exact .inr r
theorem Sub.sqT (s : Sub H H') {a : Addr} {xs : List V} (r : SqT K H a xs) : SqT K H' a xs := by
  rcases r with r | r
  · exact .inl (s.rd r)
  · exact .inr r
mutual
theorem Sub.dv (s : Sub H H') : ∀ {v : V} {d : D}, Dv K H v d → Dv K H' v d
  | _, _, .non => .non
  | _, _, .bl b => .bl b
  | _, _, .int i => .int i
  | _, _, .str x => .str x
  | _, _, .lst q r => .lst (s _ _ q) (Sub.dvAll s r)
  | _, _, .tup q r => .tup (s.sqT q) (Sub.dvAll s r)
theorem Sub.dvAll (s : Sub H H') : ∀ {vs : List V} {ds : List D}, DvAll K H vs ds → DvAll K H' vs ds
  | _, _, .nil => .nil
  | _, _, .cons a b => .cons (Sub.dv s a) (Sub.dvAll s b)
end
theorem DvAll.length {vs : List V} {ds : List D} : DvAll K H vs ds → vs.length = ds.length
  | .nil => rfl
  | .cons _ b => by rw [List.length_cons, List.length_cons, DvAll.length b]
theorem DvAll.get : ∀ {vs : List V} {ds : List D} {i : Nat} {d : D}, DvAll K H vs ds → ds[i]? = some d → ∃ v, vs[i]? = some v ∧ Dv K H v d
  | _, _, _, _, .nil, e => by simp at e
  | _, _, 0, _, .cons r _, e => by simp at e; subst e; exact ⟨_, rfl, r⟩
  | _, _, i + 1, d, .cons _ t, e => by
    obtain ⟨u, h1, h2⟩ := DvAll.get (i := i) (d := d) t (by simpa using e)
    exact ⟨u, by simpa using h1, h2⟩
theorem DvAll.getV : ∀ {vs : List V} {ds : List D} {i : Nat} {v : V}, DvAll K H vs ds → vs[i]? = some v → ∃ d, ds[i]? = some d ∧ Dv K H v d
  | _, _, _, _, .nil, e => by simp at e
  | _, _, 0, _, .cons r _, e => by simp at e; subst e; exact ⟨_, rfl, r⟩
  | _, _, i + 1, v, .cons _ t, e => by
    obtain ⟨u, h1, h2⟩ := DvAll.getV (i := i) (v := v) t (by simpa using e)
    exact ⟨u, by simpa using h1, h2⟩
theorem DvAll.append : ∀ {vs ws : List V} {ds es : List D}, DvAll K H vs ds → DvAll K H ws es → DvAll K H (vs ++ ws) (ds ++ es)
  | _, _, _, _, .nil, b => b
  | _, _, _, _, .cons r t, b => .cons r (DvAll.append t b)
theorem DvAll.take : ∀ {vs : List V} {ds : List D} (n : Nat), DvAll K H vs ds → DvAll K H (vs.take n) (ds.take n)
  | _, _, 0, _ => by simp only [List.take_zero]; exact .nil
  | _, _, n + 1, .nil => by simp only [List.take_nil]; exact .nil
  | _, _, n + 1, .cons r t => by simp only [List.take_succ_cons]; exact .cons r (DvAll.take n t)
theorem DvAll.drop : ∀ {vs : List V} {ds : List D} (n : Nat), DvAll K H vs ds → DvAll K H (vs.drop n) (ds.drop n)
  | _, _, 0, r => r
  | _, _, n + 1, .nil => by simp only [List.drop_nil]; exact .nil
  | _, _, n + 1, .cons _ t => DvAll.drop n t
theorem DvAll.set : ∀ {vs : List V} {ds : List D} {v : V} {d : D} (i : Nat), DvAll K H vs ds → Dv K H v d → DvAll K H (vs.set i v) (ds.set i d)
  | _, _, _, _, _, .nil, _ => .nil
  | _, _, _, _, 0, .cons _ t, r => .cons r t
  | _, _, _, _, i + 1, .cons q t, r => .cons q (DvAll.set i t r)
theorem DvAll.eraseIdx : ∀ {vs : List V} {ds : List D} (i : Nat), DvAll K H vs ds → DvAll K H (vs.eraseIdx i) (ds.eraseIdx i)
  | _, _, _, .nil => .nil
  | _, _, 0, .cons _ t => t
  | _, _, i + 1, .cons q t => .cons q (DvAll.eraseIdx i t)
theorem DvAll.reverse : ∀ {vs : List V} {ds : List D}, DvAll K H vs ds → DvAll K H vs.reverse ds.reverse
  | _, _, .nil => .nil
  | _, _, .cons r t => by
    rw [List.reverse_cons, List.reverse_cons]
    exact (DvAll.reverse t).append (.cons r .nil)
theorem DvAll.rep {v : V} {d : D} (r : Dv K H v d) : ∀ n : Nat, DvAll K H (List.replicate n v) (List.replicate n d)
  | 0 => .nil
  | n + 1 => by rw [List.replicate_succ, List.replicate_succ]; exact .cons r (DvAll.rep r n)
theorem DvAll.flat {vs : List V} {ds : List D} (r : DvAll K H vs ds) : ∀ n : Nat, DvAll K H (List.replicate n vs).flatten (List.replicate n ds).flatten
  | 0 => .nil
  | n + 1 => by rw [List.replicate_succ, List.replicate_succ, List.flatten_cons, List.flatten_cons]; exact r.append (DvAll.flat r n)
theorem DvAll.map_int : ∀ {vs : List V} {ns : List Int}, DvAll K H vs (ns.map PyData.int) → vs = ns.map V.int
  | [], [], _ => rfl
  | v :: vs, n :: ns, .cons r t => by
    cases r
    rw [List.map_cons, DvAll.map_int t]
theorem DvAll.ints : ∀ (ns : List Int), DvAll K H (ns.map V.int) (ns.map PyData.int)
  | [] => .nil
  | n :: ns => .cons (.int n) (DvAll.ints ns)
theorem DvAll.map_bl : ∀ {vs : List V} {ns : List Bool}, DvAll K H vs (ns.map PyData.bool) → vs = ns.map V.bl
  | [], [], _ => rfl
  | v :: vs, n :: ns, .cons r t => by
    cases r
    rw [List.map_cons, DvAll.map_bl t]
end

/-- the names of the lambdas in the def x -/
def lamQ (x : Str) : Str := x ++ ".<locals>." ++ "<lambda>"
/-- the tables stand -/
def Tbs (H : Hp) : Prop := LamX.Tabs TabL.T H
/-- not a table of code objects -/
def nT (o : HO) : Prop := ∀ ps, o ≠ .tbl ps
def NoT (H : Hp) : Prop := ∀ b o, H b = some o → nT o
/-- nothing there, or a table -/
def NL (H : Hp) (b : Addr) : Prop := ∀ o, H b = some o → nT o → False
theorem NL.of {H : Hp} {b : Addr} (h : H b = none) : NL H b := fun o e _ => by rw [h] at e; cases e
theorem nT_lst {vs : List V} : nT (.lst vs) := fun _ z => nomatch z
theorem nT_tup {vs : List V} : nT (.tup vs) := fun _ z => nomatch z
theorem NoT.upd {H : Hp} {p : Addr} {o : HO} (h : NoT H) (ho : nT o) : NoT (L2.upd H p o) := fun b x e => by
  by_cases hb : b = p
  · subst hb; rw [upd_same] at e; cases e; exact ho
  · rw [upd_ne hb] at e; exact h b x e
theorem tbs_sub {H H' : Hp} (t : Tbs H) (s : Sub H H') : Tbs H' := fun p hp => (t p hp).ext s
theorem tabS_sub {H H' : Hp} {P : Addr} {q : Str} (t : LamX.TabS H P q) (s : Sub H H') : LamX.TabS H' P q := t.ext s
/-- a list is written -/
theorem tabS_lst {H : Hp} {P p : Addr} {q : Str} {vs ws : List V} (t : LamX.TabS H P q) (h : H p = some (.lst vs)) : LamX.TabS (L2.upd H p (.lst ws)) P q := by
  obtain ⟨ps, h1, h2, h3⟩ := t
  refine ⟨ps, ?_, h2, fun pos cv hc => ?_⟩
  · rw [upd_ne (fun z => by subst z; rw [h1] at h; cases h)]; exact h1
  · obtain ⟨c, e1, e2⟩ := h3 pos cv hc
    refine ⟨c, e1, ?_⟩
    rw [upd_ne (fun z => by subst z; rw [e2] at h; exact nomatch h)]
    exact e2

theorem tbs_lst {H : Hp} {p : Addr} {vs ws : List V} (t : Tbs H) (h : H p = some (.lst vs)) : Tbs (L2.upd H p (.lst ws)) := fun q hq => tabS_lst (t q hq) h
/-- at a stands a dict's object where φ holds -/
def DoD (φ : Heap → Prop) (a : Addr) : Prop := ∀ h, φ h → ∃ o es ep, h.get? a = some o ∧ o.ExactDict ∧ o.data = .dict es ep
theorem code_ne {φ : Heap → Prop} {a c : Addr} {q : Str} (h : DoD φ a) : HO.ext φ ≠ LamX.CodeO c q := fun z => by
  have e : φ = fun h => ∃ (oc : Obj) (vs : Array Value) (t : Tok), h.get? c = some oc ∧ oc.data = .fields vs ∧ vs[1]? = some (.str q t) := HO.ext.inj z
  have h0 : φ { objs := Array.replicate (c + 1) { cls := .none, data := .fields #[.none, .str q 0] } } := by
    rw [e]
    refine ⟨{ cls := .none, data := .fields #[.none, .str q 0] }, _, 0, ?_, rfl, rfl⟩
    unfold Heap.get?
    simp
  obtain ⟨o, es, ep, h1, _, h2⟩ := h _ h0
  unfold Heap.get? at h1
  rw [Array.getElem?_replicate] at h1
  split at h1
  · cases h1
  · split at h1
    · cases h1; cases h2
    · cases h1
theorem tabS_ext {H : Hp} {P p : Addr} {q : Str} {φ ψ : Heap → Prop} (hd : DoD φ p) (t : LamX.TabS H P q) (h : H p = some (.ext φ)) : LamX.TabS (L2.upd H p (.ext ψ)) P q := by
  obtain ⟨ps, h1, h2, h3⟩ := t
  refine ⟨ps, ?_, h2, fun pos cv hc => ?_⟩
  · rw [upd_ne (fun z => by subst z; rw [h1] at h; cases h)]; exact h1
  · obtain ⟨c, e1, e2⟩ := h3 pos cv hc
    refine ⟨c, e1, ?_⟩
    rw [upd_ne (fun z => by subst z; rw [e2] at h; exact code_ne hd (Option.some.inj h).symm)]
    exact e2
theorem tbs_ext {H : Hp} {p : Addr} {φ ψ : Heap → Prop} (hd : DoD φ p) (t : Tbs H) (h : H p = some (.ext φ)) : Tbs (L2.upd H p (.ext ψ)) := fun q hq => tabS_ext hd (t q hq) h
/-- draws at an address -/
def DrAt (K : PySem.W.Frag) (Hc H : Hp) (a : Addr) (s : Dr) : Prop :=
  ∃ b, H a = some (.lst [.ref b, .int s.pos, .int s.cur, .int s.seed]) ∧ Hc b = some (.lst (s.scr.map V.int)) ∧ 0 ≤ s.pos ∧ 0 ≤ s.cur ∧ 0 ≤ s.seed

/-! dicts of one's own: keys ints and texts, or tuples of such (nested), at the address a -/
def keyD : Key → D
  | .inl i => .int i
  | .inr x => .str x
mutual
/-- a key within a tuple -/
def nkD : D → Option NestedKey
  | .none => some .none
  | .int i => some (.num i)
  | .str x => some (.text x)
  | .tuple ds => (nkA ds).map .tup
  | .bool _ => none
  | .list _ => none
  | .dict _ => none
def nkA : List D → Option (List NestedKey)
  | [] => some []
  | d :: ds => (nkD d).bind fun k => (nkA ds).map fun ks => k :: ks
end
def RawN (P : Program) (w : World) (h : Heap) (a : Addr) (xs : List (NestedKey × Addr × Value)) : Prop :=
  ∃ o es ep, h.get? a = some o ∧ o.ExactDict ∧ o.data = .dict es ep ∧ es.toList = xs.map (entryOfKey (nestedKind P w)) ∧ (xs.map (·.1)).Nodup
inductive DctV (K : PySem.W.Frag) (Hc : Hp) (a : Addr) (φ : Heap → Prop) (kvs : List (D × D)) : Prop where
  | mix (vs : List (Key × Value)) (h : ∀ h, φ h → ∀ P w, TabL.PW = some (P, w) → h.DictOf (mixKind P w) a vs) (r : Paired (fun (p : D × D) (q : Key × Value) => p.1 = keyD q.1 ∧ ∃ v, RelV v q.2 ∧ Dv K Hc v p.2) kvs vs)
  | nst (xs : List (NestedKey × Addr × Value)) (h : ∀ h, φ h → ∀ P w, TabL.PW = some (P, w) → RawN P w h a xs) (r : Paired (fun (p : D × D) (q : NestedKey × Addr × Value) => nkD p.1 = some q.1 ∧ q.1.depth ≤ 8 ∧ Dv K Hc (.ref q.2.1) p.1 ∧ ∃ v, RelV v q.2.2 ∧ Dv K Hc v p.2) kvs xs)
theorem DctV.sub {K : PySem.W.Frag} {Hc Hc' : Hp} {a : Addr} {φ : Heap → Prop} {kvs : List (D × D)} (h : DctV K Hc a φ kvs) (s : Sub Hc Hc') : DctV K Hc' a φ kvs := by
  cases h with
  | mix vs h r => exact .mix vs h (Paired.mapP r fun _ _ ⟨z1, v, z2, z3⟩ => ⟨z1, v, z2, s.dv z3⟩)
  | nst xs h r => exact .nst xs h (Paired.mapP r fun _ _ ⟨z1, z0, z2, v, z3, z4⟩ => ⟨z1, z0, s.dv z2, v, z3, s.dv z4⟩)
theorem nT_ext {φ : Heap → Prop} : nT (.ext φ) := fun _ z => nomatch z
/-- a slot's value, with the address of what it owns -/
def SlV (K : PySem.W.Frag) (Hc H : Hp) (o : Option (Option V)) (a : Addr) : Sl → Prop
  | .no => True
  | .val d => ∃ v, o = some (some v) ∧ Dv K Hc v d
  | .lst _ xs => ∃ vs, o = some (some (.ref a)) ∧ H a = some (.lst vs) ∧ DvAll K Hc vs xs ∧ Hc a = none
  | .drw => o = some (some (.ref a))
  | .scr ns => ∃ a, o = some (some (.ref a)) ∧ SqL K Hc a (ns.map V.int)
  | .dct kvs => ∃ φ, o = some (some (.ref a)) ∧ H a = some (.ext φ) ∧ ((a == sysModules) = false ∧ DoD φ a ∧ kvs.length ≤ 16777216) ∧ DctV K Hc a φ kvs ∧ Hc a = none
/-- a slot that owns its address -/
def own : Sl → Bool
  | .lst _ _ => true
  | .dct _ => true
  | _ => false
/-- the state of a body: ad the addresses owned, Hc what stands, da where the draws are -/
structure ER (K : PySem.W.Frag) (ad : Nat → Addr) (da : Option Addr) (Hc H : Hp) (σ : St) (env : En) (s : Dr) : Prop where
  sub : Sub Hc H
  len : σ.length = env.length
  slot : ∀ i x, env[i]? = some x → SlV K Hc H σ[i]? (ad i) x
  apart : ∀ i j x y, env[i]? = some x → env[j]? = some y → own x = true → own y = true → ad i = ad j → i = j
  drs : ∀ i, env[i]? = some .drw → da = some (ad i)
  drA : ∀ a, da = some a → DrAt K Hc H a s ∧ Hc a = none
  lstNe : ∀ i x, env[i]? = some x → own x = true → da ≠ some (ad i)
  tabs : Tbs H
  noT : NoT Hc

/-- from one moment to a later one: what stood stands, but for the draws at da -/
structure Nx (da : Option Addr) (Hc H Hc' H' : Hp) : Prop where
  sub : Sub Hc Hc'
  fresh : ∀ b o, Hc' b = some o → Hc b = none → NL H b
  keep : ∀ b o, H b = some o → some b ≠ da → nT o → H' b = some o
  there : ∀ b o, H b = some o → nT o → ∃ o', H' b = some o' ∧ nT o'
  tab : Tbs H → Tbs H'
  noT : NoT Hc → NoT Hc'
theorem Nx.refl {da : Option Addr} {Hc H : Hp} : Nx da Hc H Hc H where
  sub := Sub.refl _
  fresh := fun b o e n => by rw [n] at e; cases e
  keep := fun _ _ e _ _ => e
  there := fun _ o e t => ⟨o, e, t⟩
  tab := id
  noT := id
theorem Nx.trans {da : Option Addr} {Hc H Hc1 H1 Hc2 H2 : Hp} (a : Nx da Hc H Hc1 H1) (b : Nx da Hc1 H1 Hc2 H2) : Nx da Hc H Hc2 H2 where
  sub := a.sub.trans b.sub
  fresh := fun c o e n => by
    cases q : Hc1 c with
    | none =>
      intro o2 e2 t2
      obtain ⟨o3, e3, t3⟩ := a.there c o2 e2 t2
      exact b.fresh c o e q o3 e3 t3
    | some o2 => exact a.fresh c o2 q n
  keep := fun c o e n t => b.keep c o (a.keep c o e n t) n t
  there := fun c o e t => by
    obtain ⟨o2, e2, t2⟩ := a.there c o e t
    exact b.there c o2 e2 t2
  tab := fun t => b.tab (a.tab t)
  noT := fun t => b.noT (a.noT t)
/-- a new object that stands -/
theorem Nx.new {da : Option Addr} {Hc H : Hp} {p : Addr} {o : HO} (s : Sub Hc H) (h : H p = none) (ho : nT o := by intro _ z; cases z) : Nx da Hc H (upd Hc p o) (upd H p o) where
  sub := Sub.upd (s.none h)
  fresh := fun b x e n => by
    by_cases hb : b = p
    · subst hb; exact .of h
    · rw [upd_ne hb, n] at e; cases e
  keep := fun b x e _ _ => by rw [upd_ne (ne_of_none e h)]; exact e
  there := fun b x e t => ⟨x, by rw [upd_ne (ne_of_none e h)]; exact e, t⟩
  tab := fun t => tbs_sub t (Sub.upd h)
  noT := fun t => t.upd ho
/-- a new object of no one -/
theorem Nx.lay {da : Option Addr} {Hc H : Hp} {p : Addr} {o : HO} (h : H p = none) : Nx da Hc H Hc (upd H p o) where
  sub := Sub.refl _
  fresh := fun b x e n => by rw [n] at e; cases e
  keep := fun b x e _ _ => by rw [upd_ne (ne_of_none e h)]; exact e
  there := fun b x e t => ⟨x, by rw [upd_ne (ne_of_none e h)]; exact e, t⟩
  tab := fun t => tbs_sub t (Sub.upd h)
  noT := id
/-- a write to what was not there at first -/
theorem Nx.write {da : Option Addr} {Hc H Hc1 H1 : Hp} {p : Addr} {vs ws : List V} (a : Nx da Hc H Hc1 H1) (h : NL H p ∨ some p = da) (hl : H1 p = some (.lst vs)) : Nx da Hc H Hc1 (upd H1 p (.lst ws)) where
  sub := a.sub
  fresh := a.fresh
  keep := fun b x e n t => by
    have hb : b ≠ p := fun z => by
      subst z
      rcases h with h | h
      · exact h _ e t
      · exact n h
    rw [upd_ne hb]; exact a.keep b x e n t
  there := fun b x e t => by
    by_cases hb : b = p
    · subst hb; exact ⟨_, upd_same, nT_lst⟩
    · obtain ⟨o, e2, t2⟩ := a.there b x e t
      exact ⟨o, by rw [upd_ne hb]; exact e2, t2⟩
  tab := fun t => tbs_lst (a.tab t) hl
  noT := a.noT
/-- a write to a dict that was not there at first -/
theorem Nx.writeX {da : Option Addr} {Hc H Hc1 H1 : Hp} {p : Addr} {φ ψ : Heap → Prop} (hd : DoD φ p) (a : Nx da Hc H Hc1 H1) (h : NL H p) (hl : H1 p = some (.ext φ)) : Nx da Hc H Hc1 (upd H1 p (.ext ψ)) where
  sub := a.sub
  fresh := a.fresh
  keep := fun b x e n t => by
    have hb : b ≠ p := fun z => by subst z; exact h _ e t
    rw [upd_ne hb]; exact a.keep b x e n t
  there := fun b x e t => by
    by_cases hb : b = p
    · subst hb; exact ⟨_, upd_same, nT_ext⟩
    · obtain ⟨o, e2, t2⟩ := a.there b x e t
      exact ⟨o, by rw [upd_ne hb]; exact e2, t2⟩
  tab := fun t => tbs_ext hd (a.tab t) hl
  noT := a.noT
/-- an owned object stands from now on -/
theorem Nx.freeze {da : Option Addr} {Hc H Hc1 H1 : Hp} {p : Addr} {vs : List V} (a : Nx da Hc H Hc1 H1) (h : NL H p) (h1 : H1 p = some (.lst vs)) (hc : Hc1 p = none) : Nx da Hc H (upd Hc1 p (.lst vs)) H1 where
  sub := fun b x e => by
    rw [upd_ne (fun z => by subst z; rw [a.sub _ _ e] at hc; cases hc)]; exact a.sub _ _ e
  fresh := fun b x e n => by
    by_cases hb : b = p
    · subst hb; exact h
    · rw [upd_ne hb] at e; exact a.fresh b x e n
  keep := a.keep
  there := a.there
  tab := a.tab
  noT := fun t => (a.noT t).upd nT_lst

section
variable {K : PySem.W.Frag} {ad : Nat → Addr} {Hc H Hc' H' : Hp} {σ : St} {env : En} {s : Dr} {da : Option Addr}
theorem DrAt.sub (h : DrAt K Hc H a s) (hc : Sub Hc Hc') (hk : H' a = H a) : DrAt K Hc' H' a s := by
  obtain ⟨b, h2, h3, h5⟩ := h
  exact ⟨b, hk.trans h2, hc _ _ h3, h5⟩
/-- what stands and what is owned goes on -/
theorem ER.grow (e : ER K ad da Hc H σ env s) (hs : Sub Hc' H') (hc : Sub Hc Hc') (hf : ∀ b o, Hc' b = some o → Hc b = none → NL H b) (hk : ∀ b o, H b = some o → nT o → Hc b = none → H' b = some o) (ht : Tbs H → Tbs H') (hn : NoT Hc → NoT Hc') : ER K ad da Hc' H' σ env s where
  sub := hs
  len := e.len
  slot := fun i x hx => by
    have h := e.slot i x hx
    cases x with
    | no => trivial
    | val d =>
      obtain ⟨v, h1, h2⟩ := h
      exact ⟨v, h1, hc.dv h2⟩
    | lst lk xs =>
      obtain ⟨vs, h1, h2, h3, h4⟩ := h
      refine ⟨vs, h1, hk _ _ h2 nT_lst h4, hc.dvAll h3, ?_⟩
      cases q : Hc' (ad i) with
      | none => rfl
      | some o => exact (hf _ _ q h4 _ h2 nT_lst).elim
    | drw => exact h
    | scr ns =>
      obtain ⟨a, h1, h2⟩ := h
      exact ⟨a, h1, hc.sqL h2⟩
    | dct kvs =>
      obtain ⟨φ, h1, h2, h3, h5, h6⟩ := h
      refine ⟨φ, h1, hk _ _ h2 nT_ext h6, h3, h5.sub hc, ?_⟩
      cases q : Hc' (ad i) with
      | none => rfl
      | some o => exact (hf _ _ q h6 _ h2 nT_ext).elim
  apart := e.apart
  drs := e.drs
  drA := fun a h => by
    obtain ⟨h1, h2⟩ := e.drA a h
    obtain ⟨b, h3, _⟩ := id h1
    refine ⟨h1.sub hc ((hk _ _ h3 nT_lst h2).trans h3.symm), ?_⟩
    cases q : Hc' a with
    | none => rfl
    | some o => exact (hf _ _ q h2 _ h3 nT_lst).elim
  lstNe := e.lstNe
  tabs := ht e.tabs
  noT := hn e.noT
theorem ER.there (e : ER K ad da Hc H σ env s) {i : Nat} {x : Sl} (hx : env[i]? = some x) (ho : own x = true) : ∃ o, H (ad i) = some o ∧ nT o ∧ Hc (ad i) = none := by
  have h := e.slot i x hx
  cases x with
  | no => cases ho
  | val d => cases ho
  | lst lk xs => obtain ⟨vs, _, h2, _, h4⟩ := h; exact ⟨_, h2, nT_lst, h4⟩
  | drw => cases ho
  | scr ns => cases ho
  | dct kvs => obtain ⟨φ, _, h2, _, _, h4⟩ := h; exact ⟨_, h2, nT_ext, h4⟩
/-- a new object that stands -/
theorem ER.new (e : ER K ad da Hc H σ env s) {p : Addr} {o : HO} (h : H p = none) (ho : nT o := by intro _ z; cases z) : ER K ad da (upd Hc p o) (upd H p o) σ env s :=
  e.grow (e.sub.upd2 h) (Sub.upd (e.sub.none h)) (fun b x q n => (Nx.new (da := none) e.sub h ho).fresh b x q n) (fun b o h1 _ _ => by
    rw [upd_ne (ne_of_none h1 h)]; exact h1) (fun t => tbs_sub t (Sub.upd h)) fun t => t.upd ho
theorem ER.lay (e : ER K ad da Hc H σ env s) {p : Addr} {o : HO} (h : H p = none) : ER K ad da Hc (upd H p o) σ env s :=
  e.grow (e.sub.trans (Sub.upd h)) (Sub.refl _) (fun b x q n => by rw [n] at q; cases q) (fun b o h1 _ _ => by
    rw [upd_ne (ne_of_none h1 h)]; exact h1) (fun t => tbs_sub t (Sub.upd h)) id
/-- behind what lies between two moments: another frame's work -/
theorem ER.nx (e : ER K ad da Hc H σ env s) (n : Nx da Hc H Hc' H') (hs : Sub Hc' H') (hd : ∀ a, da = some a → DrAt K Hc' H' a s' ∧ Hc' a = none) : ER K ad da Hc' H' σ env s' where
  sub := hs
  len := e.len
  slot := fun i x hx => by
    have h := e.slot i x hx
    cases x with
    | no => trivial
    | val d =>
      obtain ⟨v, h1, h2⟩ := h
      exact ⟨v, h1, n.sub.dv h2⟩
    | lst lk xs =>
      obtain ⟨vs, h1, h2, h3, h4⟩ := h
      refine ⟨vs, h1, n.keep _ _ h2 (fun z => e.lstNe i _ hx rfl z.symm) nT_lst, n.sub.dvAll h3, ?_⟩
      cases q : Hc' (ad i) with
      | none => rfl
      | some o => exact (n.fresh _ _ q h4 _ h2 nT_lst).elim
    | drw => exact h
    | scr ns =>
      obtain ⟨a, h1, h2⟩ := h
      exact ⟨a, h1, n.sub.sqL h2⟩
    | dct kvs =>
      obtain ⟨φ, h1, h2, h3, h5, h6⟩ := h
      refine ⟨φ, h1, n.keep _ _ h2 (fun z => e.lstNe i _ hx rfl z.symm) nT_ext, h3, h5.sub n.sub, ?_⟩
      cases q : Hc' (ad i) with
      | none => rfl
      | some o => exact (n.fresh _ _ q h6 _ h2 nT_ext).elim
  apart := e.apart
  drs := e.drs
  drA := hd
  lstNe := e.lstNe
  tabs := n.tab e.tabs
  noT := n.noT e.noT
/-- an object of no slot stands from now on -/
theorem ER.join (e : ER K ad da Hc H σ env s) {p : Addr} {o : HO} (hp : H p = some o) (ho : nT o) (hn : ∀ i x, env[i]? = some x → own x = true → ad i ≠ p) (hd : da ≠ some p) (hc : Hc p = none) : ER K ad da (upd Hc p o) H σ env s where
  sub := fun b x h => by
    by_cases hb : b = p
    · subst hb; rw [upd_same] at h; rw [hp]; exact h
    · rw [upd_ne hb] at h; exact e.sub _ _ h
  len := e.len
  slot := fun i x hx => by
    have h := e.slot i x hx
    cases x with
    | no => trivial
    | val d =>
      obtain ⟨v, h1, h2⟩ := h
      exact ⟨v, h1, (Sub.upd hc).dv h2⟩
    | lst lk xs =>
      obtain ⟨vs, h1, h2, h3, h4⟩ := h
      exact ⟨vs, h1, h2, (Sub.upd hc).dvAll h3, by rw [upd_ne (hn i _ hx rfl)]; exact h4⟩
    | drw => exact h
    | scr ns =>
      obtain ⟨a, h1, h2⟩ := h
      exact ⟨a, h1, (Sub.upd hc).sqL h2⟩
    | dct kvs =>
      obtain ⟨φ, h1, h2, h3, h5, h6⟩ := h
      exact ⟨φ, h1, h2, h3, h5.sub (Sub.upd hc), by rw [upd_ne (hn i _ hx rfl)]; exact h6⟩
  apart := e.apart
  drs := e.drs
  drA := fun a h => by
    obtain ⟨h1, h2⟩ := e.drA a h
    exact ⟨h1.sub (Sub.upd hc) rfl, by rw [upd_ne (fun z => hd (by rw [h, z]))]; exact h2⟩
  lstNe := e.lstNe
  tabs := e.tabs
  noT := e.noT.upd ho
end
end L2.DL

set_option Elab.async false
set_option linter.all false
set_option maxRecDepth 100000
set_option maxHeartbeats 1000000
/-! D layer 2: judgements, expressions. -/
namespace L2.DL
open PySem PySem.Spec PyProof.Rows
variable [TabL]

def R.bind {α β : Type} (r : R α) (f : α → R β) : R β := match r with
  | .ok a => f a
  | .err c => .err c
  | .stuck => .stuck
def R.ofO {α : Type} : Option α → R α
  | some a => .ok a
  | none => .stuck
abbrev Ev (α : Type) := En → Dr → R (α × Dr)

theorem Nx.weak {da : Option Addr} {Hc H Hc' H' : Hp} (a : Nx da Hc H Hc' H') : Nx da Hc H Hc H' :=
  ⟨Sub.refl _, fun b o e n => (by rw [n] at e; cases e), a.keep, a.there, a.tab, id⟩

/-- what is wanted behind a pure result -/
def Post {α β : Type} (K : PySem.W.Frag) (E : XK) (C : Addr) (ad : Nat → Addr) (da : Option Addr) (Hc H : Hp) (σ : St) (env : En) (P : Hp → Hp → β → α → Prop) (Q : β → Hp → Prop) : R (α × Dr) → Prop
  | .ok (d, s') => ∀ v Hc' H', Nx da Hc H Hc' H' → ER K ad da Hc' H' σ env s' → P Hc' H' v d → Q v H'
  | .err c => ∀ dx H', Nx da Hc H Hc H' → H' dx = some (.xd [(("code" : Str), .str c)]) → E (.ref C) (some dx) H'
  | .stuck => False
section
variable {α β γ δ : Type} {K : PySem.W.Frag} {E : XK} {C : Addr} {ad : Nat → Addr} {da : Option Addr} {Hc H Hc1 H1 : Hp} {σ : St} {env : En} {P : Hp → Hp → β → α → Prop} {P1 : Hp → Hp → δ → γ → Prop} {Q : β → Hp → Prop} {R1 : δ → Hp → Prop}
theorem Post.shift {r : R (α × Dr)} (h : Post K E C ad da Hc H σ env P Q r) (n : Nx da Hc H Hc1 H1) : Post K E C ad da Hc1 H1 σ env P Q r := by
  cases r with
  | ok p => exact fun v Hc' H' m e q => h v Hc' H' (n.trans m) e q
  | err c => exact fun dx H' m q => h dx H' (n.trans m).weak q
  | stuck => exact h
theorem Post.bind {r : R (γ × Dr)} {f : γ × Dr → R (α × Dr)} (h : Post K E C ad da Hc H σ env P Q (r.bind f))
    (k : ∀ d s1, r = .ok (d, s1) → ∀ v Hc1 H1, Nx da Hc H Hc1 H1 → ER K ad da Hc1 H1 σ env s1 → P1 Hc1 H1 v d → Post K E C ad da Hc1 H1 σ env P Q (f (d, s1)) → R1 v H1) : Post K E C ad da Hc H σ env P1 R1 r := by
  cases r with
  | ok p => exact fun v Hc' H' m e q => k p.1 p.2 rfl v Hc' H' m e q (Post.shift (r := f p) h m)
  | err c => exact h
  | stuck => exact h
theorem Post.imp {r : R (α × Dr)} {P' : Hp → Hp → β → α → Prop} (h : Post K E C ad da Hc H σ env P Q r) (k : ∀ Hc H v d, P' Hc H v d → P Hc H v d) : Post K E C ad da Hc H σ env P' Q r := by
  cases r with
  | ok p => exact fun v Hc' H' m e q => h v Hc' H' m e (k _ _ _ _ q)
  | err c => exact h
  | stuck => exact h
end

/-- a value looked at: it stands, or it is an owned list -/
def PkV (K : PySem.W.Frag) (ad : Nat → Addr) (env : En) (Hc : Hp) (v : V) (d : D) : Prop :=
  Dv K Hc v d ∨ ∃ i lk xs, env[i]? = some (.lst lk xs) ∧ d = .list xs ∧ v = .ref (ad i)
def Pk (K : PySem.W.Frag) (Hc H : Hp) (v : V) (d : D) : Prop :=
  Dv K Hc v d ∨ ∃ a vs xs, v = .ref a ∧ d = .list xs ∧ H a = some (.lst vs) ∧ DvAll K Hc vs xs
def All2 {α β : Type} (P : α → β → Prop) : List α → List β → Prop
  | [], [] => True
  | a :: as, b :: bs => P a b ∧ All2 P as bs
  | _, _ => False
theorem All2.length {α β : Type} {P : α → β → Prop} : ∀ {as : List α} {bs : List β}, All2 P as bs → as.length = bs.length
  | [], [], _ => rfl
  | _ :: as, _ :: bs, h => by rw [List.length_cons, List.length_cons, All2.length h.2]
theorem All2.imp {α β : Type} {P P' : α → β → Prop} (k : ∀ a b, P a b → P' a b) : ∀ {as : List α} {bs : List β}, All2 P as bs → All2 P' as bs
  | [], [], _ => trivial
  | _ :: as, _ :: bs, h => ⟨k _ _ h.1, All2.imp k h.2⟩
theorem All2.get {α β : Type} {P : α → β → Prop} : ∀ {as : List α} {bs : List β} {i : Nat} {b : β}, All2 P as bs → bs[i]? = some b → ∃ a, as[i]? = some a ∧ P a b
  | [], [], i, b, _, e => by simp at e
  | a :: as, c :: bs, 0, b, h, e => by simp at e; subst e; exact ⟨a, rfl, h.1⟩
  | a :: as, c :: bs, i + 1, b, h, e => by
    obtain ⟨x, h1, h2⟩ := All2.get (i := i) h.2 (by simpa using e)
    exact ⟨x, by simpa using h1, h2⟩

section
variable {K : PySem.W.Frag} {ad : Nat → Addr} {da : Option Addr} {Hc H Hc1 H1 : Hp} {σ : St} {env : En} {s : Dr} {v : V} {d : D}
theorem PkV.sub (h : PkV K ad env Hc v d) (u : Sub Hc Hc1) : PkV K ad env Hc1 v d := h.imp (u.dv ·) id
theorem PkV.pk (h : PkV K ad env Hc v d) (e : ER K ad da Hc H σ env s) : Pk K Hc H v d := by
  rcases h with h | ⟨i, lk, xs, h1, rfl, rfl⟩
  · exact .inl h
  · obtain ⟨vs, _, h2, h3, _⟩ := e.slot i _ h1
    exact .inr ⟨_, vs, xs, rfl, rfl, h2, h3⟩
theorem Pk.dv (h : Pk K Hc H v d) (u : Sub Hc H) : Dv K H v d := by
  rcases h with h | ⟨a, vs, xs, rfl, rfl, h1, h2⟩
  · exact u.dv h
  · exact .lst h1 (u.dvAll h2)
theorem Pk.list {xs : List D} (h : Pk K Hc H v (.list xs)) (u : Sub Hc H) : ∃ a vs, v = .ref a ∧ H a = some (.lst vs) ∧ DvAll K Hc vs xs := by
  rcases h with h | ⟨a, vs, ys, rfl, e, h1, h2⟩
  · cases h with
    | lst q r => exact ⟨_, _, rfl, u _ _ q, r⟩
  · cases e
    exact ⟨a, vs, rfl, h1, h2⟩
theorem Pk.tuple {xs : List D} (h : Pk K Hc H v (.tuple xs)) (u : Sub Hc H) : ∃ a vs, v = .ref a ∧ SqT K H a vs ∧ DvAll K Hc vs xs := by
  rcases h with h | ⟨a, vs, ys, rfl, e, h1, h2⟩
  · cases h with
    | tup q r => exact ⟨_, _, rfl, u.sqT q, r⟩
  · cases e
theorem Pk.int {i : Int} (h : Pk K Hc H v (.int i)) : v = .int i := by
  rcases h with h | ⟨a, vs, ys, rfl, e, h1, h2⟩
  · cases h; rfl
  · cases e
theorem Pk.bool {i : Bool} (h : Pk K Hc H v (.bool i)) : v = .bl i := by
  rcases h with h | ⟨a, vs, ys, rfl, e, h1, h2⟩
  · cases h; rfl
  · cases e
theorem Pk.str {i : Str} (h : Pk K Hc H v (.str i)) : v = .str i := by
  rcases h with h | ⟨a, vs, ys, rfl, e, h1, h2⟩
  · cases h; rfl
  · cases e
theorem Pk.none (h : Pk K Hc H v .none) : v = .non := by
  rcases h with h | ⟨a, vs, ys, rfl, e, h1, h2⟩
  · cases h; rfl
  · cases e
theorem Pk.shut (h : Pk K Hc H v d) (n : ∀ xs, d ≠ .list xs) : Dv K Hc v d := by
  rcases h with h | ⟨a, vs, ys, rfl, e, h1, h2⟩
  · exact h
  · exact absurd e (n ys)
theorem Pk.dict {kvs : List (D × D)} (h : Pk K Hc H v (.dict kvs)) : False := by
  rcases h with h | ⟨a, vs, ys, rfl, e, h1, h2⟩
  · cases h
  · cases e
end

/-- things are made, nothing else changes -/
structure Al (Hc H Hc' H' : Hp) : Prop where
  sub : Sub Hc Hc'
  subH : Sub H H'
  sc : Sub Hc' H'
  fresh : ∀ b o, Hc' b = some o → Hc b = none → H b = none
  noT : NoT Hc → NoT Hc'
theorem Al.refl {Hc H : Hp} (s : Sub Hc H) : Al Hc H Hc H := ⟨Sub.refl _, Sub.refl _, s, (fun b o e n => by rw [n] at e; cases e), id⟩
theorem Al.new {Hc H : Hp} {p : Addr} {o : HO} (s : Sub Hc H) (h : H p = none) (ho : nT o := by intro _ z; cases z) : Al Hc H (upd Hc p o) (upd H p o) :=
  ⟨Sub.upd (s.none h), Sub.upd h, s.upd2 h, (fun b x e n => by
    by_cases hb : b = p
    · subst hb; exact h
    · rw [upd_ne hb, n] at e; cases e), fun t => t.upd ho⟩
theorem Al.trans {Hc H Hc1 H1 Hc2 H2 : Hp} (a : Al Hc H Hc1 H1) (b : Al Hc1 H1 Hc2 H2) : Al Hc H Hc2 H2 :=
  ⟨a.sub.trans b.sub, a.subH.trans b.subH, b.sc, (fun c o e n => by
    cases q : Hc1 c with
    | none => exact a.subH.none (b.fresh c o e q)
    | some o2 => exact a.fresh c o2 q n), fun t => b.noT (a.noT t)⟩
theorem Al.nx {da : Option Addr} {Hc H Hc1 H1 : Hp} (a : Al Hc H Hc1 H1) : Nx da Hc H Hc1 H1 :=
  ⟨a.sub, (fun b o e n => .of (a.fresh b o e n)), fun b o e _ _ => a.subH b o e, (fun b o e t => ⟨o, a.subH b o e, t⟩), fun t => tbs_sub t a.subH, a.noT⟩
theorem Al.er {K : PySem.W.Frag} {ad : Nat → Addr} {da : Option Addr} {Hc H Hc1 H1 : Hp} {σ : St} {env : En} {s : Dr} (a : Al Hc H Hc1 H1) (e : ER K ad da Hc H σ env s) : ER K ad da Hc1 H1 σ env s :=
  e.grow a.sc a.sub (fun b o e n => .of (a.fresh b o e n)) (fun b o h1 _ _ => a.subH _ _ h1) (fun t => tbs_sub t a.subH) a.noT

/-! ### judgements -/
section
variable (X : Cx) (E : XK) (C : Addr)
abbrev PostX {α β : Type} (ad : Nat → Addr) (da : Option Addr) (Hc H : Hp) (σ : St) (env : En) (P : Hp → Hp → β → α → Prop) (Q : β → Hp → Prop) (r : R (α × Dr)) : Prop := Post X.K E C ad da Hc H σ env P Q r
def Reads1 {α β T : Type} (t : St → Hp → (β → Hp → Prop) → Prop) (P : (Nat → Addr) → En → Hp → Hp → Hp → β → α → Prop) (f : Ev α) : Prop :=
  ∀ (ad : Nat → Addr) (da : Option Addr) (Hc H : Hp) (σ : St) (env : En) (s : Dr) (Q : β → Hp → Prop), ER X.K ad da Hc H σ env s → PostX X E C ad da Hc H σ env (P ad env H) Q (f env s) → t σ H Q
/-- an expression; looked at only; a test; arguments looked at -/
def DE (e : Expr) (f : Ev D) : Prop := ∃ t : TE, PE X e t ∧ Reads1 X E C (T := Unit) t (fun _ _ _ Hc _ v d => Dv X.K Hc v d) f
def DK (e : Expr) (f : Ev D) : Prop := ∃ t : TE, PE X e t ∧ Reads1 X E C (T := Unit) t (fun ad env _ Hc _ v d => PkV X.K ad env Hc v d) f
def DT (e : Expr) (f : Ev Bool) : Prop := ∃ t : TT, PT X e t ∧ Reads1 X E C (T := Unit) t (fun _ _ _ _ _ (b c : Bool) => b = c) f
def DAK (es : List Expr) (f : Ev (List D)) : Prop := ∃ t : TA, PA X es t ∧ Reads1 X E C (T := Unit) t (fun ad env _ Hc _ vs ds => All2 (PkV X.K ad env Hc) vs ds) f
def DAE (es : List Expr) (f : Ev (List D)) : Prop := ∃ t : TA, PA X es t ∧ Reads1 X E C (T := Unit) t (fun _ _ _ Hc _ vs ds => DvAll X.K Hc vs ds) f
end
section
variable {X : Cx} {E : XK} {C : Addr} {e a b : Expr} {es : List Expr} {pos : Pos}
theorem DE.dk {f : Ev D} (h : DE X E C e f) : DK X E C e f := by
  obtain ⟨t, p, r⟩ := h
  exact ⟨t, p, fun ad da Hc H σ env s Q er q => r ad da Hc H σ env s Q er (q.imp fun _ _ _ _ z => .inl z)⟩

/-! ### names, constants -/
def evVar (i : Nat) : Ev D := fun env s => match env[i]? with
  | some (.val d) => .ok (d, s)
  | _ => .stuck
def evPk (i : Nat) : Ev D := fun env s => match env[i]? with
  | some (.val d) => .ok (d, s)
  | some (.lst _ xs) => .ok (.list xs, s)
  | _ => .stuck
theorem de_var {i : Nat} {x : Str} (hN : X.N[i]? = some x) (hv : Vis X.env.scope x) (hd : (x == ("__debug__" : Str)) = false) (hcd : (x == ("__classdict__" : Str)) = false) : DE X E C (.Name x pos) (evVar i) := by
  refine ⟨tVar i, pe_var hN hv hd hcd, fun ad da Hc H σ env s Q er q => ?_⟩
  unfold evVar at q
  cases hx : env[i]? with
  | none => rw [hx] at q; exact q.elim
  | some x =>
    rw [hx] at q
    cases x with
    | val d =>
      obtain ⟨v, h1, h2⟩ := er.slot i _ hx
      exact ⟨v, h1, q v Hc H Nx.refl er h2⟩
    | no => exact q.elim
    | lst lk xs => exact q.elim
    | drw => exact q.elim
    | scr ns => exact q.elim
    | dct kvs => exact q.elim
theorem dk_var {i : Nat} {x : Str} (hN : X.N[i]? = some x) (hv : Vis X.env.scope x) (hd : (x == ("__debug__" : Str)) = false) (hcd : (x == ("__classdict__" : Str)) = false) : DK X E C (.Name x pos) (evPk i) := by
  refine ⟨tVar i, pe_var hN hv hd hcd, fun ad da Hc H σ env s Q er q => ?_⟩
  unfold evPk at q
  cases hx : env[i]? with
  | none => rw [hx] at q; exact q.elim
  | some x =>
    rw [hx] at q
    cases x with
    | val d =>
      obtain ⟨v, h1, h2⟩ := er.slot i _ hx
      exact ⟨v, h1, q v Hc H Nx.refl er (.inl h2)⟩
    | no => exact q.elim
    | lst lk xs =>
      obtain ⟨vs, h1, h2, h3, h4⟩ := er.slot i _ hx
      exact ⟨_, h1, q _ Hc H Nx.refl er (.inr ⟨i, lk, xs, hx, rfl, rfl⟩)⟩
    | drw => exact q.elim
    | scr ns => exact q.elim
    | dct kvs => exact q.elim
def evC (d : D) : Ev D := fun _ s => .ok (d, s)
theorem de_c {v : V} {d : D} (hp : PE X e (tC v)) (hd : ∀ H, Dv X.K H v d) : DE X E C e (evC d) :=
  ⟨tC v, hp, fun ad da Hc H σ env s Q er q => q v Hc H Nx.refl er (hd Hc)⟩

/-! ### two operands -/
def OpD (K : PySem.W.Frag) (r : R2) (g : D → D → Option D) : Prop :=
  ∀ (Hc H : Hp) (x y : V) (d e z : D) (Q : VK), Sub Hc H → Pk K Hc H x d → Pk K Hc H y e → g d e = some z → (∀ v Hc' H', Al Hc H Hc' H' → Dv K Hc' v z → Q v H') → r x y H Q
def ev2 (g : D → D → Option D) (fa fb : Ev D) : Ev D := fun env s => (fa env s).bind fun p => (fb env p.2).bind fun q => (R.ofO (g p.1 q.1)).bind fun z => .ok (z, q.2)
theorem op2 {r : R2} {g : D → D → Option D} {fa fb : Ev D} {ta tb : TE} (hr : OpD X.K r g) (ra : Reads1 X E C (T := Unit) ta (fun ad env _ Hc _ v d => PkV X.K ad env Hc v d) fa)
    (rb : Reads1 X E C (T := Unit) tb (fun ad env _ Hc _ v d => PkV X.K ad env Hc v d) fb) : Reads1 X E C (T := Unit) (tOp r ta tb) (fun _ _ _ Hc _ v d => Dv X.K Hc v d) (ev2 g fa fb) := fun ad da Hc H σ env s Q er q => by
  refine ra ad da Hc H σ env s _ er (Post.bind q fun d s1 _ v Hc1 H1 n1 e1 p1 q1 => ?_)
  refine rb ad da Hc1 H1 σ env s1 _ e1 (Post.bind q1 fun d2 s2 _ v2 Hc2 H2 n2 e2 p2 q2 => ?_)
  cases hg : g d d2 with
  | none => rw [hg] at q2; exact q2.elim
  | some z =>
    rw [hg] at q2
    exact hr Hc2 H2 v v2 d d2 z Q e2.sub ((p1.sub n2.sub).pk e2) (p2.pk e2) hg fun v' Hc' H' al hd => q2 v' Hc' H' al.nx (al.er e2) hd
theorem de_bin {op : Operator} {r : R2} {g : D → D → Option D} {fa fb : Ev D} (ho : OpR X (binaryOp op) r) (hr : OpD X.K r g) (ha : DK X E C a fa) (hb : DK X E C b fb) : DE X E C (.BinOp a op b pos) (ev2 g fa fb) := by
  obtain ⟨ta, pa, ra⟩ := ha
  obtain ⟨tb, pb, rb⟩ := hb
  exact ⟨_, pe_op ho pa pb, op2 hr ra rb⟩
theorem de_cmp {op : CmpOp} {r : R2} {g : D → D → Option D} {fa fb : Ev D} (ho : OpR X (compareOp op) r) (hr : OpD X.K r g) (hm : behindInMarks op b = false) (ha : DK X E C a fa) (hb : DK X E C b fb) : DE X E C (.Compare a [op] [b] pos) (ev2 g fa fb) := by
  obtain ⟨ta, pa, ra⟩ := ha
  obtain ⟨tb, pb, rb⟩ := hb
  exact ⟨_, pe_cmpR ho pa pb hm, op2 hr ra rb⟩
/-- a truth value as a test -/
def evB (f : Ev D) : Ev Bool := fun env s => (f env s).bind fun p => match p.1 with
  | .bool b => .ok (b, p.2)
  | _ => .stuck
theorem dt_cmp {op : CmpOp} {r : R2} {g : D → D → Option D} {fa fb : Ev D} (ho : OpR X (compareOp op) r) (hr : OpD X.K r g) (hm : behindInMarks op b = false) (ha : DK X E C a fa) (hb : DK X E C b fb) : DT X E C (.Compare a [op] [b] pos) (evB (ev2 g fa fb)) := by
  obtain ⟨ta, pa, ra⟩ := ha
  obtain ⟨tb, pb, rb⟩ := hb
  refine ⟨_, pt_cmpR ho pa pb hm, fun ad da Hc H σ env s Q er q => ?_⟩
  refine op2 hr ra rb ad da Hc H σ env s _ er (Post.bind q fun d s1 _ v Hc1 H1 n1 e1 p1 q1 => ?_)
  cases d with
  | bool k =>
    cases p1
    exact ⟨k, rfl, q1 k Hc1 H1 Nx.refl e1 rfl⟩
  | none => exact q1.elim
  | int _ => exact q1.elim
  | str _ => exact q1.elim
  | list _ => exact q1.elim
  | tuple _ => exact q1.elim
  | dict _ => exact q1.elim
/-- a ∘ b ∘' c -/
def evCh (g g' : D → D → Option D) (fa fb fc : Ev D) : Ev D := fun env s => (fa env s).bind fun p => (fb env p.2).bind fun q => match g p.1 q.1 with
  | some (.bool true) => (fc env q.2).bind fun u => (R.ofO (g' q.1 u.1)).bind fun z => .ok (z, u.2)
  | some (.bool false) => .ok (.bool false, q.2)
  | _ => .stuck
end
end L2.DL

set_option Elab.async false
set_option linter.all false
set_option maxRecDepth 100000
set_option maxHeartbeats 1000000
/-! D layer 3: operators on data. -/
namespace L2.DL
open PySem PySem.Spec PyProof.Rows
variable [TabL]

/-- n together is no more than a line -/
def fitB (n : Nat) : Bool := Nat.ble n 16777216
theorem fitB_le {n : Nat} (h : fitB n = true) : n ≤ sizeLine := by rw [sizeLine_eq]; exact Nat.le_of_ble_eq_true h
/-- no dict within, no deeper than n -/
def dep : Nat → D → Bool
  | _, .none => true
  | _, .bool _ => true
  | _, .int _ => true
  | _, .str _ => true
  | n + 1, .list xs => xs.all (dep n)
  | n + 1, .tuple xs => xs.all (dep n)
  | _, _ => false
theorem dep_all {n : Nat} (ih : ∀ d, dep n d = true → d.plain = true ∧ d.depth ≤ n) : ∀ xs : List D, xs.all (dep n) = true → PyData.plainAll xs = true ∧ PyData.depthAll xs ≤ n
  | [], _ => ⟨rfl, Nat.zero_le _⟩
  | x :: xs, h => by
    rw [List.all_cons, Bool.and_eq_true] at h
    obtain ⟨h1, h2⟩ := ih x h.1
    obtain ⟨h3, h4⟩ := dep_all ih xs h.2
    refine ⟨by rw [PyData.plainAll, h1, h3]; rfl, by rw [PyData.depthAll]; exact Nat.max_le.mpr ⟨h2, h4⟩⟩
theorem dep_ok : ∀ (n : Nat) (d : D), dep n d = true → d.plain = true ∧ d.depth ≤ n
  | n, .none, _ => ⟨rfl, Nat.zero_le _⟩
  | n, .bool _, _ => ⟨rfl, Nat.zero_le _⟩
  | n, .int _, _ => ⟨rfl, Nat.zero_le _⟩
  | n, .str _, _ => ⟨rfl, Nat.zero_le _⟩
  | n + 1, .list xs, h => by
    obtain ⟨h1, h2⟩ := dep_all (dep_ok n) xs (by rw [dep] at h; exact h)
    refine ⟨by rw [PyData.plain]; exact h1, by rw [PyData.depth]; omega⟩
  | n + 1, .tuple xs, h => by
    obtain ⟨h1, h2⟩ := dep_all (dep_ok n) xs (by rw [dep] at h; exact h)
    refine ⟨by rw [PyData.plain]; exact h1, by rw [PyData.depth]; omega⟩
  | 0, .list _, h => by simp [dep] at h
  | 0, .tuple _, h => by simp [dep] at h
  | 0, .dict _, h => by simp [dep] at h
  | n + 1, .dict _, h => by simp [dep] at h
def DEP : Nat := 40

/-! ### rules of our own -/
section
variable {X : Cx}
def rEqP (K : PySem.W.Frag) : R2 := fun x y H Q => ∃ d e, Dp K H x d ∧ Dp K H y e ∧ dep 40 d = true ∧ dep 40 e = true ∧ Q (.bl (PyData.eqv d e)) H
def rNeP (K : PySem.W.Frag) : R2 := fun x y H Q => ∃ d e, Dp K H x d ∧ Dp K H y e ∧ dep 40 d = true ∧ dep 40 e = true ∧ Q (.bl (!PyData.eqv d e)) H
theorem room_min {u a b : Nat} (hu : u + 64 < cLine) (h : a ≤ 40) : u + min a b < cLine := by
  have := Nat.min_le_left a b
  omega
theorem op_eqP (hu : X.A.units + 64 < cLine) : OpR X (compareOp .Eq) (rEqP X.K) := by
  intro pins s σ H x y v u Q I rx ry h
  obtain ⟨d, e, hd, he, pd, pe, q⟩ := h
  obtain ⟨as, r1⟩ := Dp.reads I d x v hd rx
  obtain ⟨bs, r2⟩ := Dp.reads I e y u he ry
  exact SeqAt.eq_plain r1 r2 (dep_ok _ _ pd).1 (dep_ok _ _ pe).1 (room_min hu (dep_ok _ _ pd).2) ⟨.bl _, H, I, rfl, q⟩
theorem op_neP (hu : X.A.units + 64 < cLine) : OpR X (compareOp .NotEq) (rNeP X.K) := by
  intro pins s σ H x y v u Q I rx ry h
  obtain ⟨d, e, hd, he, pd, pe, q⟩ := h
  obtain ⟨as, r1⟩ := Dp.reads I d x v hd rx
  obtain ⟨bs, r2⟩ := Dp.reads I e y u he ry
  exact SeqAt.ne_plain r1 r2 (dep_ok _ _ pd).1 (dep_ok _ _ pe).1 (room_min hu (dep_ok _ _ pd).2) ⟨.bl _, H, I, rfl, q⟩
def rInP (K : PySem.W.Frag) (neg : Bool) : R2 := fun x y H Q => ∃ d ds, Dp K H x d ∧ (Dp K H y (.list ds) ∨ Dp K H y (.tuple ds)) ∧ dep 40 d = true ∧ dep 40 (.list ds) = true ∧ Q (.bl (if neg then !(ds.any fun z => PyData.eqv z d) else ds.any fun z => PyData.eqv z d)) H
theorem op_inP (hu : X.A.units + 64 < cLine) : OpR X (compareOp .In) (rInP X.K false) := by
  intro pins s σ H x y v u Q I rx ry h
  obtain ⟨d, ds, hd, he, pd, pe, q⟩ := h
  obtain ⟨as, r1⟩ := Dp.reads I d x v hd rx
  have hp : PyData.plainAll ds = true := by have := (dep_ok _ _ pe).1; rwa [PyData.plain] at this
  have hr : X.A.units + 1 + min (PyData.depthAll ds) d.depth < cLine := by
    have h1 := (dep_ok _ _ pd).2
    have h2 := Nat.min_le_right (PyData.depthAll ds) d.depth
    omega
  rcases he with he | he
  · obtain ⟨bs, r2⟩ := Dp.reads I _ y u he ry
    exact SeqAt.in_list_data r2 r1 hp (dep_ok _ _ pd).1 hr ⟨.bl _, H, I, rfl, q⟩
  · obtain ⟨bs, r2⟩ := Dp.reads I _ y u he ry
    exact SeqAt.in_tuple_data r2 r1 hp (dep_ok _ _ pd).1 hr ⟨.bl _, H, I, rfl, q⟩
theorem op_notInP (hu : X.A.units + 64 < cLine) : OpR X (compareOp .NotIn) (rInP X.K true) := by
  intro pins s σ H x y v u Q I rx ry h
  obtain ⟨d, ds, hd, he, pd, pe, q⟩ := h
  obtain ⟨as, r1⟩ := Dp.reads I d x v hd rx
  have hp : PyData.plainAll ds = true := by have := (dep_ok _ _ pe).1; rwa [PyData.plain] at this
  have hr : X.A.units + 1 + min (PyData.depthAll ds) d.depth < cLine := by
    have h1 := (dep_ok _ _ pd).2
    have h2 := Nat.min_le_right (PyData.depthAll ds) d.depth
    omega
  rcases he with he | he
  · obtain ⟨bs, r2⟩ := Dp.reads I _ y u he ry
    exact SeqAt.notIn_list_data r2 r1 hp (dep_ok _ _ pd).1 hr ⟨.bl _, H, I, rfl, q⟩
  · obtain ⟨bs, r2⟩ := Dp.reads I _ y u he ry
    exact SeqAt.notIn_tuple_data r2 r1 hp (dep_ok _ _ pd).1 hr ⟨.bl _, H, I, rfl, q⟩
end

/-! ### the operators on data -/
def gAdd : D → D → Option D
  | .int i, .int j => some (.int (i + j))
  | .list xs, .list ys => if fitB (xs.length + ys.length) then some (.list (xs ++ ys)) else none
  | .tuple xs, .tuple ys => if fitB (xs.length + ys.length) then some (.tuple (xs ++ ys)) else none
  | .str x, .str y => if fitB (x.length + y.length) then some (.str (x ++ y)) else none
  | _, _ => none
def gSub : D → D → Option D
  | .int i, .int j => some (.int (i - j))
  | _, _ => none
def mulB (i j : Int) : Bool := Nat.ble (i.natAbs.log2 + j.natAbs.log2) 999999
def gMul : D → D → Option D
  | .int i, .int j => if mulB i j then some (.int (i * j)) else none
  | .list xs, .int k => if decide (-(2 ^ 63) ≤ k) && decide (k < 2 ^ 63) && fitB (xs.length * k.toNat) then some (.list (List.replicate k.toNat xs).flatten) else none
  | .tuple xs, .int k => if decide (k = 1) then some (.tuple xs) else if !xs.isEmpty && decide (2 ≤ k) && decide (k ≤ 1000) && Nat.ble xs.length 1000 then some (.tuple (List.replicate k.toNat xs).flatten) else none
  | _, _ => none
def divB (j : Int) : Bool := decide (0 < j) && Nat.ble j.natAbs.log2 8999
def gDiv : D → D → Option D
  | .int i, .int j => if divB j then some (.int (i / j)) else none
  | _, _ => none
def gMod : D → D → Option D
  | .int i, .int j => if decide (0 < j) then some (.int (i % j)) else none
  | _, _ => none
def gXor : D → D → Option D
  | .int i, .int j => some (.int (Builtin.bitXor i j))
  | _, _ => none
def gAnd : D → D → Option D
  | .int i, .int j => some (.int (Builtin.bitAnd i j))
  | _, _ => none
def gOr : D → D → Option D
  | .int i, .int j => some (.int (Builtin.bitOr i j))
  | _, _ => none
def gI (p : Int → Int → Bool) : D → D → Option D
  | .int i, .int j => some (.bool (p i j))
  | _, _ => none
def gEq (d e : D) : Option D := if dep 40 d && dep 40 e then some (.bool (PyData.eqv d e)) else none
def gNe (d e : D) : Option D := if dep 40 d && dep 40 e then some (.bool (!PyData.eqv d e)) else none
def gIn (neg : Bool) : D → D → Option D
  | d, .list ds => if dep 40 d && dep 40 (.list ds) then some (.bool (if neg then !(ds.any fun z => PyData.eqv z d) else ds.any fun z => PyData.eqv z d)) else none
  | d, .tuple ds => if dep 40 d && dep 40 (.list ds) then some (.bool (if neg then !(ds.any fun z => PyData.eqv z d) else ds.any fun z => PyData.eqv z d)) else none
  | .str c, .str z => match c.cps.toList with
    | [ch] => some (.bool (if neg then !decide (ch ∈ z.cps.toList) else decide (ch ∈ z.cps.toList)))
    | _ => none
  | _, _ => none
def gIs (neg : Bool) : D → D → Option D
  | d, .none => some (.bool (match d with
    | .none => !neg
    | _ => neg))
  | .bool a, .bool b => some (.bool (if neg then !decide (a = b) else decide (a = b)))
  | _, _ => none
def gIx : D → D → Option D
  | .list xs, .int i => atI xs i
  | .tuple xs, .int i => atI xs i
  | .str z, .int i => if fitB z.length then (atI z.cps.toList i).map fun c => .str ⟨#[c]⟩ else none
  | _, _ => none

section
variable {X : Cx} {K : PySem.W.Frag}
def rAdd4 (K : PySem.W.Frag) : R2 := fun x y H Q => rI0 (fun i j => .int (i + j)) x y H Q ∨ (rCat x y H Q ∨ (rCatA K x y H Q ∨ ∃ i j, x = .str i ∧ y = .str j ∧ i.length + j.length ≤ sizeLine ∧ Q (.str (i ++ j)) H))
theorem op_add4 : OpR X (binaryOp .Add) (rAdd4 X.K) := op_add.or (op_cat.or (op_catA.or op_add_str))
theorem DvAll.nil_of {H : Hp} {ds : List D} (h : DvAll K H [] ds) : ds = [] := by cases h; rfl
theorem d_add : OpD K (rAdd4 K) gAdd := by
  intro Hc H x y d e z Q s hx hy hz q
  unfold gAdd at hz
  split at hz
  · cases hz; exact .inl ⟨_, _, hx.int, hy.int, q _ _ _ (.refl s) (.int _)⟩
  · split at hz
    · rename_i hf
      cases hz
      obtain ⟨a, vs, rfl, h1, h2⟩ := hx.list s
      obtain ⟨b, ws, rfl, h3, h4⟩ := hy.list s
      refine .inr (.inl ⟨a, b, vs, ws, rfl, rfl, h1, h3, by rw [h2.length, h4.length]; exact fitB_le hf, fun p hp => q _ _ _ (.new s hp) (.lst upd_same ?_)⟩)
      exact ((Sub.upd (s.none hp)).dvAll h2).append ((Sub.upd (s.none hp)).dvAll h4)
    · cases hz
  · split at hz
    · rename_i hf
      cases hz
      obtain ⟨a, vs, rfl, h1, h2⟩ := hx.tuple s
      obtain ⟨b, ws, rfl, h3, h4⟩ := hy.tuple s
      have t1 := hx.shut (fun _ z => nomatch z)
      have t2 := hy.shut (fun _ z => nomatch z)
      refine .inr (.inr (.inl ⟨a, b, vs, ws, rfl, rfl, h1, h3, by rw [h2.length, h4.length]; exact fitB_le hf, fun e => ?_, fun _ e => ?_, fun _ _ p hp => q _ _ _ (.new s hp) (.tup (SqT.of upd_same) ?_)⟩))
      · subst e
        have z2 := h2.nil_of
        subst z2
        exact q _ _ _ (.refl s) t2
      · subst e
        have z4 := h4.nil_of
        subst z4
        rw [List.append_nil] at q
        exact q _ _ _ (.refl s) t1
      · exact ((Sub.upd (s.none hp)).dvAll h2).append ((Sub.upd (s.none hp)).dvAll h4)
    · cases hz
  · split at hz
    · rename_i hf
      cases hz
      exact .inr (.inr (.inr ⟨_, _, hx.str, hy.str, fitB_le hf, q _ _ _ (.refl s) (.str _)⟩))
    · cases hz
  · cases hz
theorem d_int0 {f : Int → Int → Int} {g : D → D → Option D} (hg : ∀ d e z, g d e = some z → ∃ i j, d = .int i ∧ e = .int j ∧ z = .int (f i j)) : OpD K (rI0 fun i j => .int (f i j)) g := by
  intro Hc H x y d e z Q s hx hy hz q
  obtain ⟨i, j, rfl, rfl, rfl⟩ := hg d e z hz
  exact ⟨i, j, hx.int, hy.int, q _ _ _ (.refl s) (.int _)⟩
theorem d_bl0 {f : Int → Int → Bool} : OpD K (rI0 fun i j => .bl (f i j)) (gI f) := by
  intro Hc H x y d e z Q s hx hy hz q
  unfold gI at hz
  split at hz
  · cases hz; exact ⟨_, _, hx.int, hy.int, q _ _ _ (.refl s) (.bl _)⟩
  · cases hz
theorem d_sub : OpD K (rI0 fun i j => .int (i - j)) gSub := d_int0 fun d e z h => by
  unfold gSub at h
  split at h
  · cases h; exact ⟨_, _, rfl, rfl, rfl⟩
  · cases h
theorem d_xor : OpD K (rI0 fun i j => .int (Builtin.bitXor i j)) gXor := d_int0 fun d e z h => by
  unfold gXor at h
  split at h
  · cases h; exact ⟨_, _, rfl, rfl, rfl⟩
  · cases h
theorem d_and : OpD K (rI0 fun i j => .int (Builtin.bitAnd i j)) gAnd := d_int0 fun d e z h => by
  unfold gAnd at h
  split at h
  · cases h; exact ⟨_, _, rfl, rfl, rfl⟩
  · cases h
theorem d_or : OpD K (rI0 fun i j => .int (Builtin.bitOr i j)) gOr := d_int0 fun d e z h => by
  unfold gOr at h
  split at h
  · cases h; exact ⟨_, _, rfl, rfl, rfl⟩
  · cases h
/-- a tuple once is itself -/
def rRepT1 (K : PySem.W.Frag) : R2 := fun x y H Q => ∃ l xs, x = .ref l ∧ y = .int 1 ∧ SqT K H l xs ∧ Q (.ref l) H
theorem tuple_mul1 (l : Addr) (items : Array Value) (n : Nat) (dd : Option Addr) (sl : Array (Option Value)) (u : Tok) :
    Meets (Builtin.«tuple.__mul__» ⟨[.ref l, .int 1 u], []⟩) (fun _ R s => s.heap.get? l = some { cls := .type "tuple", dict := dd, data := .seq items n, slots := sl } ∧
      R (.ok (.ret (Value.ref l))) s) :=
  .of_wp fun prog w A R s h => by
    obtain ⟨hp, g, d, tk, os⟩ := s
    obtain ⟨hl, h⟩ := h
    have f1 := AutoSeq1.idx_int
    have c0 : (decide ((1 : Int) < -(2 ^ 63)) || decide ((1 : Int) ≥ 2 ^ 63)) = false := by decide +kernel
    have c1 : (items.isEmpty || (1 : Int) == 1) = true := by cases items.isEmpty <;> rfl
    wp_walk using wpAny_loadPart' hl
    repeat (first
      | (refine wpAny_ite_false (decide_eq_false (by rw [c0]; exact Bool.false_ne_true)) ?_; wp_walk using wpAny_loadPart' hl)
      | (refine wpAny_ite_true (decide_eq_true c1) ?_; wp_walk using wpAny_loadPart' hl))
    exact ⟨_, rfl, h⟩
theorem op_repT1 : OpR X (binaryOp .Mult) (rRepT1 X.K) := by
  intro pins s σ H x y v u Q I rx ry h
  obtain ⟨l, xs, rfl, rfl, hT, q⟩ := h
  cases rx
  obtain ⟨t, rfl⟩ := ry
  obtain ⟨its, r, ⟨⟨cls, dd, data, sl⟩, ho, hc, n, hd⟩, hs⟩ := I.tuple hT
  simp only at hc hd
  subst hc hd
  exact wpAny_binaryOp_repeat_ref (T := "tuple") (U := "int") (by decide) ⟨_, ho, rfl⟩ (fun s' => typeIs_int s' 1 t) noFill_tuple_mul F.fills_int_mul F.slot_int_rmul repeat_tuple F.slot_int_index.lookup
    (call_meets F.slot_int_rmul (typeIs_int s 1 t) F.entry_int_rmul (F.args_int_rmul_2 _ _) (int_rmul_tuple 1 t l its.toArray n dd sl)
      ⟨ho, rfl, ⟨_, ho, rfl⟩, call_meets F.slot_tuple_mul ⟨_, ho, rfl⟩ F.entry_tuple_mul (F.args_tuple_mul_2 _ _) (tuple_mul1 l its.toArray n dd sl t) ⟨ho, .ref l, H, I, rfl, q⟩⟩)
def rMul3 (K : PySem.W.Frag) : R2 := fun x y H Q => rI CMulW (fun i j => .int (i * j)) x y H Q ∨ (rRep x y H Q ∨ (rRepT K x y H Q ∨ rRepT1 K x y H Q))
theorem op_mul3 : OpR X (binaryOp .Mult) (rMul3 X.K) := op_mulW.or (op_rep.or (op_repT.or op_repT1))
theorem d_mul : OpD K (rMul3 K) gMul := by
  intro Hc H x y d e z Q s hx hy hz q
  unfold gMul at hz
  split at hz
  · split at hz
    · rename_i hf
      cases hz
      refine .inl ⟨_, _, hx.int, hy.int, ?_, q _ _ _ (.refl s) (.int _)⟩
      have := Nat.le_of_ble_eq_true hf
      show _ < _
      omega
    · cases hz
  · split at hz
    · rename_i hf
      cases hz
      obtain ⟨a, vs, rfl, h1, h2⟩ := hx.list s
      simp only [Bool.and_eq_true, decide_eq_true_eq] at hf
      exact .inr (.inl ⟨a, _, vs, rfl, hy.int, h1, hf.1.1, hf.1.2, by rw [h2.length]; exact fitB_le hf.2, fun p hp => q _ _ _ (.new s hp) (.lst upd_same (((Sub.upd (s.none hp)).dvAll h2).flat _))⟩)
    · cases hz
  · split at hz
    · rename_i xs k hf
      cases hz
      have hf := of_decide_eq_true hf
      subst hf
      obtain ⟨a, vs, e, h1, h2⟩ := hx.tuple s
      subst e
      exact .inr (.inr (.inr ⟨a, vs, rfl, hy.int, h1, q _ _ _ (.refl s) (hx.shut fun _ => nofun)⟩))
    split at hz
    · rename_i xs k _ hf
      cases hz
      obtain ⟨a, vs, rfl, h1, h2⟩ := hx.tuple s
      simp only [Bool.and_eq_true, decide_eq_true_eq] at hf
      obtain ⟨⟨⟨n0, n1⟩, n2⟩, n3⟩ := hf
      have hne : vs ≠ [] := fun z => by
        subst z
        have e : xs = [] := h2.nil_of
        rw [e] at n0
        cases n0
      exact .inr (.inr (.inl ⟨a, _, vs, rfl, hy.int, h1, hne, n1, n2, by rw [h2.length]; exact Nat.le_of_ble_eq_true n3, fun p hp => q _ _ _ (.new s hp) (.tup (SqT.of upd_same) (((Sub.upd (s.none hp)).dvAll h2).flat _))⟩))
    · cases hz
  · cases hz
theorem d_div : OpD K (rI CDivW fun i j => .int (i / j)) gDiv := by
  intro Hc H x y d e z Q s hx hy hz q
  unfold gDiv at hz
  split at hz
  · split at hz
    · rename_i hf
      cases hz
      unfold divB at hf
      simp only [Bool.and_eq_true, decide_eq_true_eq] at hf
      have := Nat.le_of_ble_eq_true hf.2
      exact ⟨_, _, hx.int, hy.int, ⟨hf.1, by omega⟩, q _ _ _ (.refl s) (.int _)⟩
    · cases hz
  · cases hz
theorem d_mod : OpD K (rI (fun _ j => 0 < j) fun i j => .int (i % j)) gMod := by
  intro Hc H x y d e z Q s hx hy hz q
  unfold gMod at hz
  split at hz
  · split at hz
    · rename_i hf
      cases hz
      exact ⟨_, _, hx.int, hy.int, of_decide_eq_true hf, q _ _ _ (.refl s) (.int _)⟩
    · cases hz
  · cases hz
theorem d_eq : OpD K (rEqP K) gEq := by
  intro Hc H x y d e z Q s hx hy hz q
  unfold gEq at hz
  split at hz
  · rename_i hf
    cases hz
    obtain ⟨h1, h2⟩ := Bool.and_eq_true_iff.mp hf
    exact ⟨d, e, (hx.dv s).dp, (hy.dv s).dp, h1, h2, q _ _ _ (.refl s) (.bl _)⟩
  · cases hz
theorem d_ne : OpD K (rNeP K) gNe := by
  intro Hc H x y d e z Q s hx hy hz q
  unfold gNe at hz
  split at hz
  · rename_i hf
    cases hz
    obtain ⟨h1, h2⟩ := Bool.and_eq_true_iff.mp hf
    exact ⟨d, e, (hx.dv s).dp, (hy.dv s).dp, h1, h2, q _ _ _ (.refl s) (.bl _)⟩
  · cases hz
def rIn2 (K : PySem.W.Frag) (neg : Bool) : R2 := fun x y H Q => rInP K neg x y H Q ∨ ∃ (c : Nat) (z : Str), x = .str ⟨#[c]⟩ ∧ y = .str z ∧ Q (.bl (if neg then !decide (c ∈ z.cps.toList) else decide (c ∈ z.cps.toList))) H
theorem op_in2 (hu : X.A.units + 64 < cLine) : OpR X (compareOp .In) (rIn2 X.K false) := (op_inP hu).or op_in_sign
theorem op_notIn2 (hu : X.A.units + 64 < cLine) : OpR X (compareOp .NotIn) (rIn2 X.K true) := (op_notInP hu).or op_notIn_sign
theorem str_one {c : Str} {n : Nat} (h : c.cps.toList = [n]) : c = ⟨#[n]⟩ := by
  obtain ⟨cps⟩ := c
  have h2 : cps.toList = [n] := h
  have h3 : cps = #[n] := by rw [← Array.toArray_toList (xs := cps), h2]
  rw [h3]
theorem d_in {neg : Bool} : OpD K (rIn2 K neg) (gIn neg) := by
  intro Hc H x y d e z Q s hx hy hz q
  unfold gIn at hz
  split at hz
  · split at hz
    · rename_i hf
      cases hz
      obtain ⟨h1, h2⟩ := Bool.and_eq_true_iff.mp hf
      exact .inl ⟨_, _, (hx.dv s).dp, .inl (hy.dv s).dp, h1, h2, q _ _ _ (.refl s) (.bl _)⟩
    · cases hz
  · split at hz
    · rename_i hf
      cases hz
      obtain ⟨h1, h2⟩ := Bool.and_eq_true_iff.mp hf
      exact .inl ⟨_, _, (hx.dv s).dp, .inr (hy.dv s).dp, h1, h2, q _ _ _ (.refl s) (.bl _)⟩
    · cases hz
  · split at hz
    · rename_i hf
      cases hz
      have e1 := str_one hf
      subst e1
      exact .inr ⟨_, _, hx.str, hy.str, q _ _ _ (.refl s) (.bl _)⟩
    · cases hz
  · cases hz
def rIs2 (neg : Bool) : R2 := fun x y H Q => (y = .non ∧ Q (.bl (if neg then !decide (x = .non) else decide (x = .non))) H) ∨ ∃ a b : Bool, x = .bl a ∧ y = .bl b ∧ Q (.bl (if neg then !decide (a = b) else decide (a = b))) H
theorem op_is2 : OpR X (compareOp .Is) (rIs2 false) := op_isN.or op_isBl
theorem op_isnot2 : OpR X (compareOp .IsNot) (rIs2 true) := op_notN.or op_notBl
theorem Pk.nonIff {Hc H : Hp} {x : V} {d : D} (h : Pk K Hc H x d) : decide (x = .non) = (match d with
    | .none => true
    | _ => false) := by
  rcases h with h | ⟨a, vs, xs, rfl, rfl, _⟩
  · cases h <;> simp
  · simp
theorem d_is {neg : Bool} : OpD K (rIs2 neg) (gIs neg) := by
  intro Hc H x y d e z Q s hx hy hz q
  unfold gIs at hz
  split at hz
  · cases hz
    refine .inl ⟨hy.none, ?_⟩
    rw [hx.nonIff]
    have := q (.bl _) Hc H (.refl s) (.bl _)
    cases neg <;> cases d <;> exact this
  · cases hz
    exact .inr ⟨_, _, hx.bool, hy.bool, q _ _ _ (.refl s) (.bl _)⟩
  · cases hz
theorem ixN_of {n : Nat} {i : Int} {j : Nat} (h : ixN n i = some j) : j < n := (ixN_seq h).2.1
theorem DvAll.atI {H : Hp} {vs : List V} {ds : List D} {i : Int} {d : D} (h : DvAll K H vs ds) (e : L2.atI ds i = some d) : ∃ v, L2.atI vs i = some v ∧ Dv K H v d := by
  unfold L2.atI at e ⊢
  rw [h.length]
  cases hj : ixN ds.length i with
  | none => rw [hj] at e; cases e
  | some j =>
    rw [hj] at e
    exact h.get (show ds[j]? = some d from e)
theorem d_ix : OpD K (rIx K) gIx := by
  intro Hc H x y d e z Q s hx hy hz q
  unfold gIx at hz
  split at hz
  · obtain ⟨a, vs, rfl, h1, h2⟩ := hx.list s
    obtain ⟨v, h3, h4⟩ := h2.atI hz
    exact .inl ⟨a, vs, _, v, rfl, hy.int, SqL.of h1, h3, q _ _ _ (.refl s) h4⟩
  · obtain ⟨a, vs, rfl, h1, h2⟩ := hx.tuple s
    obtain ⟨v, h3, h4⟩ := h2.atI hz
    exact .inr (.inl ⟨a, vs, _, v, rfl, hy.int, h1, h3, q _ _ _ (.refl s) h4⟩)
  · split at hz
    · rename_i zz i hf
      cases hc : L2.atI zz.cps.toList i with
      | none => rw [hc] at hz; cases hz
      | some c =>
        rw [hc] at hz
        cases hz
        exact .inr (.inr ⟨_, _, c, hx.str, hy.int, fitB_le hf, hc, q _ _ _ (.refl s) (.str _)⟩)
    · cases hz
  · cases hz
end
end L2.DL

set_option Elab.async false
set_option linter.all false
set_option maxRecDepth 100000
set_option maxHeartbeats 1000000
/-! D layer 4: chains, tests, displays, slices, built-ins' calls. -/
namespace L2.DL
open PySem PySem.Spec PyProof.Rows
variable [TabL]

section
variable {X : Cx} {E : XK} {C : Addr} {e a b c : Expr} {es : List Expr} {pos : Pos}
abbrev RE (X : Cx) (E : XK) (C : Addr) (t : TE) (f : Ev D) : Prop := Reads1 X E C (T := Unit) t (fun _ _ _ Hc _ v d => Dv X.K Hc v d) f
abbrev RK (X : Cx) (E : XK) (C : Addr) (t : TE) (f : Ev D) : Prop := Reads1 X E C (T := Unit) t (fun ad env _ Hc _ v d => PkV X.K ad env Hc v d) f
abbrev RT (X : Cx) (E : XK) (C : Addr) (t : TT) (f : Ev Bool) : Prop := Reads1 X E C (T := Unit) t (fun _ _ _ _ _ (b c : Bool) => b = c) f

theorem ch2 {r r' : R2} {g g' : D → D → Option D} {fa fb fc : Ev D} {ta tb tc : TE} (hr : OpD X.K r g) (hr' : OpD X.K r' g') (ra : RK X E C ta fa) (rb : RK X E C tb fb) (rc : RK X E C tc fc) : RE X E C (tChain r r' ta tb tc) (evCh g g' fa fb fc) := fun ad da Hc H σ env s Q er q => by
  refine ra ad da Hc H σ env s _ er (Post.bind q fun d s1 _ v Hc1 H1 n1 e1 p1 q1 => ?_)
  refine rb ad da Hc1 H1 σ env s1 _ e1 (Post.bind q1 fun d2 s2 _ v2 Hc2 H2 n2 e2 p2 q2 => ?_)
  dsimp only at q2
  cases hg : g d d2 with
  | none => rw [hg] at q2; exact q2.elim
  | some z =>
    rw [hg] at q2
    refine hr Hc2 H2 v v2 d d2 z _ e2.sub ((p1.sub n2.sub).pk e2) (p2.pk e2) hg fun v' Hc' H' al hd => ?_
    cases z with
    | bool k =>
      cases hd
      refine ⟨k, rfl, ?_⟩
      cases k with
      | false => rw [if_neg Bool.false_ne_true]; exact q2 _ Hc' H' al.nx (al.er e2) (.bl _)
      | true =>
        rw [if_pos rfl]
        refine rc ad da Hc' H' σ env s2 _ (al.er e2) (Post.bind (Post.shift q2 al.nx) fun d3 s3 _ v3 Hc3 H3 n3 e3 p3 q3 => ?_)
        cases hg2 : g' d2 d3 with
        | none => rw [hg2] at q3; exact q3.elim
        | some z2 =>
          rw [hg2] at q3
          exact hr' Hc3 H3 v2 v3 d2 d3 z2 Q e3.sub (((p2.sub al.sub).sub n3.sub).pk e3) (p3.pk e3) hg2 fun v' Hc' H' al hd => q3 v' Hc' H' al.nx (al.er e3) hd
    | none => exact q2.elim
    | int _ => exact q2.elim
    | str _ => exact q2.elim
    | list _ => exact q2.elim
    | tuple _ => exact q2.elim
    | dict _ => exact q2.elim
theorem de_chain {op op' : CmpOp} {r r' : R2} {g g' : D → D → Option D} {fa fb fc : Ev D} (ho : OpR X (compareOp op) r) (ho' : OpR X (compareOp op') r') (hr : OpD X.K r g) (hr' : OpD X.K r' g') (h1 : lastMarks [op, op'] [b, c] = false)
    (ha : DK X E C a fa) (hb : DK X E C b fb) (hc : DK X E C c fc) : DE X E C (.Compare a [op, op'] [b, c] pos) (evCh g g' fa fb fc) := by
  obtain ⟨ta, pa, ra⟩ := ha
  obtain ⟨tb, pb, rb⟩ := hb
  obtain ⟨tc, pc, rc⟩ := hc
  exact ⟨_, pe_chain ho ho' pa pb pc h1, ch2 hr hr' ra rb rc⟩
/-- a reading of a truth value read as a test -/
theorem RE.test {t : TE} {f : Ev D} (h : RE X E C t f) : RT X E C (fun σ H Q => t σ H fun x H1 => ∃ k, x = .bl k ∧ Q k H1) (evB f) := fun ad da Hc H σ env s Q er q => by
  refine h ad da Hc H σ env s _ er (Post.bind q fun d s1 _ v Hc1 H1 n1 e1 p1 q1 => ?_)
  cases d with
  | bool k =>
    cases p1
    exact ⟨k, rfl, q1 k Hc1 H1 Nx.refl e1 rfl⟩
  | none => exact q1.elim
  | int _ => exact q1.elim
  | str _ => exact q1.elim
  | list _ => exact q1.elim
  | tuple _ => exact q1.elim
  | dict _ => exact q1.elim
theorem dt_chain {op op' : CmpOp} {r r' : R2} {g g' : D → D → Option D} {fa fb fc : Ev D} (ho : OpR X (compareOp op) r) (ho' : OpR X (compareOp op') r') (hr : OpD X.K r g) (hr' : OpD X.K r' g') (h1 : lastMarks [op, op'] [b, c] = false)
    (ha : DK X E C a fa) (hb : DK X E C b fb) (hc : DK X E C c fc) : DT X E C (.Compare a [op, op'] [b, c] pos) (evB (evCh g g' fa fb fc)) := by
  obtain ⟨ta, pa, ra⟩ := ha
  obtain ⟨tb, pb, rb⟩ := hb
  obtain ⟨tc, pc, rc⟩ := hc
  exact ⟨_, pt_chain ho ho' pa pb pc h1, RE.test (ch2 hr hr' ra rb rc)⟩

/-! ### truth -/
def gTru : D → Option Bool
  | .none => some false
  | .bool b => some b
  | .int i => some (i != 0)
  | .str y => if fitB y.length then some ((y.length : Int) != 0) else none
  | .list xs => some (!xs.isEmpty)
  | .tuple xs => some (!xs.isEmpty)
  | .dict _ => none
theorem DvAll.empty {K : PySem.W.Frag} {H : Hp} {vs : List V} {ds : List D} (h : DvAll K H vs ds) : vs.isEmpty = ds.isEmpty := by cases h <;> rfl
theorem gTru_ok {K : PySem.W.Frag} {Hc H : Hp} {v : V} {d : D} {k : Bool} (s : Sub Hc H) (h : Pk K Hc H v d) (e : gTru d = some k) : TruV K v H k := by
  cases d with
  | none => rw [h.none]; cases e; rfl
  | bool b => rw [h.bool]; cases e; rfl
  | int i => rw [h.int]; cases e; rfl
  | str y =>
    rw [h.str]
    have e' : (if fitB y.length = true then some ((y.length : Int) != 0) else none) = some k := e
    split at e'
    · rename_i hf
      cases e'
      exact ⟨fitB_le hf, rfl⟩
    · cases e'
  | list xs =>
    cases e
    obtain ⟨a, vs, rfl, h1, h2⟩ := h.list s
    exact .inl ⟨vs, SqL.of h1, by rw [h2.empty]⟩
  | tuple xs =>
    cases e
    obtain ⟨a, vs, rfl, h1, h2⟩ := h.tuple s
    exact .inr (.inl ⟨vs, h1, by rw [h2.empty]⟩)
  | dict _ => cases e
def evTru (f : Ev D) : Ev Bool := fun env s => (f env s).bind fun p => (R.ofO (gTru p.1)).bind fun k => .ok (k, p.2)
theorem RK.tru {t : TE} {f : Ev D} (h : RK X E C t f) : RT X E C (fun σ H Q => t σ H fun x H' => ∃ k, TruV X.K x H' k ∧ Q k H') (evTru f) := fun ad da Hc H σ env s Q er q => by
  refine h ad da Hc H σ env s _ er (Post.bind q fun d s1 _ v Hc1 H1 n1 e1 p1 q1 => ?_)
  cases hk : gTru d with
  | none => rw [hk] at q1; exact q1.elim
  | some k =>
    rw [hk] at q1
    exact ⟨k, gTru_ok e1.sub (p1.pk e1) hk, q1 k Hc1 H1 Nx.refl e1 rfl⟩
theorem dt_tru {f : Ev D} (h : DK X E C e f) (he : ∀ whole, isTrue e X.env whole = (do let v ← whole; standAt e.pos; holding [v] (truthy v))) : DT X E C e (evTru f) := by
  obtain ⟨t, p, r⟩ := h
  exact ⟨_, pt_truth p he, RK.tru r⟩
def evNot (f : Ev Bool) : Ev Bool := fun env s => (f env s).bind fun p => .ok (!p.1, p.2)
theorem dt_not {f : Ev Bool} (h : DT X E C e f) : DT X E C (.UnaryOp .Not e pos) (evNot f) := by
  obtain ⟨t, p, r⟩ := h
  refine ⟨_, pt_not p, fun ad da Hc H σ env s Q er q => r ad da Hc H σ env s _ er (Post.bind q fun d s1 _ v Hc1 H1 n1 e1 p1 q1 => ?_)⟩
  cases p1
  exact q1 _ Hc1 H1 Nx.refl e1 rfl
def evIf {α : Type} (fc : Ev Bool) (fa fb : Ev α) : Ev α := fun env s => (fc env s).bind fun p => if p.1 then fa env p.2 else fb env p.2
/-- and, or: as tests -/
def DW (X : Cx) (E : XK) (C : Addr) (e : Expr) (f : Ev Bool) : Prop := ∃ t : TT, PW X e t ∧ RT X E C t f
theorem DW.dt {f : Ev Bool} (h : DW X E C e f) : DT X E C e f := by
  obtain ⟨t, p, r⟩ := h
  exact ⟨t, p.pt, r⟩
def evTT : Ev Bool := fun _ s => .ok (true, s)
def evFF : Ev Bool := fun _ s => .ok (false, s)
theorem dw_one_and {f : Ev Bool} (h : DT X E C e f) : DW X E C (.BoolOp .And [e] pos) f := by
  obtain ⟨t, p, r⟩ := h
  exact ⟨t, pw_and1 p, r⟩
theorem dw_one_or {f : Ev Bool} (h : DT X E C e f) : DW X E C (.BoolOp .Or [e] pos) f := by
  obtain ⟨t, p, r⟩ := h
  exact ⟨t, pw_or1 p, r⟩
theorem dw_and {f g : Ev Bool} (h : DT X E C a f) (h2 : DW X E C (.BoolOp .And (b :: es) pos) g) : DW X E C (.BoolOp .And (a :: b :: es) pos) (evIf f g evFF) := by
  obtain ⟨t, p, r⟩ := h
  obtain ⟨u, p2, r2⟩ := h2
  refine ⟨_, pw_and p p2, fun ad da Hc H σ env s Q er q => r ad da Hc H σ env s _ er (Post.bind q fun d s1 _ v Hc1 H1 n1 e1 p1 q1 => ?_)⟩
  cases p1
  dsimp only at q1
  cases d with
  | true => rw [if_pos rfl] at q1 ⊢; exact r2 ad da Hc1 H1 σ env s1 _ e1 q1
  | false => rw [if_neg Bool.false_ne_true] at q1 ⊢; exact q1 false Hc1 H1 Nx.refl e1 rfl
theorem dw_or {f g : Ev Bool} (h : DT X E C a f) (h2 : DW X E C (.BoolOp .Or (b :: es) pos) g) : DW X E C (.BoolOp .Or (a :: b :: es) pos) (evIf f evTT g) := by
  obtain ⟨t, p, r⟩ := h
  obtain ⟨u, p2, r2⟩ := h2
  refine ⟨_, pw_or p p2, fun ad da Hc H σ env s Q er q => r ad da Hc H σ env s _ er (Post.bind q fun d s1 _ v Hc1 H1 n1 e1 p1 q1 => ?_)⟩
  cases p1
  dsimp only at q1
  cases d with
  | true => rw [if_pos rfl] at q1 ⊢; exact q1 true Hc1 H1 Nx.refl e1 rfl
  | false => rw [if_neg Bool.false_ne_true] at q1 ⊢; exact r2 ad da Hc1 H1 σ env s1 _ e1 q1
theorem de_if {fc : Ev Bool} {fa fb : Ev D} (hc : DT X E C c fc) (ha : DE X E C a fa) (hb : DE X E C b fb) : DE X E C (.IfExp c a b pos) (evIf fc fa fb) := by
  obtain ⟨t, p, r⟩ := hc
  obtain ⟨ta, pa, ra⟩ := ha
  obtain ⟨tb, pb, rb⟩ := hb
  refine ⟨_, pe_ifExp p pa pb, fun ad da Hc H σ env s Q er q => r ad da Hc H σ env s _ er (Post.bind q fun d s1 _ v Hc1 H1 n1 e1 p1 q1 => ?_)⟩
  cases p1
  dsimp only at q1
  cases d with
  | true => rw [if_pos rfl] at q1 ⊢; exact ra ad da Hc1 H1 σ env s1 _ e1 q1
  | false => rw [if_neg Bool.false_ne_true] at q1 ⊢; exact rb ad da Hc1 H1 σ env s1 _ e1 q1
/-- x and y, x or y, not x as values -/
def evAndV (fa fb : Ev D) : Ev D := fun env s => (fa env s).bind fun p => (R.ofO (gTru p.1)).bind fun k => if k then fb env p.2 else .ok p
def evOrV (fa fb : Ev D) : Ev D := fun env s => (fa env s).bind fun p => (R.ofO (gTru p.1)).bind fun k => if k then .ok p else fb env p.2
def evNotV (fa : Ev D) : Ev D := fun env s => (fa env s).bind fun p => (R.ofO (gTru p.1)).bind fun k => .ok (.bool (!k), p.2)
theorem de_one {op : BoolOp} {f : Ev D} (h : DE X E C e f) : DE X E C (.BoolOp op [e] pos) f := by
  obtain ⟨t, p, r⟩ := h
  exact ⟨t, pe_one p, r⟩
theorem de_and {f g : Ev D} (h : DE X E C a f) (h2 : DE X E C (.BoolOp .And (b :: es) pos) g) : DE X E C (.BoolOp .And (a :: b :: es) pos) (evAndV f g) := by
  obtain ⟨t, p, r⟩ := h
  obtain ⟨u, p2, r2⟩ := h2
  refine ⟨_, pe_andT p p2, fun ad da Hc H σ env s Q er q => r ad da Hc H σ env s _ er (Post.bind q fun d s1 _ v Hc1 H1 n1 e1 p1 q1 => ?_)⟩
  cases hk : gTru d with
  | none => rw [hk] at q1; exact q1.elim
  | some k =>
    rw [hk] at q1
    refine ⟨k, gTru_ok e1.sub (.inl p1) hk, ?_⟩
    cases k with
    | true => rw [if_pos rfl]; exact r2 ad da Hc1 H1 σ env s1 _ e1 q1
    | false => rw [if_neg Bool.false_ne_true]; exact q1 v Hc1 H1 Nx.refl e1 p1
theorem de_or {f g : Ev D} (h : DE X E C a f) (h2 : DE X E C (.BoolOp .Or (b :: es) pos) g) : DE X E C (.BoolOp .Or (a :: b :: es) pos) (evOrV f g) := by
  obtain ⟨t, p, r⟩ := h
  obtain ⟨u, p2, r2⟩ := h2
  refine ⟨_, pe_orT p p2, fun ad da Hc H σ env s Q er q => r ad da Hc H σ env s _ er (Post.bind q fun d s1 _ v Hc1 H1 n1 e1 p1 q1 => ?_)⟩
  cases hk : gTru d with
  | none => rw [hk] at q1; exact q1.elim
  | some k =>
    rw [hk] at q1
    refine ⟨k, gTru_ok e1.sub (.inl p1) hk, ?_⟩
    cases k with
    | true => rw [if_pos rfl]; exact q1 v Hc1 H1 Nx.refl e1 p1
    | false => rw [if_neg Bool.false_ne_true]; exact r2 ad da Hc1 H1 σ env s1 _ e1 q1
theorem de_not {f : Ev D} (h : DK X E C e f) : DE X E C (.UnaryOp .Not e pos) (evNotV f) := by
  obtain ⟨t, p, r⟩ := h
  refine ⟨_, pe_notT p, fun ad da Hc H σ env s Q er q => r ad da Hc H σ env s _ er (Post.bind q fun d s1 _ v Hc1 H1 n1 e1 p1 q1 => ?_)⟩
  cases hk : gTru d with
  | none => rw [hk] at q1; exact q1.elim
  | some k =>
    rw [hk] at q1
    exact ⟨k, gTru_ok e1.sub (p1.pk e1) hk, q1 _ Hc1 H1 Nx.refl e1 (.bl _)⟩
def gNeg : D → Option D
  | .int i => some (.int (-i))
  | _ => none
def ev1 (g : D → Option D) (fa : Ev D) : Ev D := fun env s => (fa env s).bind fun p => (R.ofO (g p.1)).bind fun z => .ok (z, p.2)
theorem de_neg {f : Ev D} (h : DE X E C e f) : DE X E C (.UnaryOp .USub e pos) (ev1 gNeg f) := by
  obtain ⟨t, p, r⟩ := h
  refine ⟨_, pe_un un_neg p, fun ad da Hc H σ env s Q er q => r ad da Hc H σ env s _ er (Post.bind q fun d s1 _ v Hc1 H1 n1 e1 p1 q1 => ?_)⟩
  cases d with
  | int i => cases p1; exact ⟨i, rfl, q1 _ Hc1 H1 Nx.refl e1 (.int _)⟩
  | none => exact q1.elim
  | bool _ => exact q1.elim
  | str _ => exact q1.elim
  | list _ => exact q1.elim
  | tuple _ => exact q1.elim
  | dict _ => exact q1.elim

/-! ### items, slices, displays -/
theorem de_ix {fa fb : Ev D} (ha : DK X E C a fa) (hb : DK X E C b fb) (hs : PlainIx b) : DE X E C (.Subscript a b pos) (ev2 gIx fa fb) := by
  obtain ⟨ta, pa, ra⟩ := ha
  obtain ⟨tb, pb, rb⟩ := hb
  exact ⟨_, pe_ix ix_seq pa pb hs, op2 d_ix ra rb⟩
/-- a slice's part -/
def DO (X : Cx) (E : XK) (C : Addr) (e : Option Expr) (f : Ev (Option Int)) : Prop := ∃ t : TO, PO X e t ∧ Reads1 X E C (T := Unit) t (fun _ _ _ _ _ (b c : Option Int) => b = c) f
def evNoP : Ev (Option Int) := fun _ s => .ok (none, s)
def evP (f : Ev D) : Ev (Option Int) := fun env s => (f env s).bind fun p => match p.1 with
  | .int i => .ok (some i, p.2)
  | _ => .stuck
theorem do_none : DO X E C none evNoP := ⟨tNoPart, po_none, fun ad da Hc H σ env s Q er q => q none Hc H Nx.refl er rfl⟩
theorem do_some {f : Ev D} (h : DE X E C e f) : DO X E C (some e) (evP f) := by
  obtain ⟨t, p, r⟩ := h
  refine ⟨_, po_some p, fun ad da Hc H σ env s Q er q => r ad da Hc H σ env s _ er (Post.bind q fun d s1 _ v Hc1 H1 n1 e1 p1 q1 => ?_)⟩
  cases d with
  | int i => cases p1; exact ⟨i, rfl, q1 _ Hc1 H1 Nx.refl e1 rfl⟩
  | none => exact q1.elim
  | bool _ => exact q1.elim
  | str _ => exact q1.elim
  | list _ => exact q1.elim
  | tuple _ => exact q1.elim
  | dict _ => exact q1.elim
def cutD (xs : List D) (lo hi : Option Int) : List D := (xs.drop (HT.sIx xs.length 0 lo)).take (HT.sIx xs.length xs.length hi - HT.sIx xs.length 0 lo)
def gSl : D → Option Int → Option Int → Option D
  | .list xs, lo, hi => some (.list (cutD xs lo hi))
  | .tuple xs, lo, hi => some (.tuple (cutD xs lo hi))
  | .str z, lo, hi => if fitB z.length then some (.str (cutS z lo hi)) else none
  | _, _, _ => none
def evSl (fa : Ev D) (fl fh : Ev (Option Int)) : Ev D := fun env s => (fa env s).bind fun p => (fl env p.2).bind fun l => (fh env l.2).bind fun h => (R.ofO (gSl p.1 l.1 h.1)).bind fun z => .ok (z, h.2)
def rSl3 (K : PySem.W.Frag) : V → Option Int → Option Int → Hp → VK → Prop := fun x lo hi H Q => rSlL K x lo hi H Q ∨ (rSlA K x lo hi H Q ∨ rSlS x lo hi H Q)
theorem sl_3 : SlR X (rSl3 X.K) := sl_list.or (sl_tupA.or sl_str)
theorem DvAll.cut {K : PySem.W.Frag} {H : Hp} {vs : List V} {ds : List D} (h : DvAll K H vs ds) (lo hi : Option Int) : DvAll K H (cutV vs lo hi) (cutD ds lo hi) := by
  unfold cutV cutD
  rw [h.length]
  exact (h.drop _).take _
theorem cut_whole {xs : List D} {lo hi : Option Int} (h : HT.sIx xs.length 0 lo = 0 ∧ HT.sIx xs.length xs.length hi = xs.length) : cutD xs lo hi = xs := by
  unfold cutD
  rw [h.1, h.2, List.drop_zero, Nat.sub_zero, List.take_length]
theorem d_sl {K : PySem.W.Frag} {Hc H : Hp} {x : V} {d z : D} {lo hi : Option Int} {Q : VK} (s : Sub Hc H) (hx : Pk K Hc H x d) (hz : gSl d lo hi = some z) (q : ∀ v Hc' H', Al Hc H Hc' H' → Dv K Hc' v z → Q v H') : rSl3 K x lo hi H Q := by
  unfold gSl at hz
  split at hz
  · cases hz
    obtain ⟨a, vs, rfl, h1, h2⟩ := hx.list s
    exact .inl ⟨a, vs, rfl, SqL.of h1, fun p hp => q _ _ _ (.new s hp) (.lst upd_same (((Sub.upd (s.none hp)).dvAll h2).cut _ _))⟩
  · cases hz
    obtain ⟨a, vs, rfl, h1, h2⟩ := hx.tuple s
    have t1 := hx.shut (fun _ z => nomatch z)
    refine .inr (.inl ⟨a, vs, rfl, h1, fun hw => ?_, fun _ p hp => q _ _ _ (.new s hp) (.tup (SqT.of upd_same) (((Sub.upd (s.none hp)).dvAll h2).cut _ _))⟩)
    rw [h2.length] at hw
    rw [cut_whole hw] at q
    exact q _ _ _ (.refl s) t1
  · split at hz
    · rename_i hf
      cases hz
      exact .inr (.inr ⟨_, hx.str, fitB_le hf, q _ _ _ (.refl s) (.str _)⟩)
    · cases hz
  · cases hz
theorem de_slice {lo hi : Option Expr} {p2 : Pos} {fa : Ev D} {fl fh : Ev (Option Int)} (ha : DK X E C a fa) (hl : DO X E C lo fl) (hh : DO X E C hi fh) : DE X E C (.Subscript a (.Slice lo hi none p2) pos) (evSl fa fl fh) := by
  obtain ⟨ta, pa, ra⟩ := ha
  obtain ⟨tl, pl, rl⟩ := hl
  obtain ⟨th, ph, rh⟩ := hh
  refine ⟨_, pe_slice sl_3 pa pl ph, fun ad da Hc H σ env s Q er q => ra ad da Hc H σ env s _ er (Post.bind q fun d s1 _ v Hc1 H1 n1 e1 p1 q1 => ?_)⟩
  refine rl ad da Hc1 H1 σ env s1 _ e1 (Post.bind q1 fun l s2 _ v2 Hc2 H2 n2 e2 p2 q2 => ?_)
  cases p2
  refine rh ad da Hc2 H2 σ env s2 _ e2 (Post.bind q2 fun l3 s3 _ v3 Hc3 H3 n3 e3 p3 q3 => ?_)
  cases p3
  dsimp only at q3
  cases hg : gSl d l l3 with
  | none => rw [hg] at q3; exact q3.elim
  | some z =>
    rw [hg] at q3
    exact d_sl e3.sub (((p1.sub n2.sub).sub n3.sub).pk e3) hg fun v' Hc' H' al hd => q3 v' Hc' H' al.nx (al.er e3) hd
theorem dae_nil : DAE X E C [] (fun _ s => .ok ([], s)) := ⟨tNil, pa_nil, fun ad da Hc H σ env s Q er q => q [] Hc H Nx.refl er .nil⟩
def evCons (fa : Ev D) (fr : Ev (List D)) : Ev (List D) := fun env s => (fa env s).bind fun p => (fr env p.2).bind fun q => .ok (p.1 :: q.1, q.2)
theorem dae_cons {fa : Ev D} {fr : Ev (List D)} (ha : DE X E C e fa) (hr : DAE X E C es fr) (hs : starEach (e :: es) X.env = (false, eval e X.env) :: starEach es X.env) : DAE X E C (e :: es) (evCons fa fr) := by
  obtain ⟨ta, pa, ra⟩ := ha
  obtain ⟨tr, pr, rr⟩ := hr
  refine ⟨_, pa_cons pa pr hs, fun ad da Hc H σ env s Q er q => ra ad da Hc H σ env s _ er (Post.bind q fun d s1 _ v Hc1 H1 n1 e1 p1 q1 => ?_)⟩
  refine rr ad da Hc1 H1 σ env s1 _ e1 (Post.bind q1 fun ds s2 _ vs Hc2 H2 n2 e2 p2 q2 => ?_)
  exact q2 _ Hc2 H2 Nx.refl e2 (.cons (n2.sub.dv p1) p2)
theorem dak_nil : DAK X E C [] (fun _ s => .ok ([], s)) := ⟨tNil, pa_nil, fun ad da Hc H σ env s Q er q => q [] Hc H Nx.refl er trivial⟩
theorem dak_cons {fa : Ev D} {fr : Ev (List D)} (ha : DK X E C e fa) (hr : DAK X E C es fr) (hs : starEach (e :: es) X.env = (false, eval e X.env) :: starEach es X.env) : DAK X E C (e :: es) (evCons fa fr) := by
  obtain ⟨ta, pa, ra⟩ := ha
  obtain ⟨tr, pr, rr⟩ := hr
  refine ⟨_, pa_cons pa pr hs, fun ad da Hc H σ env s Q er q => ra ad da Hc H σ env s _ er (Post.bind q fun d s1 _ v Hc1 H1 n1 e1 p1 q1 => ?_)⟩
  refine rr ad da Hc1 H1 σ env s1 _ e1 (Post.bind q1 fun ds s2 _ vs Hc2 H2 n2 e2 p2 q2 => ?_)
  exact q2 _ Hc2 H2 Nx.refl e2 ⟨p1.sub n2.sub, p2⟩
def evTup (f : Ev (List D)) : Ev D := fun env s => (f env s).bind fun p => if fitB p.1.length then .ok (.tuple p.1, p.2) else .stuck
def evLst (f : Ev (List D)) : Ev D := fun env s => (f env s).bind fun p => if fitB p.1.length then .ok (.list p.1, p.2) else .stuck
theorem de_tup {x1} {f : Ev (List D)} (h : DAE X E C es f) : DE X E C (.Tuple es x1 pos) (evTup f) := by
  obtain ⟨t, p, r⟩ := h
  refine ⟨_, pe_tup p, fun ad da Hc H σ env s Q er q => r ad da Hc H σ env s _ er (Post.bind q fun ds s1 _ vs Hc1 H1 n1 e1 p1 q1 => ?_)⟩
  dsimp only at q1
  split at q1
  · rename_i hf
    exact ⟨by rw [p1.length]; exact fitB_le hf, fun p hp => q1 _ _ _ (Al.new e1.sub hp).nx (e1.new hp) (.tup (SqT.of upd_same) ((Sub.upd (e1.sub.none hp)).dvAll p1))⟩
  · exact q1.elim
theorem de_lst {f : Ev (List D)} (h : DAE X E C es f) : DE X E C (.List es pos) (evLst f) := by
  obtain ⟨t, p, r⟩ := h
  refine ⟨_, pe_lst p, fun ad da Hc H σ env s Q er q => r ad da Hc H σ env s _ er (Post.bind q fun ds s1 _ vs Hc1 H1 n1 e1 p1 q1 => ?_)⟩
  dsimp only at q1
  split at q1
  · rename_i hf
    exact ⟨by rw [p1.length]; exact fitB_le hf, fun p hp => q1 _ _ _ (Al.new e1.sub hp).nx (e1.new hp) (.lst upd_same ((Sub.upd (e1.sub.none hp)).dvAll p1))⟩
  · exact q1.elim

/-! ### built-ins by their names -/
def CallD (K : PySem.W.Frag) (r : List V → Hp → VK → Prop) (g : List D → Option D) : Prop :=
  ∀ (Hc H : Hp) (vs : List V) (ds : List D) (z : D) (Q : VK), Sub Hc H → All2 (Pk K Hc H) vs ds → g ds = some z → (∀ v Hc' H', Al Hc H Hc' H' → Dv K Hc' v z → Q v H') → r vs H Q
def evB1 (g : List D → Option D) (f : Ev (List D)) : Ev D := fun env s => (f env s).bind fun p => (R.ofO (g p.1)).bind fun z => .ok (z, p.2)
theorem CallD.read {r : List V → Hp → VK → Prop} {g : List D → Option D} {t : TA} {f : Ev (List D)} (hr : CallD X.K r g) (h : Reads1 X E C (T := Unit) t (fun ad env _ Hc _ vs ds => All2 (PkV X.K ad env Hc) vs ds) f) : RE X E C (fun σ H Q => t σ H fun vs H1 => r vs H1 Q) (evB1 g f) := fun ad da Hc H σ env s Q er q => by
  refine h ad da Hc H σ env s _ er (Post.bind q fun ds s1 _ vs Hc1 H1 n1 e1 p1 q1 => ?_)
  cases hg : g ds with
  | none => rw [hg] at q1; exact q1.elim
  | some z =>
    rw [hg] at q1
    exact hr Hc1 H1 vs ds z Q e1.sub (p1.imp fun _ _ z => z.pk e1) hg fun v' Hc' H' al hd => q1 v' Hc' H' al.nx (al.er e1) hd
theorem de_callB {id : String} {x : Str} {p : Pos} {r : List V → Hp → VK → Prop} {g : List D → Option D} {f : Ev (List D)} (hr : CallD X.K r g) (hc : CallR X (.builtin id) r) (hg : Gl X x) (hm : X.mg x = none) (hv : bootBuiltins x = some (.builtin id)) (ha : DAK X E C (e :: es) f) (hn : x ≠ "__name__") (hd : (x == ("__debug__" : Str)) = false)
    (hs : starEach (e :: es) X.env = (false, eval e X.env) :: starEach es X.env) (hpl : (backTo pos (starEach es X.env)).any (·.1) = false) : DE X E C (.Call (.Name x p) (e :: es) [] pos) (evB1 g f) := by
  obtain ⟨t, pa, ra⟩ := ha
  exact ⟨_, pe_callB hc hg hm hv pa hn hd hs hpl, CallD.read hr ra⟩
end
end L2.DL

set_option Elab.async false
set_option linter.all false
set_option maxRecDepth 100000
set_option maxHeartbeats 1000000
/-! D layer 5: built-ins. -/
namespace L2.DL
open PySem PySem.Spec PyProof.Rows
variable [TabL]

def asI : List D → Option (List Int)
  | [] => some []
  | .int i :: r => (asI r).map (i :: ·)
  | _ :: _ => none
theorem asI_ok : ∀ {ds : List D} {ns : List Int}, asI ds = some ns → ds = ns.map PyData.int
  | [], ns, h => by cases h; rfl
  | .int i :: r, ns, h => by
    rw [asI] at h
    cases e : asI r with
    | none => rw [e] at h; cases h
    | some ms => rw [e] at h; cases h; rw [asI_ok e]; rfl
  | .none :: _, _, h => by cases h
  | .bool _ :: _, _, h => by cases h
  | .str _ :: _, _, h => by cases h
  | .list _ :: _, _, h => by cases h
  | .tuple _ :: _, _, h => by cases h
  | .dict _ :: _, _, h => by cases h
theorem asI_map (ns : List Int) : asI (ns.map PyData.int) = some ns := by
  induction ns with
  | nil => rfl
  | cons n ns ih => rw [List.map_cons, asI, ih]; rfl
/-- flat truth: numbers and truth values -/
def asT : List D → Option (List Bool)
  | [] => some []
  | .int i :: r => (asT r).map ((i != 0) :: ·)
  | .bool b :: r => (asT r).map (b :: ·)
  | _ :: _ => none
theorem asT_ok : ∀ {ds : List D} {bs : List Bool}, asT ds = some bs → PyData.plainAll ds = true ∧ (∀ x ∈ ds, x.fits63) ∧ ds.any PyData.truthy = bs.any id ∧ ds.all PyData.truthy = bs.all id
  | [], _, h => by cases h; exact ⟨rfl, fun _ hx => absurd hx (by simp), rfl, rfl⟩
  | .int i :: r, bs, h => by
    rw [asT] at h
    cases e : asT r with
    | none => rw [e] at h; cases h
    | some ms =>
      rw [e] at h; cases h
      obtain ⟨h1, h2, h3, h4⟩ := asT_ok e
      refine ⟨by rw [PyData.plainAll, h1]; rfl, fun x hx => ?_, by rw [List.any_cons, h3]; rfl, by rw [List.all_cons, h4]; rfl⟩
      rcases List.mem_cons.mp hx with rfl | hx
      · trivial
      · exact h2 x hx
  | .bool i :: r, bs, h => by
    rw [asT] at h
    cases e : asT r with
    | none => rw [e] at h; cases h
    | some ms =>
      rw [e] at h; cases h
      obtain ⟨h1, h2, h3, h4⟩ := asT_ok e
      refine ⟨by rw [PyData.plainAll, h1]; rfl, fun x hx => ?_, by rw [List.any_cons, h3]; rfl, by rw [List.all_cons, h4]; rfl⟩
      rcases List.mem_cons.mp hx with rfl | hx
      · trivial
      · exact h2 x hx
  | .none :: _, _, h => by cases h
  | .str _ :: _, _, h => by cases h
  | .list _ :: _, _, h => by cases h
  | .tuple _ :: _, _, h => by cases h
  | .dict _ :: _, _, h => by cases h

section
variable {X : Cx} {K : PySem.W.Frag}
/-! rules over the heap -/
def rSeqD (K : PySem.W.Frag) (vs : List V) (H : Hp) (ds : List D) : Prop := ∃ a, vs = [V.ref a] ∧ (Dp K H (.ref a) (.list ds) ∨ Dp K H (.ref a) (.tuple ds))
def rAnyT (K : PySem.W.Frag) : List V → Hp → VK → Prop := fun vs H Q => ∃ ds bs, rSeqD K vs H ds ∧ asT ds = some bs ∧ Q (.bl (bs.any id)) H
def rAllT (K : PySem.W.Frag) : List V → Hp → VK → Prop := fun vs H Q => ∃ ds bs, rSeqD K vs H ds ∧ asT ds = some bs ∧ Q (.bl (bs.all id)) H
theorem readsL {h : Heap} {a : Addr} {ds : List D} {as : List Addr} (r : Reads h (.ref a) (.list ds) as) : ∃ vs bs, h.IsList a vs ∧ ReadsAll h vs.toList ds bs := by
  cases r with
  | list h1 h2 h3 h4 => exact ⟨_, _, ⟨_, h1, h2, _, h3⟩, h4⟩
theorem readsT {h : Heap} {a : Addr} {ds : List D} {as : List Addr} (r : Reads h (.ref a) (.tuple ds) as) : ∃ vs bs, h.IsTuple a vs ∧ ReadsAll h vs.toList ds bs := by
  cases r with
  | tuple h1 h2 h3 h4 => exact ⟨_, _, ⟨_, h1, h2, _, h3⟩, h4⟩
theorem cr_anyT (hc : X.calm = true) : CallR X (.builtin "any") (rAnyT X.K) := by
  intro pins s σ H vs us Q I r h
  obtain ⟨ds, bs, ⟨a, rfl, hd⟩, hb, q⟩ := h
  rw [Vals.ref1 r]
  obtain ⟨h1, h2, h3, _⟩ := asT_ok hb
  rcases hd with hd | hd
  · obtain ⟨as, rr⟩ := Dp.reads I _ _ _ hd rfl
    obtain ⟨ws, cs, hl, hr⟩ := readsL rr
    exact PySem.W.any_list_data (I.ok.hd hc) hl hr h1 h2 fun h' tk hk => ⟨.bl _, H, I.kept hk, rfl, by rw [h3]; exact q⟩
  · obtain ⟨as, rr⟩ := Dp.reads I _ _ _ hd rfl
    obtain ⟨ws, cs, hl, hr⟩ := readsT rr
    exact PySem.W.any_tuple_data (I.ok.hd hc) hl hr h1 h2 fun h' tk hk => ⟨.bl _, H, I.kept hk, rfl, by rw [h3]; exact q⟩
theorem cr_allT (hc : X.calm = true) : CallR X (.builtin "all") (rAllT X.K) := by
  intro pins s σ H vs us Q I r h
  obtain ⟨ds, bs, ⟨a, rfl, hd⟩, hb, q⟩ := h
  rw [Vals.ref1 r]
  obtain ⟨h1, h2, _, h3⟩ := asT_ok hb
  rcases hd with hd | hd
  · obtain ⟨as, rr⟩ := Dp.reads I _ _ _ hd rfl
    obtain ⟨ws, cs, hl, hr⟩ := readsL rr
    exact PySem.W.all_list_data (I.ok.hd hc) hl hr h1 h2 fun h' tk hk => ⟨.bl _, H, I.kept hk, rfl, by rw [h3]; exact q⟩
  · obtain ⟨as, rr⟩ := Dp.reads I _ _ _ hd rfl
    obtain ⟨ws, cs, hl, hr⟩ := readsT rr
    exact PySem.W.all_tuple_data (I.ok.hd hc) hl hr h1 h2 fun h' tk hk => ⟨.bl _, H, I.kept hk, rfl, by rw [h3]; exact q⟩
def rSumA (K : PySem.W.Frag) : List V → Hp → VK → Prop := fun vs H Q => ∃ (a : Addr) (ns : List Int), vs = [V.ref a] ∧ (SqL K H a (ns.map V.int) ∨ SqT K H a (ns.map V.int)) ∧ Q (.int ns.sum) H
theorem sumT_raw {prog : Program} {w : World} {A : Around} {E : Value → Shared → Prop} {s : Shared} {l : Addr} {its : List Value} {ns : List Int} {Q : Value → Shared → Prop} (hh : A.handled = none) (hl : s.heap.IsTuple l its.toArray) (hi : IntsAre its ns)
    (h : ∀ h' tk t', (∀ b o, s.heap.get? b = some o → h'.get? b = some o) → Q (.int ns.sum t') { s with heap := h', toks := tk }) : wpAny (model prog w) A (call (.builtin "sum") [.ref l]) Q E s := by
  obtain ⟨xs, hx⟩ := hi.allInts.items
  have hn : numsOf its.toArray.toList = ns := by rw [show its.toArray.toList = its from rfl, hi.numsOf]
  rw [hx] at hl hn
  rw [nums_intItems] at hn
  refine PySem.W.ktm_sumG hh hl fun h' tk t' hk => ?_
  have := h h' tk t' hk
  rw [preSum_eq, List.take_of_length_le (by simp), hn]
  exact this
theorem cr_sumA (hc : X.calm = true) : CallR X (.builtin "sum") (rSumA X.K) := by
  intro pins s σ H vs us Q I r h
  obtain ⟨a, ns, rfl, hs, q⟩ := h
  rcases hs with hs | hs
  · exact cr_sum hc pins s σ H _ us Q I r ⟨a, ns, rfl, hs, q⟩
  · obtain ⟨its, rv, hl, _⟩ := I.tuple hs
    rw [Vals.ref1 r]
    exact sumT_raw (I.ok.hd hc) (show s.heap.IsTuple a its.toArray from hl) rv.ints fun h' tk t' hk => ⟨.int _, H, I.kept hk, ⟨_, rfl⟩, q⟩

/-! what they are on data -/
def gLen : List D → Option D
  | [.list xs] => some (.int xs.length)
  | [.tuple xs] => some (.int xs.length)
  | [.str y] => if fitB y.length then some (.int y.length) else none
  | _ => none
def rLenF (K : PySem.W.Frag) : List V → Hp → VK → Prop := fun xs H Q => ∃ x n, xs = [x] ∧ LenV K x H n ∧ Q (.int n) H
theorem All2.one {α β : Type} {P : α → β → Prop} {as : List α} {b : β} (h : All2 P as [b]) : ∃ a, as = [a] ∧ P a b := by
  cases as with
  | nil => exact h.elim
  | cons a r =>
    cases r with
    | nil => exact ⟨a, rfl, h.1⟩
    | cons _ _ => exact h.2.elim
theorem All2.two {α β : Type} {P : α → β → Prop} {as : List α} {b c : β} (h : All2 P as [b, c]) : ∃ a d, as = [a, d] ∧ P a b ∧ P d c := by
  cases as with
  | nil => exact h.elim
  | cons a r =>
    obtain ⟨d, rfl, h2⟩ := All2.one h.2
    exact ⟨a, d, rfl, h.1, h2⟩
theorem d_len : CallD K (rLenF K) gLen := by
  intro Hc H vs ds z Q s hx hz q
  unfold gLen at hz
  split at hz
  · cases hz
    obtain ⟨v, rfl, hp⟩ := hx.one
    obtain ⟨a, ws, rfl, h1, h2⟩ := hp.list s
    exact ⟨_, ws.length, rfl, .inl ⟨ws, SqL.of h1, rfl⟩, by rw [h2.length]; exact q _ _ _ (.refl s) (.int _)⟩
  · cases hz
    obtain ⟨v, rfl, hp⟩ := hx.one
    obtain ⟨a, ws, rfl, h1, h2⟩ := hp.tuple s
    exact ⟨_, ws.length, rfl, .inr ⟨ws, h1, rfl⟩, by rw [h2.length]; exact q _ _ _ (.refl s) (.int _)⟩
  · split at hz
    · rename_i hf
      cases hz
      obtain ⟨v, rfl, hp⟩ := hx.one
      rw [hp.str]
      exact ⟨_, _, rfl, ⟨fitB_le hf, rfl⟩, q _ _ _ (.refl s) (.int _)⟩
    · cases hz
  · cases hz
def gAny : List D → Option D
  | [.list xs] => (asT xs).map fun bs => .bool (bs.any id)
  | [.tuple xs] => (asT xs).map fun bs => .bool (bs.any id)
  | _ => none
def gAll : List D → Option D
  | [.list xs] => (asT xs).map fun bs => .bool (bs.all id)
  | [.tuple xs] => (asT xs).map fun bs => .bool (bs.all id)
  | _ => none
theorem Pk.ref_list {Hc H : Hp} {v : V} {xs : List D} (h : Pk K Hc H v (.list xs)) (s : Sub Hc H) : ∃ a, v = .ref a ∧ Dp K H (.ref a) (.list xs) := by
  obtain ⟨a, ws, rfl, h1, h2⟩ := h.list s
  exact ⟨a, rfl, (h.dv s).dp⟩
theorem Pk.ref_tuple {Hc H : Hp} {v : V} {xs : List D} (h : Pk K Hc H v (.tuple xs)) (s : Sub Hc H) : ∃ a, v = .ref a ∧ Dp K H (.ref a) (.tuple xs) := by
  obtain ⟨a, ws, rfl, h1, h2⟩ := h.tuple s
  exact ⟨a, rfl, (h.dv s).dp⟩
theorem d_any : CallD K (rAnyT K) gAny := by
  intro Hc H vs ds z Q s hx hz q
  unfold gAny at hz
  split at hz
  · obtain ⟨v, rfl, hp⟩ := hx.one
    rename_i xs
    cases hb : asT xs with
    | none => rw [hb] at hz; cases hz
    | some bs =>
      rw [hb] at hz; cases hz
      obtain ⟨a, rfl, h1⟩ := hp.ref_list s
      exact ⟨xs, bs, ⟨a, rfl, .inl h1⟩, hb, q _ _ _ (.refl s) (.bl _)⟩
  · obtain ⟨v, rfl, hp⟩ := hx.one
    rename_i xs
    cases hb : asT xs with
    | none => rw [hb] at hz; cases hz
    | some bs =>
      rw [hb] at hz; cases hz
      obtain ⟨a, rfl, h1⟩ := hp.ref_tuple s
      exact ⟨xs, bs, ⟨a, rfl, .inr h1⟩, hb, q _ _ _ (.refl s) (.bl _)⟩
  · cases hz
theorem d_all : CallD K (rAllT K) gAll := by
  intro Hc H vs ds z Q s hx hz q
  unfold gAll at hz
  split at hz
  · obtain ⟨v, rfl, hp⟩ := hx.one
    rename_i xs
    cases hb : asT xs with
    | none => rw [hb] at hz; cases hz
    | some bs =>
      rw [hb] at hz; cases hz
      obtain ⟨a, rfl, h1⟩ := hp.ref_list s
      exact ⟨xs, bs, ⟨a, rfl, .inl h1⟩, hb, q _ _ _ (.refl s) (.bl _)⟩
  · obtain ⟨v, rfl, hp⟩ := hx.one
    rename_i xs
    cases hb : asT xs with
    | none => rw [hb] at hz; cases hz
    | some bs =>
      rw [hb] at hz; cases hz
      obtain ⟨a, rfl, h1⟩ := hp.ref_tuple s
      exact ⟨xs, bs, ⟨a, rfl, .inr h1⟩, hb, q _ _ _ (.refl s) (.bl _)⟩
  · cases hz
def gSum : List D → Option D
  | [.list xs] => (asI xs).map fun ns => .int ns.sum
  | [.tuple xs] => (asI xs).map fun ns => .int ns.sum
  | _ => none
theorem d_sum : CallD K (rSumA K) gSum := by
  intro Hc H vs ds z Q s hx hz q
  unfold gSum at hz
  split at hz
  · obtain ⟨v, rfl, hp⟩ := hx.one
    rename_i xs
    cases hb : asI xs with
    | none => rw [hb] at hz; cases hz
    | some ns =>
      rw [hb] at hz; cases hz
      obtain ⟨a, ws, rfl, h1, h2⟩ := hp.list s
      rw [asI_ok hb] at h2
      rw [h2.map_int] at h1
      exact ⟨a, ns, rfl, .inl (SqL.of h1), q _ _ _ (.refl s) (.int _)⟩
  · obtain ⟨v, rfl, hp⟩ := hx.one
    rename_i xs
    cases hb : asI xs with
    | none => rw [hb] at hz; cases hz
    | some ns =>
      rw [hb] at hz; cases hz
      obtain ⟨a, ws, rfl, h1, h2⟩ := hp.tuple s
      rw [asI_ok hb] at h2
      rw [h2.map_int] at h1
      exact ⟨a, ns, rfl, .inr h1, q _ _ _ (.refl s) (.int _)⟩
  · cases hz
/-- the greatest, the least of numbers -/
def topI (n : Int) (ns : List Int) : Int := ns.foldl (fun a y => if a < y then y else a) n
def lowI (n : Int) (ns : List Int) : Int := ns.foldl (fun a y => if y < a then y else a) n
theorem topI_spec : ∀ (ns : List Int) (n : Int), topI n ns ∈ n :: ns ∧ ∀ y ∈ n :: ns, y ≤ topI n ns
  | [], n => ⟨List.mem_cons_self, fun y hy => by simp at hy; subst hy; exact Int.le_refl _⟩
  | m :: ns, n => by
    have e : topI n (m :: ns) = topI (if n < m then m else n) ns := rfl
    obtain ⟨h1, h2⟩ := topI_spec ns (if n < m then m else n)
    rw [e]
    have h3 := h2 _ List.mem_cons_self
    refine ⟨?_, fun y hy => ?_⟩
    · rcases List.mem_cons.mp h1 with h1 | h1
      · rw [h1]; split <;> simp
      · exact List.mem_cons_of_mem _ (List.mem_cons_of_mem _ h1)
    · have h5 : ∀ z ∈ ns, _ := fun z hz => h2 z (List.mem_cons_of_mem _ hz)
      generalize topI (if n < m then m else n) ns = t at h3 h5 ⊢
      rcases List.mem_cons.mp hy with rfl | hy
      · split at h3 <;> omega
      · rcases List.mem_cons.mp hy with rfl | hy
        · split at h3 <;> omega
        · exact h5 y hy
theorem lowI_spec : ∀ (ns : List Int) (n : Int), lowI n ns ∈ n :: ns ∧ ∀ y ∈ n :: ns, lowI n ns ≤ y
  | [], n => ⟨List.mem_cons_self, fun y hy => by simp at hy; subst hy; exact Int.le_refl _⟩
  | m :: ns, n => by
    have e : lowI n (m :: ns) = lowI (if m < n then m else n) ns := rfl
    obtain ⟨h1, h2⟩ := lowI_spec ns (if m < n then m else n)
    rw [e]
    have h3 := h2 _ List.mem_cons_self
    refine ⟨?_, fun y hy => ?_⟩
    · rcases List.mem_cons.mp h1 with h1 | h1
      · rw [h1]; split <;> simp
      · exact List.mem_cons_of_mem _ (List.mem_cons_of_mem _ h1)
    · have h5 : ∀ z ∈ ns, _ := fun z hz => h2 z (List.mem_cons_of_mem _ hz)
      generalize lowI (if m < n then m else n) ns = t at h3 h5 ⊢
      rcases List.mem_cons.mp hy with rfl | hy
      · split at h3 <;> omega
      · rcases List.mem_cons.mp hy with rfl | hy
        · split at h3 <;> omega
        · exact h5 y hy
def gMax : List D → Option D
  | [.list xs] => (asI xs).bind fun ns => match ns with
    | n :: r => some (.int (topI n r))
    | [] => none
  | [.tuple xs] => (asI xs).bind fun ns => match ns with
    | n :: r => some (.int (topI n r))
    | [] => none
  | [.int i, .int j] => some (.int (if j > i then j else i))
  | _ => none
def gMin : List D → Option D
  | [.list xs] => (asI xs).bind fun ns => match ns with
    | n :: r => some (.int (lowI n r))
    | [] => none
  | [.tuple xs] => (asI xs).bind fun ns => match ns with
    | n :: r => some (.int (lowI n r))
    | [] => none
  | [.int i, .int j] => some (.int (if j < i then j else i))
  | _ => none
def rMaxT (K : PySem.W.Frag) : List V → Hp → VK → Prop := fun vs H Q => ∃ (a : Addr) (n : Int) (ns : List Int), vs = [V.ref a] ∧ SqT K H a ((n :: ns).map V.int) ∧ Q (.int (topI n ns)) H
def rMinT (K : PySem.W.Frag) : List V → Hp → VK → Prop := fun vs H Q => ∃ (a : Addr) (n : Int) (ns : List Int), vs = [V.ref a] ∧ SqT K H a ((n :: ns).map V.int) ∧ Q (.int (lowI n ns)) H
def rMax2 (K : PySem.W.Frag) : List V → Hp → VK → Prop := fun xs H Q => (rMax K xs H Q ∨ rMaxT K xs H Q) ∨ ∃ i j, xs = [.int i, .int j] ∧ Q (.int (if j > i then j else i)) H
def rMin2 (K : PySem.W.Frag) : List V → Hp → VK → Prop := fun xs H Q => (rMin K xs H Q ∨ rMinT K xs H Q) ∨ ∃ i j, xs = [.int i, .int j] ∧ Q (.int (if j < i then j else i)) H
theorem CallR.or {f : Value} {r r' : List V → Hp → VK → Prop} (h : CallR X f r) (h' : CallR X f r') : CallR X f fun xs H Q => r xs H Q ∨ r' xs H Q := by
  intro pins s σ H vs us Q I r q
  rcases q with q | q
  · exact h pins s σ H vs us Q I r q
  · exact h' pins s σ H vs us Q I r q
theorem topI_max : ∀ (ns : List Int) (n : Int), ns.foldl max n = topI n ns
  | [], _ => rfl
  | m :: ns, n => by
    show ns.foldl max (max n m) = topI (if n < m then m else n) ns
    rw [topI_max ns]
    congr 1
    split <;> omega
theorem lowI_min : ∀ (ns : List Int) (n : Int), ns.foldl min n = lowI n ns
  | [], _ => rfl
  | m :: ns, n => by
    show ns.foldl min (min n m) = lowI (if m < n then m else n) ns
    rw [lowI_min ns]
    congr 1
    split <;> omega
theorem dp_ints {K : PySem.W.Frag} {H : Hp} : ∀ (ns : List Int), DpAll K H (ns.map V.int) (ns.map PyData.int)
  | [] => .nil
  | n :: ns => .cons (.int n) (dp_ints ns)
theorem depth_ints0 : ∀ xs : List Int, PyData.depthAll (xs.map PyData.int) = 0
  | [] => by simp [PyData.depthAll]
  | x :: xs => by
    rw [List.map_cons, PyData.depthAll, depth_ints0 xs]
    simp [PyData.depth]
theorem alike_all (xs : List Int) : PySem.W.AlikeAll (xs.map PyData.int) := by
  constructor
  · intro x hx y hy
    obtain ⟨i, _, rfl⟩ := List.mem_map.mp hx
    obtain ⟨j, _, rfl⟩ := List.mem_map.mp hy
    simp [PySem.W.alike]
  · intro x hx
    obtain ⟨i, _, rfl⟩ := List.mem_map.mp hx
    exact fun z => nomatch z
theorem cr_maxT (hc : X.calm = true) (hu : X.A.units + 64 < cLine) : CallR X (.builtin "max") (rMaxT X.K) := by
  intro pins s σ H vs us Q I r h
  obtain ⟨a, n, ns, rfl, hs, q⟩ := h
  obtain ⟨its, rv, pl, hz⟩ := I.tuple hs
  rw [Vals.ref1 r]
  obtain ⟨as, hr⟩ := Dp.readsAll I _ _ _ (dp_ints (n :: ns)) rv
  refine PySem.W.max_tuple_data (I.ok.hd hc) pl (by simpa using hr) (alike_all (n :: ns)) (by rw [← List.map_cons (f := PyData.int), depth_ints0]; omega) fun i v h' tk bs hv hrd hk => ?_
  rw [PySem.W.maxD_ints, topI_max] at hrd
  cases hrd
  exact ⟨.int (topI n ns), H, (I.kept fun b o e => hk b o e), ⟨_, rfl⟩, q⟩
theorem cr_minT (hc : X.calm = true) (hu : X.A.units + 64 < cLine) : CallR X (.builtin "min") (rMinT X.K) := by
  intro pins s σ H vs us Q I r h
  obtain ⟨a, n, ns, rfl, hs, q⟩ := h
  obtain ⟨its, rv, pl, hz⟩ := I.tuple hs
  rw [Vals.ref1 r]
  obtain ⟨as, hr⟩ := Dp.readsAll I _ _ _ (dp_ints (n :: ns)) rv
  refine PySem.W.min_tuple_data (I.ok.hd hc) pl (by simpa using hr) (alike_all (n :: ns)) (by rw [← List.map_cons (f := PyData.int), depth_ints0]; omega) fun i v h' tk bs hv hrd hk => ?_
  rw [PySem.W.minD_ints, lowI_min] at hrd
  cases hrd
  exact ⟨.int (lowI n ns), H, (I.kept fun b o e => hk b o e), ⟨_, rfl⟩, q⟩
theorem cr_max2 (hc : X.calm = true) (hu : X.A.units + 64 < cLine) : CallR X (.builtin "max") (rMax2 X.K) := CallR.or (CallR.or (cr_max hc) (cr_maxT hc hu)) (call_max2 hc)
theorem cr_min2 (hc : X.calm = true) (hu : X.A.units + 64 < cLine) : CallR X (.builtin "min") (rMin2 X.K) := CallR.or (CallR.or (cr_min hc) (cr_minT hc hu)) (call_min2 hc)
theorem d_max : CallD K (rMax2 K) gMax := by
  intro Hc H vs ds z Q s hx hz q
  unfold gMax at hz
  split at hz
  · obtain ⟨v, rfl, hp⟩ := hx.one
    rename_i xs
    cases hb : asI xs with
    | none => rw [hb] at hz; cases hz
    | some ns =>
      rw [hb] at hz
      cases ns with
      | nil => cases hz
      | cons n r =>
        cases hz
        obtain ⟨a, ws, rfl, h1, h2⟩ := hp.list s
        rw [asI_ok hb] at h2
        rw [h2.map_int] at h1
        refine .inl (.inl ⟨a, n :: r, rfl, SqL.of h1, by simp, fun m hm hle => ?_⟩)
        obtain ⟨t1, t2⟩ := topI_spec r n
        have e : m = topI n r := Int.le_antisymm (t2 m hm) (hle _ t1)
        rw [e]
        exact q _ _ _ (.refl s) (.int _)
  · obtain ⟨v, rfl, hp⟩ := hx.one
    rename_i xs
    cases hb : asI xs with
    | none => rw [hb] at hz; cases hz
    | some ns =>
      rw [hb] at hz
      cases ns with
      | nil => cases hz
      | cons n r =>
        cases hz
        obtain ⟨a, ws, rfl, h1, h2⟩ := hp.tuple s
        rw [asI_ok hb] at h2
        rw [h2.map_int] at h1
        exact .inl (.inr ⟨a, n, r, rfl, h1, q _ _ _ (.refl s) (.int _)⟩)
  · cases hz
    obtain ⟨x, y, rfl, hp, hp2⟩ := hx.two
    rw [hp.int, hp2.int]
    exact .inr ⟨_, _, rfl, q _ _ _ (.refl s) (.int _)⟩
  · cases hz
theorem d_min : CallD K (rMin2 K) gMin := by
  intro Hc H vs ds z Q s hx hz q
  unfold gMin at hz
  split at hz
  · obtain ⟨v, rfl, hp⟩ := hx.one
    rename_i xs
    cases hb : asI xs with
    | none => rw [hb] at hz; cases hz
    | some ns =>
      rw [hb] at hz
      cases ns with
      | nil => cases hz
      | cons n r =>
        cases hz
        obtain ⟨a, ws, rfl, h1, h2⟩ := hp.list s
        rw [asI_ok hb] at h2
        rw [h2.map_int] at h1
        refine .inl (.inl ⟨a, n :: r, rfl, SqL.of h1, by simp, fun m hm hle => ?_⟩)
        obtain ⟨t1, t2⟩ := lowI_spec r n
        have e : m = lowI n r := Int.le_antisymm (hle _ t1) (t2 m hm)
        rw [e]
        exact q _ _ _ (.refl s) (.int _)
  · obtain ⟨v, rfl, hp⟩ := hx.one
    rename_i xs
    cases hb : asI xs with
    | none => rw [hb] at hz; cases hz
    | some ns =>
      rw [hb] at hz
      cases ns with
      | nil => cases hz
      | cons n r =>
        cases hz
        obtain ⟨a, ws, rfl, h1, h2⟩ := hp.tuple s
        rw [asI_ok hb] at h2
        rw [h2.map_int] at h1
        exact .inl (.inr ⟨a, n, r, rfl, h1, q _ _ _ (.refl s) (.int _)⟩)
  · cases hz
    obtain ⟨x, y, rfl, hp, hp2⟩ := hx.two
    rw [hp.int, hp2.int]
    exact .inr ⟨_, _, rfl, q _ _ _ (.refl s) (.int _)⟩
  · cases hz
def gAbs : List D → Option D
  | [.int i] => some (.int (if i < 0 then -i else i))
  | _ => none
theorem d_abs : CallD K (fun xs H Q => ∃ i, xs = [.int i] ∧ Q (.int (if i < 0 then -i else i)) H) gAbs := by
  intro Hc H vs ds z Q s hx hz q
  unfold gAbs at hz
  split at hz
  · cases hz
    obtain ⟨v, rfl, hp⟩ := hx.one
    rw [hp.int]
    exact ⟨_, rfl, q _ _ _ (.refl s) (.int _)⟩
  · cases hz
def gInt : List D → Option D
  | [.int i] => some (.int i)
  | [.bool b] => some (.int (if b then 1 else 0))
  | _ => none
theorem d_int : CallD K (fun xs H Q => (∃ i, xs = [.int i] ∧ Q (.int i) H) ∨ ∃ k, xs = [.bl k] ∧ Q (.int (if k then 1 else 0)) H) gInt := by
  intro Hc H vs ds z Q s hx hz q
  unfold gInt at hz
  split at hz
  · cases hz
    obtain ⟨v, rfl, hp⟩ := hx.one
    rw [hp.int]
    exact .inl ⟨_, rfl, q _ _ _ (.refl s) (.int _)⟩
  · cases hz
    obtain ⟨v, rfl, hp⟩ := hx.one
    rw [hp.bool]
    exact .inr ⟨_, rfl, q _ _ _ (.refl s) (.int _)⟩
  · cases hz
def gList : List D → Option D
  | [.list xs] => some (.list xs)
  | [.tuple xs] => some (.list xs)
  | _ => none
theorem d_list : CallD K (fun xs H Q => ∃ p ys, xs = [.ref p] ∧ (SqL K H p ys ∨ SqT K H p ys) ∧ ∀ l, H l = none → Q (.ref l) (upd H l (.lst ys))) gList := by
  intro Hc H vs ds z Q s hx hz q
  unfold gList at hz
  split at hz
  · cases hz
    obtain ⟨v, rfl, hp⟩ := hx.one
    obtain ⟨a, ws, rfl, h1, h2⟩ := hp.list s
    exact ⟨a, ws, rfl, .inl (SqL.of h1), fun p hp => q _ _ _ (.new s hp) (.lst upd_same ((Sub.upd (s.none hp)).dvAll h2))⟩
  · cases hz
    obtain ⟨v, rfl, hp⟩ := hx.one
    obtain ⟨a, ws, rfl, h1, h2⟩ := hp.tuple s
    exact ⟨a, ws, rfl, .inr h1, fun p hp => q _ _ _ (.new s hp) (.lst upd_same ((Sub.upd (s.none hp)).dvAll h2))⟩
  · cases hz
def gTuple : List D → Option D
  | [.list xs] => some (.tuple xs)
  | [.tuple xs] => some (.tuple xs)
  | _ => none
theorem d_tuple : CallD K (fun xs H Q => ∃ p ys, xs = [.ref p] ∧ ((SqL K H p ys ∧ ∀ l, H l = none → Q (.ref l) (upd H l (.tup ys))) ∨ (SqT K H p ys ∧ Q (.ref p) H))) gTuple := by
  intro Hc H vs ds z Q s hx hz q
  unfold gTuple at hz
  split at hz
  · cases hz
    obtain ⟨v, rfl, hp⟩ := hx.one
    obtain ⟨a, ws, rfl, h1, h2⟩ := hp.list s
    exact ⟨a, ws, rfl, .inl ⟨SqL.of h1, fun p hp => q _ _ _ (.new s hp) (.tup (SqT.of upd_same) ((Sub.upd (s.none hp)).dvAll h2))⟩⟩
  · cases hz
    obtain ⟨v, rfl, hp⟩ := hx.one
    have t1 := hp.shut (fun _ z => nomatch z)
    obtain ⟨a, ws, rfl, h1, h2⟩ := hp.tuple s
    exact ⟨a, ws, rfl, .inr ⟨h1, q _ _ _ (.refl s) t1⟩⟩
  · cases hz
end
section
variable {X : Cx} {E : XK} {C : Addr} {e a b c : Expr} {es : List Expr} {pos : Pos}
theorem de_callTy {T : String} {x : Str} {p : Pos} {r : List V → Hp → VK → Prop} {g : List D → Option D} {f : Ev (List D)} (hr : CallD X.K r g) (hc : CallR X (.type T) r) (hg : Gl X x) (hm : X.mg x = none) (hv : bootBuiltins x = some (.type T)) (ha : DAK X E C (e :: es) f) (hn : x ≠ "__name__") (hd : (x == ("__debug__" : Str)) = false)
    (hs : starEach (e :: es) X.env = (false, eval e X.env) :: starEach es X.env) (hpl : (backTo pos (starEach es X.env)).any (·.1) = false) : DE X E C (.Call (.Name x p) (e :: es) [] pos) (evB1 g f) := by
  obtain ⟨t, pa, ra⟩ := ha
  exact ⟨_, pe_callTy hc hg hm hv pa hn hd hs hpl, CallD.read hr ra⟩
end
end L2.DL

set_option Elab.async false
set_option linter.all false
set_option maxRecDepth 100000
set_option maxHeartbeats 1000000
/-! D layer 6: calls of defs, comprehensions. -/
namespace L2.DL
open PySem PySem.Spec PyProof.Rows
variable [TabL]

/-! ### calls -/
abbrev Fn := List Sl → Dr → R (D × Dr)
def ArgV (K : PySem.W.Frag) (da : Option Addr) (Hc : Hp) (v : V) : Sl → Prop
  | .val d => Dv K Hc v d
  | .drw => ∃ a, v = .ref a ∧ da = some a
  | .scr ns => ∃ a, v = .ref a ∧ SqL K Hc a (ns.map V.int)
  | _ => False
def ArgE (K : PySem.W.Frag) (ad : Nat → Addr) (env : En) (Hc : Hp) (v : V) : Sl → Prop
  | .val d => Dv K Hc v d
  | .drw => ∃ i, env[i]? = some .drw ∧ v = .ref (ad i)
  | .scr ns => ∃ a, v = .ref a ∧ SqL K Hc a (ns.map V.int)
  | _ => False
def isDrw : Sl → Bool
  | .drw => true
  | _ => false
/-- how many arguments are the draws -/
def drwN (args : List Sl) : Nat := (args.filter isDrw).length
structure ArgsOk (K : PySem.W.Frag) (Hc H : Hp) (s : Dr) (da : Option Addr) (vs : List V) (args : List Sl) : Prop where
  sub : Sub Hc H
  all : All2 (ArgV K da Hc) vs args
  dr : ∀ a, da = some a → DrAt K Hc H a s ∧ Hc a = none
  one : drwN args ≤ 1
  tabs : Tbs H
  noT : NoT Hc
def FPost (K : PySem.W.Frag) (E : XK) (C : Addr) (da : Option Addr) (Hc H : Hp) (Q : VK) : R (D × Dr) → Prop
  | .ok (d, s') => ∀ v Hc' H', Nx da Hc H Hc' H' → Sub Hc' H' → (∀ a, da = some a → DrAt K Hc' H' a s' ∧ Hc' a = none) → Dv K Hc' v d → Q v H'
  | .err c => ∀ dx H', Nx da Hc H Hc H' → H' dx = some (.xd [(("code" : Str), .str c)]) → E (.ref C) (some dx) H'
  | .stuck => False
/-- a def's promise by its pure function -/
def spF (K : PySem.W.Frag) (C : Addr) (n : Nat) (F : Fn) : Sp := fun vs H Q E => ∃ Hc s da args, args.length = n ∧ ArgsOk K Hc H s da vs args ∧ FPost K E C da Hc H Q (F args s)
def evCall (n : Nat) (F : Fn) (fa : Ev (List Sl)) : Ev D := fun env s => (fa env s).bind fun p => if p.1.length = n then (match drwN p.1 with
  | 0 => (F p.1 p.2).bind fun q => .ok (q.1, p.2)
  | 1 => F p.1 p.2
  | _ => .stuck) else .stuck
section
variable (X : Cx) (E : XK) (C : Addr)
def DAA (es : List Expr) (f : Ev (List Sl)) : Prop := ∃ t : TA, PA X es t ∧ Reads1 X E C (T := Unit) t (fun ad env _ Hc _ vs ds => All2 (ArgE X.K ad env Hc) vs ds) f
end
def evArgs0 : Ev (List Sl) := fun _ s => .ok ([], s)
def evArgC (fa : Ev D) (fr : Ev (List Sl)) : Ev (List Sl) := fun env s => (fa env s).bind fun p => (fr env p.2).bind fun q => .ok (.val p.1 :: q.1, q.2)
def evArgV (i : Nat) (fr : Ev (List Sl)) : Ev (List Sl) := fun env s => match env[i]? with
  | some (.val d) => (fr env s).bind fun q => .ok (.val d :: q.1, q.2)
  | some .drw => (fr env s).bind fun q => .ok (.drw :: q.1, q.2)
  | some (.scr ns) => (fr env s).bind fun q => .ok (.scr ns :: q.1, q.2)
  | _ => .stuck
section
variable {X : Cx} {E : XK} {C : Addr} {e a b c : Expr} {es : List Expr} {pos : Pos}
theorem ArgE.mono {K : PySem.W.Frag} {ad : Nat → Addr} {env : En} {Hc Hc1 : Hp} {v : V} {x : Sl} (h : ArgE K ad env Hc v x) (u : Sub Hc Hc1) : ArgE K ad env Hc1 v x := by
  cases x with
  | val d => exact u.dv h
  | drw => exact h
  | no => exact h
  | lst _ _ => exact h
  | dct _ => exact h
  | scr _ =>
    obtain ⟨a, h1, h2⟩ := h
    exact ⟨a, h1, u.sqL h2⟩
theorem daa_nil : DAA X E C [] evArgs0 := ⟨tNil, pa_nil, fun ad da Hc H σ env s Q er q => q [] Hc H Nx.refl er trivial⟩
theorem daa_cons {fa : Ev D} {fr : Ev (List Sl)} (ha : DE X E C e fa) (hr : DAA X E C es fr) (hs : starEach (e :: es) X.env = (false, eval e X.env) :: starEach es X.env) : DAA X E C (e :: es) (evArgC fa fr) := by
  obtain ⟨ta, pa, ra⟩ := ha
  obtain ⟨tr, pr, rr⟩ := hr
  refine ⟨_, pa_cons pa pr hs, fun ad da Hc H σ env s Q er q => ra ad da Hc H σ env s _ er (Post.bind q fun d s1 _ v Hc1 H1 n1 e1 p1 q1 => ?_)⟩
  refine rr ad da Hc1 H1 σ env s1 _ e1 (Post.bind q1 fun ds s2 _ vs Hc2 H2 n2 e2 p2 q2 => ?_)
  exact q2 _ Hc2 H2 Nx.refl e2 ⟨n2.sub.dv p1, p2⟩
theorem daa_var {i : Nat} {x : Str} {p : Pos} {fr : Ev (List Sl)} (hN : X.N[i]? = some x) (hv : Vis X.env.scope x) (hd : (x == ("__debug__" : Str)) = false) (hcd : (x == ("__classdict__" : Str)) = false) (hr : DAA X E C es fr)
    (hs : starEach (.Name x p :: es) X.env = (false, eval (.Name x p) X.env) :: starEach es X.env) : DAA X E C (.Name x p :: es) (evArgV i fr) := by
  obtain ⟨tr, pr, rr⟩ := hr
  refine ⟨_, pa_cons (pe_var hN hv hd hcd) pr hs, fun ad da Hc H σ env s Q er q => ?_⟩
  unfold evArgV at q
  cases hx : env[i]? with
  | none => rw [hx] at q; exact q.elim
  | some x =>
    rw [hx] at q
    cases x with
    | val d =>
      obtain ⟨v, h1, h2⟩ := er.slot i _ hx
      refine ⟨v, h1, rr ad da Hc H σ env s _ er (Post.bind q fun ds s2 _ vs Hc2 H2 n2 e2 p2 q2 => ?_)⟩
      exact q2 _ Hc2 H2 Nx.refl e2 ⟨n2.sub.dv h2, p2⟩
    | drw =>
      have h1 := er.slot i _ hx
      refine ⟨_, h1, rr ad da Hc H σ env s _ er (Post.bind q fun ds s2 _ vs Hc2 H2 n2 e2 p2 q2 => ?_)⟩
      exact q2 _ Hc2 H2 Nx.refl e2 ⟨⟨i, hx, rfl⟩, p2⟩
    | no => exact q.elim
    | lst lk xs => exact q.elim
    | dct _ => exact q.elim
    | scr ns =>
      obtain ⟨a, h1, h2⟩ := er.slot i _ hx
      refine ⟨_, h1, rr ad da Hc H σ env s _ er (Post.bind q fun ds s2 _ vs Hc2 H2 n2 e2 p2 q2 => ?_)⟩
      exact q2 _ Hc2 H2 Nx.refl e2 ⟨⟨a, rfl, n2.sub.sqL h2⟩, p2⟩
theorem ArgE.argV {K : PySem.W.Frag} {ad : Nat → Addr} {da : Option Addr} {env : En} {Hc H : Hp} {σ : St} {s : Dr} {v : V} {x : Sl} (h : ArgE K ad env Hc v x) (er : ER K ad da Hc H σ env s) : ArgV K da Hc v x := by
  cases x with
  | val d => exact h
  | drw =>
    obtain ⟨i, h1, h2⟩ := h
    exact ⟨_, h2, er.drs i h1⟩
  | no => exact h
  | lst _ _ => exact h
  | scr _ => exact h
  | dct _ => exact h
theorem drw_mem {args : List Sl} (h : drwN args ≠ 0) : Sl.drw ∈ args := by
  induction args with
  | nil => exact absurd rfl h
  | cons a r ih =>
    cases a with
    | drw => exact List.mem_cons_self
    | no => exact List.mem_cons_of_mem _ (ih h)
    | val d => exact List.mem_cons_of_mem _ (ih h)
    | lst _ _ => exact List.mem_cons_of_mem _ (ih h)
    | scr _ => exact List.mem_cons_of_mem _ (ih h)
    | dct _ => exact List.mem_cons_of_mem _ (ih h)
theorem argV_none {K : PySem.W.Frag} {da : Option Addr} {Hc : Hp} : ∀ {vs : List V} {args : List Sl}, All2 (ArgV K da Hc) vs args → drwN args = 0 → All2 (ArgV K none Hc) vs args
  | [], [], _, _ => trivial
  | v :: vs, x :: args, h, hn => by
    cases x with
    | drw => simp [drwN, isDrw] at hn
    | val d => exact ⟨h.1, argV_none h.2 hn⟩
    | no => exact ⟨h.1, argV_none h.2 hn⟩
    | lst _ _ => exact ⟨h.1, argV_none h.2 hn⟩
    | scr _ => exact ⟨h.1, argV_none h.2 hn⟩
    | dct _ => exact ⟨h.1, argV_none h.2 hn⟩
theorem All2.mem {α β : Type} {P : α → β → Prop} : ∀ {as : List α} {bs : List β} {b : β}, All2 P as bs → b ∈ bs → ∃ a, P a b
  | [], [], b, _, hm => absurd hm (by simp)
  | a :: as, c :: bs, b, h, hm => by
    rcases List.mem_cons.mp hm with rfl | hm
    · exact ⟨a, h.1⟩
    · exact All2.mem h.2 hm
theorem spF_of {n : Nat} {F : Fn} {fa : Ev (List Sl)} {ad : Nat → Addr} {da : Option Addr} {Hc H Hc1 H1 : Hp} {σ : St} {env : En} {Q : VK} {args : List Sl} {s1 : Dr} {vs : List V} (e1 : ER X.K ad da Hc1 H1 σ env s1) (p1 : All2 (ArgE X.K ad env Hc1) vs args)
    (q1 : PostX X E C ad da Hc1 H1 σ env (fun Hc _ v d => Dv X.K Hc v d) Q (if args.length = n then (match drwN args with
      | 0 => (F args s1).bind fun q => .ok (q.1, s1)
      | 1 => F args s1
      | _ => .stuck) else .stuck)) : spF X.K C n F vs H1 Q E := by
  split at q1
  · rename_i hl
    have hv : All2 (ArgV X.K da Hc1) vs args := p1.imp fun _ _ z => z.argV e1
    cases hd : drwN args with
    | zero =>
      rw [hd] at q1
      refine ⟨Hc1, s1, none, args, hl, ⟨e1.sub, argV_none hv hd, (fun a z => nomatch z), by omega, e1.tabs, e1.noT⟩, ?_⟩
      cases hF : F args s1 with
      | ok p =>
        rw [hF] at q1
        intro v Hc' H' nn sc _ hdv
        have hk : ∀ b o, H1 b = some o → nT o → Hc1 b = none → H' b = some o := fun b o h1 t _ => nn.keep _ _ h1 (fun z => nomatch z) t
        exact q1 v Hc' H' ⟨nn.sub, nn.fresh, (fun b o e _ => nn.keep b o e (fun z => nomatch z)), nn.there, nn.tab, nn.noT⟩ (e1.grow sc nn.sub nn.fresh hk nn.tab nn.noT) hdv
      | err c =>
        rw [hF] at q1
        intro dx H' nn hx
        exact q1 dx H' ⟨nn.sub, nn.fresh, (fun b o e _ => nn.keep b o e (fun z => nomatch z)), nn.there, nn.tab, nn.noT⟩ hx
      | stuck => rw [hF] at q1; exact q1.elim
    | succ m =>
      cases m with
      | zero =>
        rw [hd] at q1
        have hm := drw_mem (args := args) (by omega)
        obtain ⟨v0, i0, h1, h2⟩ := All2.mem p1 hm
        have hda := e1.drs i0 h1
        refine ⟨Hc1, s1, da, args, hl, ⟨e1.sub, hv, e1.drA, by omega, e1.tabs, e1.noT⟩, ?_⟩
        · cases hF : F args s1 with
          | ok p =>
            rw [hF] at q1
            intro v Hc' H' nn sc hdr hdv
            exact q1 v Hc' H' nn (e1.nx nn sc hdr) hdv
          | err c => rw [hF] at q1; exact q1
          | stuck => rw [hF] at q1; exact q1.elim
      | succ m2 => rw [hd] at q1; exact q1.elim
  · exact q1.elim
theorem de_call {CXX : CXT} {n k : Nat} {F : Fn} {f : Addr} {fd : FuncData} {ps : List Str} {x : Str} {p : Pos} {fa : Ev (List Sl)} (FO : FnOk X.prog X.w X.K X.mg X.base CXX k f fd ps (spF X.K C n F)) (hr : Room k X.A) (hg : Gl X x) (hm : X.mg x = some (.ref f)) (hk : PySem.W.keepIn X.K (.ref f) = true) (hb : Binds X.K fd ps [])
    (hx : Passes CXX X E) (ha : DAA X E C (e :: es) fa) (hdb : (x == ("__debug__" : Str)) = false) (hs : starEach (e :: es) X.env = (false, eval e X.env) :: starEach es X.env) (hpl : (backTo pos (starEach es X.env)).any (·.1) = false) : DE X E C (.Call (.Name x p) (e :: es) [] pos) (evCall n F fa) := by
  obtain ⟨t, pa, ra⟩ := ha
  refine ⟨_, pe_call FO hr hg hm hk hb .nil hx pa hdb hs hpl, fun ad da Hc H σ env s Q er q => ra ad da Hc H σ env s _ er (Post.bind q fun args s1 _ vs Hc1 H1 n1 e1 p1 q1 => ?_)⟩
  show spF X.K C n F (vs ++ []) H1 Q E
  rw [List.append_nil]
  exact spF_of (Hc := Hc) (H := H) (fa := fa) e1 p1 q1
theorem de_call0 {CXX : CXT} {k : Nat} {F : Fn} {f : Addr} {fd : FuncData} {ps : List Str} {x : Str} {p : Pos} (FO : FnOk X.prog X.w X.K X.mg X.base CXX k f fd ps (spF X.K C 0 F)) (hr : Room k X.A) (hg : Gl X x) (hm : X.mg x = some (.ref f)) (hk : PySem.W.keepIn X.K (.ref f) = true) (hb : Binds X.K fd ps [])
    (hx : Passes CXX X E) (hdb : (x == ("__debug__" : Str)) = false) : DE X E C (.Call (.Name x p) [] [] pos) (evCall 0 F evArgs0) := by
  refine ⟨_, pe_call0 FO hr hg hm hk hb .nil hx hdb, fun ad da Hc H σ env s Q er q => ?_⟩
  show spF X.K C 0 F ([] ++ []) H Q E
  exact spF_of (Hc := Hc) (H := H) (fa := evArgs0) (args := []) er trivial q

/-! ### targets -/
inductive Tg where
  | nm (i : Nat)
  | tnil
  | tcons (a r : Tg)
  | tup (ts : Tg)
def setE (i : Nat) (x : Sl) (env : En) : Option En := match env[i]? with
  | some (.lst true _) => none
  | some _ => some (env.set i x)
  | none => none
mutual
def bindT : Tg → D → En → Option En
  | .nm i, d, env => setE i (.val d) env
  | .tup ts, .tuple ds, env => bindTs ts ds env
  | _, _, _ => none
def bindTs : Tg → List D → En → Option En
  | .tnil, [], env => some env
  | .tcons a r, d :: ds, env => (bindT a d env).bind fun env' => bindTs r ds env'
  | _, _, _ => none
end
/-- the slots that a target stores -/
def Tg.slots : Tg → List Nat
  | .nm i => [i]
  | .tnil => []
  | .tcons a r => a.slots ++ r.slots
  | .tup ts => ts.slots
theorem ER.put {K : PySem.W.Frag} {ad : Nat → Addr} {da : Option Addr} {Hc H : Hp} {σ : St} {env env' : En} {s : Dr} {i : Nat} {v : V} {d : D} (e : ER K ad da Hc H σ env s) (hd : Dv K Hc v d) (h : setE i (.val d) env = some env') : ER K ad da Hc H (σ.set i (some v)) env' s := by
  unfold setE at h
  have h' : env' = env.set i (.val d) ∧ i < env.length := by
    cases hx : env[i]? with
    | none => rw [hx] at h; cases h
    | some x =>
      have hi : i < env.length := (List.getElem?_eq_some_iff.mp hx).1
      rw [hx] at h
      cases x with
      | lst lk xs => cases lk <;> simp at h; exact ⟨h.symm, hi⟩
      | no => simp at h; exact ⟨h.symm, hi⟩
      | val _ => simp at h; exact ⟨h.symm, hi⟩
      | drw => simp at h; exact ⟨h.symm, hi⟩
      | scr _ => simp at h; exact ⟨h.symm, hi⟩
      | dct _ => simp at h; exact ⟨h.symm, hi⟩
  obtain ⟨rfl, hi⟩ := h'
  have old : ∀ j x, (env.set i (.val d))[j]? = some x → j ≠ i → env[j]? = some x := fun j x hj hne => by rw [List.getElem?_set_ne (Ne.symm hne)] at hj; exact hj
  have new : ∀ x, (env.set i (.val d))[i]? = some x → x = .val d := fun x hj => by rw [List.getElem?_set_self hi] at hj; exact (Option.some.inj hj).symm
  refine ⟨e.sub, by rw [List.length_set, List.length_set]; exact e.len, fun j x hj => ?_, fun j k x y hj hk ox oy ha => ?_, fun j hj => ?_, fun j hj => ?_, fun j x hj ho => ?_, e.tabs, e.noT⟩
  · by_cases hji : j = i
    · subst hji
      rw [new x hj]
      exact ⟨v, by rw [List.getElem?_set_self (by rw [e.len]; exact hi)], hd⟩
    · have h1 := e.slot j x (old j x hj hji)
      rw [List.getElem?_set_ne (Ne.symm hji)]
      exact h1
  · have n1 : j ≠ i := fun z => by subst z; rw [new x hj] at ox; cases ox
    have n2 : k ≠ i := fun z => by subst z; rw [new y hk] at oy; cases oy
    exact e.apart j k x y (old j x hj n1) (old k y hk n2) ox oy ha
  · have n1 : j ≠ i := fun z => by subst z; have := new _ hj; cases this
    exact e.drs j (old j _ hj n1)
  · exact e.drA j hj
  · have n1 : j ≠ i := fun z => by subst z; rw [new _ hj] at ho; cases ho
    exact e.lstNe j x (old j _ hj n1) ho
def DG (X : Cx) (tg : Expr) (t : Tg) : Prop := ∃ g : TG, PG X tg g ∧ ∀ (ad : Nat → Addr) (da : Option Addr) (Hc H : Hp) (σ : St) (env env' : En) (s : Dr) (v : V) (d : D) (Q : St → Hp → Prop), ER X.K ad da Hc H σ env s → Dv X.K Hc v d → bindT t d env = some env' →
  (∀ σ', ER X.K ad da Hc H σ' env' s → (∀ vs, (∀ i ∈ t.slots, i ∈ vs) → wipe σ' vs = wipe σ vs) → Q σ' H) → g v σ H Q
def DGs (X : Cx) (tgs : List Expr) (t : Tg) : Prop := ∃ g : TGs, PGs X tgs g ∧ ∀ (ad : Nat → Addr) (da : Option Addr) (Hc H : Hp) (σ : St) (env env' : En) (s : Dr) (v : List V) (d : List D) (Q : St → Hp → Prop), ER X.K ad da Hc H σ env s → DvAll X.K Hc v d → bindTs t d env = some env' →
  (∀ σ', ER X.K ad da Hc H σ' env' s → (∀ vs, (∀ i ∈ t.slots, i ∈ vs) → wipe σ' vs = wipe σ vs) → Q σ' H) → g v σ H Q
theorem wipe_set {σ : St} {i : Nat} {x : Option V} : ∀ {vs : List Nat}, i ∈ vs → wipe (σ.set i x) vs = wipe σ vs
  | v :: vs, h => by
    unfold wipe
    rcases List.mem_cons.mp h with rfl | h
    · by_cases hi : i ∈ vs
      · rw [wipe_set hi]
      · rw [wipe_setOut hi, List.set_set]
    · rw [wipe_set h]
where wipe_setOut {σ : St} {i : Nat} {x : Option V} : ∀ {vs : List Nat}, i ∉ vs → wipe (σ.set i x) vs = (wipe σ vs).set i x
  | [], _ => rfl
  | v :: vs, h => by
    unfold wipe
    rw [wipe_setOut (fun z => h (List.mem_cons_of_mem _ z)), List.set_comm _ _ (fun z => h (by rw [z]; exact List.mem_cons_self))]
theorem dg_name {i : Nat} {x : Str} (hN : X.N.Nodup) (hi : X.N[i]? = some x) (hx : Loc X.env.scope x) (hf : X.fn x = true ∨ X.env.scope.names.lookup x = some .local) : DG X (.Name x pos) (.nm i) :=
  ⟨gName i, pg_name hN hi hx hf, fun ad da Hc H σ env env' s v d Q er hd hb q => q _ (er.put hd (by rw [bindT] at hb; exact hb)) fun vs hv => wipe_set (hv i (by simp [Tg.slots]))⟩
theorem dgs_nil : DGs X [] .tnil := ⟨gNil, pgs_nil, fun ad da Hc H σ env env' s v d Q er hd hb q => by
  cases d with
  | nil =>
    cases hd
    rw [bindTs] at hb
    cases hb
    exact ⟨rfl, q σ er fun _ _ => rfl⟩
  | cons _ _ => simp [bindTs] at hb⟩
theorem dgs_cons {e : Expr} {es : List Expr} {a r : Tg} (ha : DG X e a) (hr : DGs X es r) (hs : (assignEach (e :: es) X.env).map (·.2) = assign e X.env :: (assignEach es X.env).map (·.2)) : DGs X (e :: es) (.tcons a r) := by
  obtain ⟨g, pg, rg⟩ := ha
  obtain ⟨gs, pgs, rgs⟩ := hr
  refine ⟨_, pgs_cons pg pgs hs, fun ad da Hc H σ env env' s v d Q er hd hb q => ?_⟩
  cases d with
  | nil => simp [bindTs] at hb
  | cons d0 ds =>
    cases hd with
    | cons r1 r2 =>
      rw [bindTs] at hb
      cases hb1 : bindT a d0 env with
      | none => rw [hb1] at hb; cases hb
      | some env1 =>
        rw [hb1] at hb
        refine ⟨_, _, rfl, rg ad da Hc H σ env env1 s _ d0 _ er r1 hb1 fun σ1 er1 w1 => ?_⟩
        exact rgs ad da Hc H σ1 env1 env' s _ ds Q er1 r2 hb fun σ2 er2 w2 => q σ2 er2 fun vs hv =>
          (w2 vs fun i hi => hv i (by simp [Tg.slots, hi])).trans (w1 vs fun i hi => hv i (by simp [Tg.slots, hi]))
def Tg.len : Tg → Nat
  | .tcons _ r => r.len + 1
  | _ => 0
theorem bindTs_len : ∀ {t : Tg} {ds : List D} {env env' : En}, bindTs t ds env = some env' → ds.length = t.len
  | .tnil, [], _, _, _ => rfl
  | .tcons a r, d :: ds, env, env', h => by
    rw [bindTs] at h
    cases hb1 : bindT a d env with
    | none => rw [hb1] at h; cases h
    | some env1 =>
      rw [hb1] at h
      rw [List.length_cons, Tg.len, bindTs_len h]
  | .nm _, _, _, _, h => by simp [bindTs] at h
  | .tup _, _, _, _, h => by simp [bindTs] at h
  | .tnil, _ :: _, _, _, h => by simp [bindTs] at h
  | .tcons _ _, [], _, _, h => by simp [bindTs] at h
theorem dg_tup {es : List Expr} {k : Nat} {ts : Tg} (hc : X.calm = true) (h : DGs X es ts) (hn : (assignEach es X.env).length = ts.len) (hst : (assignEach es X.env).findIdx? (·.1) = none) : DG X (.Tuple es k pos) (.tup ts) := by
  obtain ⟨g, pg, rg⟩ := h
  refine ⟨_, pg_tup hc pg hn hst, fun ad da Hc H σ env env' s v d Q er hd hb q => ?_⟩
  cases d with
  | tuple ds =>
    rw [bindT] at hb
    cases hd with
    | tup h1 h2 => exact ⟨_, _, rfl, er.sub.sqT h1, by rw [h2.length, bindTs_len hb], rg ad da Hc H σ env env' s _ ds Q er h2 hb q⟩
  | none => simp [bindT] at hb
  | bool _ => simp [bindT] at hb
  | int _ => simp [bindT] at hb
  | str _ => simp [bindT] at hb
  | list _ => simp [bindT] at hb
  | dict _ => simp [bindT] at hb

/-! ### what is walked -/
/-- at each moment behind (Hc0, W): the items are xs -/
def ItD (K : PySem.W.Frag) (J : It) (W Hc0 : Hp) (xs : List D) : Prop := ∀ (Hc H : Hp) (i : Nat), Sub Hc0 Hc → Sub Hc H → Sub W H →
  (∀ x, xs[i]? = some x → J.go i H ∧ ∀ v H', J.yld i H v H' → ∃ Hc', Al Hc H Hc' H' ∧ Dv K Hc' v x) ∧ (xs.length = i → J.stop i H)
def IPost (K : PySem.W.Frag) (E : XK) (C : Addr) (ad : Nat → Addr) (da : Option Addr) (vs : List Nat) (Hc H : Hp) (σ : St) (env : En) (Q : It → Hp → Prop) : R (List D × Dr) → Prop
  | .ok (xs, s') => ∀ J W Hc' H', Nx da Hc H Hc' H' → ER K ad da Hc' H' σ env s' → Sub W H' → (∀ b o, W b = some o → Hc' b = some o ∨ ∃ i lk ys, i ∈ vs ∧ env[i]? = some (.lst lk ys) ∧ b = ad i) → xs.length ≤ sizeLine → ItD K J W Hc' xs → Q J H'
  | .err c => ∀ dx H', Nx da Hc H Hc H' → H' dx = some (.xd [(("code" : Str), .str c)]) → E (.ref C) (some dx) H'
  | .stuck => False
def DI (X : Cx) (E : XK) (C : Addr) (tg it : Expr) (vs : List Nat) (f : Ev (List D)) : Prop := ∃ wi : TI, PI X tg it wi ∧ ∀ (ad : Nat → Addr) (da : Option Addr) (Hc H : Hp) (σ : St) (env : En) (s : Dr) (Q : It → Hp → Prop), ER X.K ad da Hc H σ env s → IPost X.K E C ad da vs Hc H σ env Q (f env s) → wi σ H Q
theorem IPost.shift {K : PySem.W.Frag} {E : XK} {C : Addr} {ad : Nat → Addr} {da : Option Addr} {vs : List Nat} {Hc H Hc1 H1 : Hp} {σ : St} {env : En} {Q : It → Hp → Prop} {r : R (List D × Dr)} (h : IPost K E C ad da vs Hc H σ env Q r) (n : Nx da Hc H Hc1 H1) : IPost K E C ad da vs Hc1 H1 σ env Q r := by
  cases r with
  | ok p => exact fun J W Hc' H' m e u w z q => h J W Hc' H' (n.trans m) e u w z q
  | err c => exact fun dx H' m q => h dx H' (n.trans m).weak q
  | stuck => exact h
theorem IPost.bind {γ δ : Type} {K : PySem.W.Frag} {E : XK} {C : Addr} {ad : Nat → Addr} {da : Option Addr} {vs : List Nat} {Hc H : Hp} {σ : St} {env : En} {P1 : Hp → Hp → δ → γ → Prop} {Q : It → Hp → Prop} {R1 : δ → Hp → Prop} {r : R (γ × Dr)} {f : γ × Dr → R (List D × Dr)}
    (h : IPost K E C ad da vs Hc H σ env Q (r.bind f)) (k : ∀ d s1, r = .ok (d, s1) → ∀ v Hc1 H1, Nx da Hc H Hc1 H1 → ER K ad da Hc1 H1 σ env s1 → P1 Hc1 H1 v d → IPost K E C ad da vs Hc1 H1 σ env Q (f (d, s1)) → R1 v H1) : Post K E C ad da Hc H σ env P1 R1 r := by
  cases r with
  | ok p => exact fun v Hc' H' m e q => k p.1 p.2 rfl v Hc' H' m e q (IPost.shift (r := f p) h m)
  | err c => exact h
  | stuck => exact h

/-! ### list comprehensions -/
def R.calm {α : Type} : R α → R α
  | .ok a => .ok a
  | _ => .stuck
def wipeE (env : En) : List Nat → En
  | [] => env
  | v :: vs => (wipeE env vs).set v .no
def lcLoop (t : Tg) (own : List Nat) (ft : Ev Bool) (fe : Ev D) (env : En) : List D → Dr → R (List D × Dr)
  | [], s => .ok ([], s)
  | x :: xs, s => (R.ofO (bindT t x (wipeE env own))).bind fun env2 => (ft env2 s).calm.bind fun p => if p.1 then (fe env2 p.2).calm.bind fun q => (lcLoop t own ft fe env xs q.2).bind fun r => .ok (q.1 :: r.1, r.2) else lcLoop t own ft fe env xs p.2
def evLc (fi : Ev (List D)) (t : Tg) (own : List Nat) (ft : Ev Bool) (fe : Ev D) : Ev D := fun env s => (fi env s).bind fun p => (lcLoop t own ft fe env p.1 p.2).bind fun q => .ok (.list q.1, q.2)
end
end L2.DL

set_option Elab.async false
set_option linter.all false
set_option maxRecDepth 100000
set_option maxHeartbeats 1000000
/-! D layer 7: comprehensions. -/
namespace L2.DL
open PySem PySem.Spec PyProof.Rows
variable [TabL]

/-- the weakest reading of a pure function -/
def can {α β : Type} (K : PySem.W.Frag) (E : XK) (C : Addr) (P : (Nat → Addr) → En → Hp → Hp → Hp → β → α → Prop) (f : Ev α) : St → Hp → (β → Hp → Prop) → Prop := fun σ H Q =>
  ∃ ad da Hc env s, ER K ad da Hc H σ env s ∧ Post K E C ad da Hc H σ env (P ad env H) Q (f env s)
def PV (K : PySem.W.Frag) : (Nat → Addr) → En → Hp → Hp → Hp → V → D → Prop := fun _ _ _ Hc _ v d => Dv K Hc v d
def PB : (Nat → Addr) → En → Hp → Hp → Hp → Bool → Bool → Prop := fun _ _ _ _ _ b c => b = c
def canI (K : PySem.W.Frag) (E : XK) (C : Addr) (vs : List Nat) (f : Ev (List D)) : TI := fun σ H Q => ∃ ad da Hc env s, ER K ad da Hc H σ env s ∧ IPost K E C ad da vs Hc H σ env Q (f env s)
def canG (K : PySem.W.Frag) (t : Tg) : TG := fun v σ H Q => ∃ ad da Hc env env' s d, ER K ad da Hc H σ env s ∧ Dv K Hc v d ∧ bindT t d env = some env' ∧ ∀ σ', ER K ad da Hc H σ' env' s → (∀ vs, (∀ i ∈ t.slots, i ∈ vs) → wipe σ' vs = wipe σ vs) → Q σ' H
section
variable {X : Cx} {E : XK} {C : Addr} {e : Expr}
theorem DE.can {f : Ev D} (h : DE X E C e f) : PE X e (DL.can X.K E C (PV X.K) f) := by
  obtain ⟨t, p, r⟩ := h
  exact ⟨fun pins s σ H Q I ⟨ad, da, Hc, env, s', er, q⟩ => p.run pins s σ H Q I (r ad da Hc H σ env s' Q er q)⟩
theorem DT.can {f : Ev Bool} (h : DT X E C e f) : PT X e (DL.can X.K E C PB f) := by
  obtain ⟨t, p, r⟩ := h
  exact ⟨fun pins s σ H Q I ⟨ad, da, Hc, env, s', er, q⟩ => p.run pins s σ H Q I (r ad da Hc H σ env s' Q er q)⟩
theorem DG.can {tg : Expr} {t : Tg} (h : DG X tg t) : PG X tg (canG X.K t) := by
  obtain ⟨g, p, r⟩ := h
  exact ⟨fun pins s σ H v u Q I rv ⟨ad, da, Hc, env, env', s', d, er, hd, hb, q⟩ => p.run pins s σ H v u Q I rv (r ad da Hc H σ env env' s' v d Q er hd hb q)⟩
end
/-- the tests of a comprehension -/
def DTs (X : Cx) (E : XK) (C : Addr) (es : List Expr) (f : Ev Bool) : Prop := ∃ t : TT, PTs X es t ∧ Reads1 X E C (T := Unit) t (fun _ _ _ _ _ (b c : Bool) => b = c) f
section
variable {X : Cx} {E : XK} {C : Addr} {e : Expr} {es : List Expr}
theorem DTs.can {f : Ev Bool} (h : DTs X E C es f) : PTs X es (DL.can X.K E C PB f) := by
  obtain ⟨t, p, r⟩ := h
  exact ⟨fun pins s σ H Q I ⟨ad, da, Hc, env, s', er, q⟩ => p.run pins s σ H Q I (r ad da Hc H σ env s' Q er q)⟩
theorem dts_nil : DTs X E C [] evTT := ⟨_, pts_nil, fun ad da Hc H σ env s Q er q => q true Hc H Nx.refl er rfl⟩
theorem dts_one {f : Ev Bool} (h : DT X E C e f) : DTs X E C [e] f := by
  obtain ⟨t, p, r⟩ := h
  exact ⟨t, pts_one p, r⟩
end

section
variable {α β γ δ : Type} {K : PySem.W.Frag} {E E' : XK} {C : Addr} {ad : Nat → Addr} {da : Option Addr} {Hc H Hc2 H2 : Hp} {σ σ2 : St} {env env2 : En} {P : Hp → Hp → β → α → Prop} {P1 : Hp → Hp → δ → γ → Prop} {Q : β → Hp → Prop} {R1 : δ → Hp → Prop}
theorem R.bind_assoc {α β γ : Type} (r : R α) (f : α → R β) (g : β → R γ) : (r.bind f).bind g = r.bind fun x => (f x).bind g := by cases r <;> rfl
theorem R.bind_ok {α β : Type} (a : α) (f : α → R β) : (R.ok a).bind f = f a := rfl
theorem Post.bindC {r : R (γ × Dr)} {f : γ × Dr → R (α × Dr)} (h : Post K E C ad da Hc H σ env P Q (r.calm.bind f))
    (k : ∀ d s1, r = .ok (d, s1) → ∀ v Hc1 H1, Nx da Hc2 H2 Hc1 H1 → ER K ad da Hc1 H1 σ2 env2 s1 → P1 Hc1 H1 v d → Post K E C ad da Hc H σ env P Q (f (d, s1)) → R1 v H1) : Post K E' C ad da Hc2 H2 σ2 env2 P1 R1 r := by
  cases r with
  | ok p => exact fun v Hc' H' m e q => k p.1 p.2 rfl v Hc' H' m e q h
  | err c => exact h.elim
  | stuck => exact h.elim
end
theorem wipeE_len (env : En) : ∀ vs : List Nat, (wipeE env vs).length = env.length
  | [] => rfl
  | v :: vs => by unfold wipeE; rw [List.length_set, wipeE_len env vs]
theorem wipeE_get {env : En} {i : Nat} : ∀ {vs : List Nat}, (i ∈ vs ∧ ((wipeE env vs)[i]? = some .no ∨ (wipeE env vs)[i]? = none)) ∨ (i ∉ vs ∧ (wipeE env vs)[i]? = env[i]?)
  | [] => .inr ⟨by simp, rfl⟩
  | v :: vs => by
    unfold wipeE
    by_cases h : v = i
    · subst h
      refine .inl ⟨List.mem_cons_self, ?_⟩
      by_cases hl : v < (wipeE env vs).length
      · exact .inl (List.getElem?_set_self hl)
      · exact .inr (List.getElem?_eq_none (by simpa using hl))
    · rw [List.getElem?_set_ne h]
      rcases wipeE_get (env := env) (i := i) (vs := vs) with ⟨h1, h2⟩ | ⟨h1, h2⟩
      · exact .inl ⟨List.mem_cons_of_mem _ h1, h2⟩
      · exact .inr ⟨fun z => by rcases List.mem_cons.mp z with z | z; exact h z.symm; exact h1 z, h2⟩
theorem wipe_get {σ : St} {i : Nat} : ∀ {vs : List Nat}, i ∉ vs → (wipe σ vs)[i]? = σ[i]?
  | [], _ => rfl
  | v :: vs, h => by
    unfold wipe
    rw [List.getElem?_set_ne (fun z => h (by rw [z]; exact List.mem_cons_self))]
    exact wipe_get (fun z => h (List.mem_cons_of_mem _ z))
theorem wipeE_old {env : En} {i : Nat} {x : Sl} {vs : List Nat} (h : (wipeE env vs)[i]? = some x) (hx : x ≠ .no) : i ∉ vs ∧ env[i]? = some x := by
  rcases wipeE_get (env := env) (i := i) (vs := vs) with ⟨h1, h2 | h2⟩ | ⟨h1, h2⟩
  · rw [h2] at h; cases h; exact absurd rfl hx
  · rw [h2] at h; cases h
  · exact ⟨h1, h2.symm.trans h⟩
theorem ER.wipe {K : PySem.W.Frag} {ad : Nat → Addr} {da : Option Addr} {Hc H : Hp} {σ : St} {env : En} {s : Dr} (e : ER K ad da Hc H σ env s) (vs : List Nat) : ER K ad da Hc H (L2.wipe σ vs) (wipeE env vs) s where
  sub := e.sub
  len := by rw [wipe_length, wipeE_len]; exact e.len
  slot := fun i x hx => by
    by_cases h0 : x = .no
    · subst h0; trivial
    · obtain ⟨h1, h2⟩ := wipeE_old hx h0
      have := e.slot i x h2
      rw [wipe_get h1]
      exact this
  apart := fun i j x y hi hj ox oy ha => by
    have n1 : x ≠ .no := fun z => by subst z; cases ox
    have n2 : y ≠ .no := fun z => by subst z; cases oy
    exact e.apart i j x y (wipeE_old hi n1).2 (wipeE_old hj n2).2 ox oy ha
  drs := fun i h => e.drs i (wipeE_old h (fun z => nomatch z)).2
  drA := e.drA
  lstNe := fun i x h ho => e.lstNe i x (wipeE_old h (fun z => by subst z; cases ho)).2 ho
  tabs := e.tabs
  noT := e.noT
/-- what a block leaves, seen from outside -/
theorem Nx.lstKeep {da : Option Addr} {Hc H Hc' H' : Hp} (n : Nx da Hc H Hc' H') {D : Addr} {vs : List V} (h : H D = some (.lst vs)) (hd : da ≠ some D) : H' D = some (.lst vs) := n.keep _ _ h (fun z => hd z.symm) nT_lst

/-- a new list that stands nowhere yet -/
def PF (K : PySem.W.Frag) (Hst Hc H : Hp) (v : V) (d : D) : Prop := ∃ a vs xs, v = .ref a ∧ d = .list xs ∧ NL Hst a ∧ H a = some (.lst vs) ∧ Hc a = none ∧ DvAll K Hc vs xs
def DF (X : Cx) (E : XK) (C : Addr) (e : Expr) (f : Ev D) : Prop := ∃ t : TE, PE X e t ∧ Reads1 X E C (T := Unit) t (fun _ _ Hst Hc H v d => PF X.K Hst Hc H v d) f
section
variable {X : Cx} {E : XK} {C : Addr} {e a b : Expr} {es : List Expr} {pos : Pos}
theorem PF.shut {K : PySem.W.Frag} {ad : Nat → Addr} {da : Option Addr} {Hst Hc0 Hc H : Hp} {σ : St} {env : En} {s0 s : Dr} {v : V} {d : D} (p : PF K Hst Hc H v d) (e0 : ER K ad da Hc0 Hst σ env s0) (n : Nx da Hc0 Hst Hc H) (e : ER K ad da Hc H σ env s) :
    ∃ Hc', Nx da Hc0 Hst Hc' H ∧ ER K ad da Hc' H σ env s ∧ Dv K Hc' v d := by
  obtain ⟨a, vs, xs, rfl, rfl, h1, h2, h3, h4⟩ := p
  refine ⟨upd Hc a (.lst vs), n.freeze h1 h2 h3, e.join h2 nT_lst (fun i x hx ho z => ?_) (fun z => ?_) h3, .lst upd_same ((Sub.upd h3).dvAll h4)⟩
  · obtain ⟨o, h5, t5, _⟩ := e0.there hx ho
    rw [z] at h5
    exact h1 _ h5 t5
  · obtain ⟨⟨b, h5, _⟩, _⟩ := e0.drA a z
    exact h1 _ h5 nT_lst
theorem Reads1.shut {t : TE} {f : Ev D} (h : Reads1 X E C (T := Unit) t (fun _ _ Hst Hc H v d => PF X.K Hst Hc H v d) f) : RE X E C t f := fun ad da Hc H σ env s Q er q => h ad da Hc H σ env s Q er (by
  cases hf : f env s with
  | ok p =>
    rw [hf] at q
    intro v Hc' H' n e pf
    obtain ⟨Hc'', n2, e2, hd⟩ := pf.shut er n e
    exact q v Hc'' H' n2 e2 hd
  | err c => rw [hf] at q; exact q
  | stuck => rw [hf] at q; exact q)
end
def EF : XK := fun _ _ _ => False
section
variable {X : Cx} {E : XK} {C : Addr} {e : Expr} {es : List Expr}
theorem wipe_wipe (σ : St) (vs : List Nat) : L2.wipe (L2.wipe σ vs) vs = L2.wipe σ vs := by
  apply List.ext_getElem?
  intro i
  by_cases h : i ∈ vs
  · have : ∀ τ : St, i < τ.length → (L2.wipe τ vs)[i]? = some none := fun τ hl => wipe_in h hl
    by_cases hl : i < σ.length
    · rw [this σ hl, this _ (by rw [wipe_length]; exact hl)]
    · rw [List.getElem?_eq_none (by rw [wipe_length, wipe_length]; omega), List.getElem?_eq_none (by rw [wipe_length]; omega)]
  · rw [wipe_get h]
where wipe_in {τ : St} {i : Nat} : ∀ {vs : List Nat}, i ∈ vs → i < τ.length → (L2.wipe τ vs)[i]? = some none
  | v :: vs, h, hl => by
    unfold L2.wipe
    by_cases hv : v = i
    · subst hv
      exact List.getElem?_set_self (by rw [wipe_length]; exact hl)
    · rw [List.getElem?_set_ne hv]
      rcases List.mem_cons.mp h with z | h
      · exact absurd z.symm hv
      · exact wipe_in h hl
theorem lc_step {K : PySem.W.Frag} {ad : Nat → Addr} {da : Option Addr} {Hc1 H1 Hc2 H2 : Hp} {σ : St} {env : En} {s2 : Dr} {D : Addr} {acc : List V} {accD : List DL.D} {y : V} {d : DL.D} (n1 : Nx da Hc1 H1 Hc2 H2) (hD : H1 D = none) (e2 : ER K ad da Hc2 H2 σ env s2) (h2 : H2 D = some (.lst acc)) (c2 : Hc2 D = none)
    (dn : da ≠ some D) (hown : ∀ i x, env[i]? = some x → DL.own x = true → ad i ≠ D) : Nx da Hc1 H1 Hc2 (upd H2 D (.lst (acc ++ [y]))) ∧ ER K ad da Hc2 (upd H2 D (.lst (acc ++ [y]))) σ env s2 := by
  refine ⟨n1.write (.inl (.of hD)) h2, ?_⟩
  have k : ∀ b o, H2 b = some o → b ≠ D → upd H2 D (.lst (acc ++ [y])) b = some o := fun b o h hb => by rw [upd_ne hb]; exact h
  refine ⟨fun b o h => k b o (e2.sub _ _ h) (fun z => by subst z; rw [c2] at h; cases h), e2.len, fun i x hx => ?_, e2.apart, e2.drs, fun a h => ?_, e2.lstNe, tbs_lst e2.tabs h2, e2.noT⟩
  · have h := e2.slot i x hx
    cases x with
    | no => trivial
    | val d => exact h
    | lst lk xs =>
      obtain ⟨vs, h1, h3, h4, h5⟩ := h
      exact ⟨vs, h1, k _ _ h3 (hown i _ hx rfl), h4, h5⟩
    | drw => exact h
    | scr ns => exact h
    | dct kvs =>
      obtain ⟨φ, h1, h3, h4⟩ := h
      exact ⟨φ, h1, k _ _ h3 (hown i _ hx rfl), h4⟩
  · obtain ⟨h3, h4⟩ := e2.drA a h
    exact ⟨h3.sub (Sub.refl _) (by rw [upd_ne (fun z => dn (by rw [h, z]))]), h4⟩
theorem lc_readF {wi : TI} {vs : List Nat} {fi : Ev (List D)} {t : Tg} {ft : Ev Bool} {fe : Ev D} {own : List (Str × Nat)} (ri : ∀ (ad : Nat → Addr) (da : Option Addr) (Hc H : Hp) (σ : St) (env : En) (s : Dr) (Q : It → Hp → Prop), ER X.K ad da Hc H σ env s → IPost X.K E C ad da vs Hc H σ env Q (fi env s) → wi σ H Q)
    (hsl : ∀ i ∈ t.slots, i ∈ own.map (·.2)) : Reads1 X E C (T := Unit) (tLc wi (canG X.K t) (can X.K EF C PB ft) (can X.K EF C (PV X.K) fe) (own.map (·.2))) (fun _ _ Hst Hc H v d => PF X.K Hst Hc H v d) (evLc fi t (own.map (·.2)) ft fe) := fun ad da Hc H σ env s Q er q => by
  refine ri ad da Hc H σ env s _ er ?_
  have fin : ∀ (xs : List DL.D) (s1 : Dr), fi env s = .ok (xs, s1) → ∀ J W Hc1 H1, Nx da Hc H Hc1 H1 → ER X.K ad da Hc1 H1 σ env s1 → Sub W H1 → (∀ b o, W b = some o → Hc1 b = some o ∨ ∃ i lk ys, i ∈ vs ∧ env[i]? = some (.lst lk ys) ∧ b = ad i) → xs.length ≤ sizeLine → ItD X.K J W Hc1 xs →
      Post X.K E C ad da Hc1 H1 σ env (fun Hc' H' v d => PF X.K H Hc' H' v d) Q ((lcLoop t (own.map (·.2)) ft fe env xs s1).bind fun q => .ok (.list q.1, q.2)) →
      ∀ D, H1 D = none → ∃ W : Nat → Nat → Hp → Prop, (∃ m, W 0 m (upd H1 D (.lst []))) ∧ ∀ i m H, W i m H →
        (J.stop i H ∧ Q (.ref D) H) ∨ (J.go i H ∧ ∃ Nx : Hp → Prop, (∀ H', Nx H' → ∃ m', m' < m ∧ W (i + 1) m' H') ∧ ∀ x H', J.yld i H x H' → canG X.K t x (L2.wipe σ (own.map (·.2))) H' fun σ2 H2 => L2.wipe σ2 (own.map (·.2)) = L2.wipe σ (own.map (·.2)) ∧ can X.K EF C PB ft σ2 H2 fun b H3 =>
          if b = true then can X.K EF C (PV X.K) fe σ2 H3 fun y H4 => ∃ acc, H4 D = some (.lst acc) ∧ acc.length < sizeLine ∧ Nx (upd H4 D (.lst (acc ++ [y]))) else Nx H3) := by
    intro xs s1 _ J W Hc1 H1 n1 e1 sw hw hlen hJ hq D hD
    have dn : da ≠ some D := fun z => by
      obtain ⟨⟨b, h1, _⟩, _⟩ := e1.drA D z
      rw [hD] at h1; cases h1
    have hown : ∀ i x, env[i]? = some x → DL.own x = true → ad i ≠ D := fun i x hx ho z => by
      obtain ⟨o, h1, _⟩ := e1.there hx ho
      rw [z, hD] at h1; cases h1
    have cD : Hc1 D = none := e1.sub.none hD
    have wda : ∀ b o, W b = some o → da ≠ some b := fun b o h z => by
      obtain ⟨_, h1⟩ := e1.drA b z
      rcases hw b o h with h2 | ⟨i, lk, ys, _, hx, rfl⟩
      · rw [h1] at h2; cases h2
      · exact e1.lstNe i _ hx rfl z
    have wD : ∀ b o, W b = some o → b ≠ D := fun b o h z => by
      subst z
      have := sw b o h
      rw [hD] at this; cases this
    refine ⟨fun i m H2 => m = xs.length - i ∧ i ≤ xs.length ∧ ∃ Hc2 s2 acc accD, Nx da Hc1 H1 Hc2 H2 ∧ ER X.K ad da Hc2 H2 σ env s2 ∧ H2 D = some (.lst acc) ∧ Hc2 D = none ∧ DvAll X.K Hc2 acc accD ∧ acc.length ≤ i ∧
      Post X.K E C ad da Hc1 H1 σ env (fun Hc' H' v d => PF X.K H Hc' H' v d) Q ((lcLoop t (own.map (·.2)) ft fe env (xs.drop i) s2).bind fun q => .ok (.list (accD ++ q.1), q.2)),
      ⟨xs.length, rfl, Nat.zero_le _, Hc1, s1, [], [], .lay hD, e1.lay hD, upd_same, cD, .nil, Nat.le_refl _, hq⟩, fun i m H2 hW => ?_⟩
    obtain ⟨rfl, hi, Hc2, s2, acc, accD, n2, e2, h2, c2, ha, hal, q2⟩ := hW
    have sw2 : Sub W H2 := fun b o h => by
      rcases hw b o h with z | ⟨i, lk, ys, _, hx, rfl⟩
      · exact e2.sub _ _ (n2.sub _ _ z)
      · obtain ⟨ws, _, q2, _, _⟩ := e1.slot i _ hx
        have q3 := sw _ _ h
        rw [q2] at q3
        cases q3
        exact n2.keep _ _ q2 (fun z => wda _ _ h z.symm) nT_lst
    obtain ⟨hgo, hstop⟩ := hJ Hc2 H2 i n2.sub e2.sub sw2
    by_cases hlt : i < xs.length
    · obtain ⟨x, hx⟩ : ∃ x, xs[i]? = some x := ⟨xs[i], List.getElem?_eq_getElem hlt⟩
      have hdrop : xs.drop i = x :: xs.drop (i + 1) := by
        rw [List.drop_eq_getElem_cons hlt]
        rw [List.getElem?_eq_getElem hlt] at hx
        rw [Option.some.inj hx]
      obtain ⟨g1, g2⟩ := hgo x hx
      rw [hdrop] at q2
      refine .inr ⟨g1, fun H' => ∃ Hc2 s2 acc accD, Nx da Hc1 H1 Hc2 H' ∧ ER X.K ad da Hc2 H' σ env s2 ∧ H' D = some (.lst acc) ∧ Hc2 D = none ∧ DvAll X.K Hc2 acc accD ∧ acc.length ≤ i + 1 ∧
        Post X.K E C ad da Hc1 H1 σ env (fun Hc' H' v d => PF X.K H Hc' H' v d) Q ((lcLoop t (own.map (·.2)) ft fe env (xs.drop (i + 1)) s2).bind fun q => .ok (.list (accD ++ q.1), q.2)), fun H' hN' => ⟨xs.length - (i + 1), by omega, rfl, hlt, hN'⟩, fun v H3 hy => ?_⟩
      obtain ⟨Hc3, al, hdv⟩ := g2 v H3 hy
      have e3 := al.er e2
      have ew := e3.wipe (own.map (·.2))
      rw [lcLoop] at q2
      cases hb : bindT t x (wipeE env (own.map (·.2))) with
      | none => rw [hb] at q2; exact q2.elim
      | some env2 =>
        rw [hb] at q2
        refine ⟨ad, da, Hc3, _, env2, s2, x, ew, hdv, hb, fun σ2 eb wp => ⟨?_, ?_⟩⟩
        · rw [wp _ hsl]
          exact wipe_wipe σ _
        · have dD3 : H3 D = some (.lst acc) := al.subH _ _ h2
          have cD3 : Hc3 D = none := by
            cases z : Hc3 D with
            | none => rfl
            | some o => have := al.fresh _ _ z c2; rw [h2] at this; cases this
          have q3 : Post X.K E C ad da Hc1 H1 σ env (fun Hc' H' v d => PF X.K H Hc' H' v d) Q ((ft env2 s2).calm.bind fun p => ((if p.1 then (fe env2 p.2).calm.bind fun q => (lcLoop t (own.map (·.2)) ft fe env (xs.drop (i + 1)) q.2).bind fun r => .ok (q.1 :: r.1, r.2) else lcLoop t (own.map (·.2)) ft fe env (xs.drop (i + 1)) p.2).bind fun q => .ok (.list (accD ++ q.1), q.2))) := by
            have q2' : Post X.K E C ad da Hc1 H1 σ env (fun Hc' H' v d => PF X.K H Hc' H' v d) Q (((ft env2 s2).calm.bind fun p => if p.1 then (fe env2 p.2).calm.bind fun q => (lcLoop t (own.map (·.2)) ft fe env (xs.drop (i + 1)) q.2).bind fun r => .ok (q.1 :: r.1, r.2) else lcLoop t (own.map (·.2)) ft fe env (xs.drop (i + 1)) p.2).bind fun q => .ok (.list (accD ++ q.1), q.2)) := q2
            rw [R.bind_assoc] at q2'
            exact q2'
          refine ⟨ad, da, Hc3, env2, s2, eb, Post.bindC q3 fun b s3 _ b' Hc4 H4 n4 e4 p4 q4 => ?_⟩
          cases p4
          have eo4 : ER X.K ad da Hc4 H4 σ env s3 := e3.nx n4 e4.sub e4.drA
          have d4 : H4 D = some (.lst acc) := n4.lstKeep dD3 dn
          have cD4 : Hc4 D = none := by
            cases z : Hc4 D with
            | none => rfl
            | some o => exact (n4.fresh _ _ z cD3 _ dD3 nT_lst).elim
          have nn4 : Nx da Hc1 H1 Hc4 H4 := (n2.trans al.nx).trans n4
          cases b with
          | false =>
            rw [if_neg Bool.false_ne_true]
            exact ⟨Hc4, s3, acc, accD, nn4, eo4, d4, cD4, n4.sub.dvAll (al.sub.dvAll ha), by omega, q4⟩
          | true =>
            rw [if_pos rfl]
            have q5 : Post X.K E C ad da Hc1 H1 σ env (fun Hc' H' v d => PF X.K H Hc' H' v d) Q ((fe env2 s3).calm.bind fun q => (lcLoop t (own.map (·.2)) ft fe env (xs.drop (i + 1)) q.2).bind fun r => .ok (.list ((accD ++ [q.1]) ++ r.1), r.2)) := by
              have q4' : Post X.K E C ad da Hc1 H1 σ env (fun Hc' H' v d => PF X.K H Hc' H' v d) Q (((fe env2 s3).calm.bind fun q => (lcLoop t (own.map (·.2)) ft fe env (xs.drop (i + 1)) q.2).bind fun r => .ok (q.1 :: r.1, r.2)).bind fun q => .ok (.list (accD ++ q.1), q.2)) := q4
              simp only [R.bind_assoc, R.bind_ok] at q4'
              simp only [List.append_assoc, List.singleton_append]
              exact q4'
            refine ⟨ad, da, Hc4, env2, s3, e4, Post.bindC q5 fun yd s5 _ yv Hc5 H5 n5 e5 p5 q6 => ?_⟩
            have d5 : H5 D = some (.lst acc) := n5.lstKeep d4 dn
            have cD5 : Hc5 D = none := by
              cases z : Hc5 D with
              | none => rfl
              | some o => exact (n5.fresh _ _ z cD4 _ d4 nT_lst).elim
            have eo5 : ER X.K ad da Hc5 H5 σ env s5 := eo4.nx n5 e5.sub e5.drA
            obtain ⟨n6, e6⟩ := lc_step (y := yv) (accD := accD) (d := yd) (nn4.trans n5) hD eo5 d5 cD5 dn hown
            exact ⟨acc, d5, by omega, Hc5, s5, acc ++ [yv], accD ++ [yd], n6, e6, upd_same, cD5, (n5.sub.dvAll (n4.sub.dvAll (al.sub.dvAll ha))).append (.cons p5 .nil), by rw [List.length_append, List.length_singleton]; omega, q6⟩
    · have hnil : xs.drop i = [] := List.drop_of_length_le (by omega)
      rw [hnil] at q2
      have q3 : Post X.K E C ad da Hc1 H1 σ env (fun Hc' H' v d => PF X.K H Hc' H' v d) Q (.ok (.list (accD ++ []), s2)) := q2
      rw [List.append_nil] at q3
      refine .inl ⟨hstop (by omega), q3 (.ref D) Hc2 H2 n2 e2 ⟨D, acc, accD, rfl, rfl, fun o z t => ?_, h2, c2, ha⟩⟩
      obtain ⟨o2, z2, _⟩ := n1.there D o z t
      rw [hD] at z2
      cases z2
  cases hf : fi env s with
  | ok p =>
    have q' : Post X.K E C ad da Hc H σ env (fun Hc' H' v d => PF X.K H Hc' H' v d) Q ((fi env s).bind fun p => (lcLoop t (own.map (·.2)) ft fe env p.1 p.2).bind fun q => .ok (.list q.1, q.2)) := q
    rw [hf] at q'
    exact fun J W Hc1 H1 n1 e1 sw hw hlen hJ => fin p.1 p.2 hf J W Hc1 H1 n1 e1 sw hw hlen hJ (Post.shift q' n1)
  | err c =>
    have q' : Post X.K E C ad da Hc H σ env (fun Hc' H' v d => PF X.K H Hc' H' v d) Q ((fi env s).bind fun p => (lcLoop t (own.map (·.2)) ft fe env p.1 p.2).bind fun q => .ok (.list q.1, q.2)) := q
    rw [hf] at q'
    exact q'
  | stuck =>
    have q' : Post X.K E C ad da Hc H σ env (fun Hc' H' v d => PF X.K H Hc' H' v d) Q ((fi env s).bind fun p => (lcLoop t (own.map (·.2)) ft fe env p.1 p.2).bind fun q => .ok (.list q.1, q.2)) := q
    rw [hf] at q'
    exact q'
theorem lc_read {wi : TI} {vs : List Nat} {fi : Ev (List D)} {t : Tg} {ft : Ev Bool} {fe : Ev D} {own : List (Str × Nat)} (ri : ∀ (ad : Nat → Addr) (da : Option Addr) (Hc H : Hp) (σ : St) (env : En) (s : Dr) (Q : It → Hp → Prop), ER X.K ad da Hc H σ env s → IPost X.K E C ad da vs Hc H σ env Q (fi env s) → wi σ H Q)
    (hsl : ∀ i ∈ t.slots, i ∈ own.map (·.2)) : RE X E C (tLc wi (canG X.K t) (can X.K EF C PB ft) (can X.K EF C (PV X.K) fe) (own.map (·.2))) (evLc fi t (own.map (·.2)) ft fe) := Reads1.shut (lc_readF ri hsl)
theorem de_lc {elt tg iter : Expr} {ifs : List Expr} {scope : Scope} {own : List (Str × Nat)} {pos : Pos} {vs : List Nat} {fi : Ev (List D)} {t : Tg} {ft : Ev Bool} {fe : Ev D} (hc : X.calm = true) (hN : X.N.Nodup) (hi : DI X E C tg iter vs fi) (ok : BlkOk X.N X.env.scope scope own)
    (hg : ∀ (s : Shared) (H : Hp) (C' : Addr) (cl : List (Str × Addr)) (fp : List Addr), DG (X.blk s H scope (compEnvC scope cl C' X.env) fp) tg t)
    (ht : ∀ (s : Shared) (H : Hp) (C' : Addr) (cl : List (Str × Addr)) (fp : List Addr), DTs (X.blk s H scope (compEnvC scope cl C' X.env) fp) EF C ifs ft)
    (he : ∀ (s : Shared) (H : Hp) (C' : Addr) (cl : List (Str × Addr)) (fp : List Addr), DE (X.blk s H scope (compEnvC scope cl C' X.env) fp) EF C elt fe)
    (hs : ∀ x, foldedSetIterable iter X.env x = pure x) (hsl : ∀ i ∈ t.slots, i ∈ own.map (·.2)) : DE X E C (.ListComp elt [⟨tg, iter, ifs, 0⟩] scope pos) (evLc fi t (own.map (·.2)) ft fe) := by
  obtain ⟨wi, pi, ri⟩ := hi
  exact ⟨_, pe_lc (g := canG X.K t) (tt := can X.K EF C PB ft) (te := can X.K EF C (PV X.K) fe) hc hN pi ok (fun s H C' cl fp => (hg s H C' cl fp).can) (fun s H C' cl fp => (ht s H C' cl fp).can) (fun s H C' cl fp => (he s H C' cl fp).can) hs, lc_read ri hsl⟩
end
end L2.DL

set_option Elab.async false
set_option linter.all false
set_option maxRecDepth 100000
set_option maxHeartbeats 2000000
/-! D layer 8: what loops walk. -/
namespace PySem
/-- enumerate(v): its two new cells -/
theorem dl_enum1 {v : Value} {o : Obj} {H : Heap → Prop} (B : Begins v o H) :
    Meets (Builtin.«enumerate.__new__» ⟨[.type "enumerate", v], []⟩) (fun _ R s => H s.heap ∧
      R (.ok (.ret (.ref (s.heap.push o).objs.size))) { s with heap := (s.heap.push o).push { cls := .type "enumerate", data := .fields #[.none, .bool false, .ref s.heap.objs.size, rawInt 0, .none, .none] } }) :=
  .of_wp fun prog w A R s h => by
    obtain ⟨hp, g, d, tk, os⟩ := s; obtain ⟨h1, h⟩ := h
    have hsub := sub_enumerate
    have q1 : ∀ {A' : Around} {E : Value → Shared → Prop} {Q : Value → Shared → Prop}, Q (.ref hp.objs.size) ⟨hp.push o, g, d, tk, os⟩ → wpAny (model prog w) A' (pyIter v) Q E ⟨hp, g, d, tk, os⟩ :=
      fun q => B.iter prog w _ _ ⟨hp, g, d, tk, os⟩ _ h1 q
    wp_walk using q1
    refine wpAny_stack_any fun st => wpAny_pure ?_
    split
    · rename_i c _ _ _ _ _
      cases (c == Value.type "enumerate")
      · wp_walk using q1
        exact ⟨_, rfl, h⟩
      · wp_walk using q1
        exact ⟨_, rfl, h⟩
    · wp_walk using q1
      exact ⟨_, rfl, h⟩
theorem dl_enum_begins {prog : Program} {w : World} {A : Around} {E : Value → Shared → Prop} {s : Shared} {v : Value} {o : Obj} {H : Heap → Prop} {Q : Value → Shared → Prop} (B : Begins v o H) (h1 : H s.heap)
    (h : ∀ h', IsEnum h' (s.heap.objs.size + 1) s.heap.objs.size 0 .none → h'.get? s.heap.objs.size = some o → h'.objs.size = s.heap.objs.size + 2 →
      (∀ b o, s.heap.get? b = some o → h'.get? b = some o) → Q (.ref (s.heap.objs.size + 1)) { s with heap := h' }) :
    wpAny (model prog w) A (call (.type "enumerate") [v]) Q E s := by
  refine callType_new F.called_enumerate (by decide) (F.typeCall_enumerate_1 _) (F.newCall_enumerate_1 _) (fun obj => F.args_object_init_2 obj _) F.entry_enumerate_new
    (dl_enum1 B) ⟨h1, ?_⟩
  have hz : (s.heap.push o).objs.size = s.heap.objs.size + 1 := Heap.size_push ..
  show _ ∧ _
  rw [hz]
  have he : IsEnum ((s.heap.push o).push { cls := .type "enumerate", data := .fields #[.none, .bool false, .ref s.heap.objs.size, rawInt 0, .none, .none] }) (s.heap.objs.size + 1) s.heap.objs.size 0 .none := by
    have := Heap.get?_push_size (s.heap.push o) (o := { cls := .type "enumerate", data := .fields #[.none, .bool false, .ref s.heap.objs.size, rawInt 0, .none, .none] }) rfl
    rw [hz] at this; exact this
  exact ⟨⟨_, he, rfl⟩, h _ he (Heap.get?_push_of_some _ (Heap.get?_push_size _ B.free)) (by rw [Heap.size_push, hz]) fun b o x => Heap.get?_push_of_some _ (Heap.get?_push_of_some _ x)⟩
end PySem
namespace L2.DL
open PySem PySem.Spec PyProof.Rows
variable [TabL]

/-- what an iterator draws from -/
inductive Src where
  | lst (a : Addr)
  | tpl (a : Addr)
  | txt (z : Str) (u : Tok)
def Src.v : Src → Value
  | .lst a => .ref a
  | .tpl a => .ref a
  | .txt z u => .str z u
def Src.o : Src → Obj
  | .lst a => { cls := .type "list_iterator", data := .fields #[.ref a, .int 0 0] }
  | .tpl a => { cls := .type "tuple_iterator", data := .fields #[.ref a, .int 0 0] }
  | .txt z u => { cls := .type (strIterType z), data := .fields #[.str z u, .int 0 0] }
def Src.own (it : Addr) (i : Nat) (h : Heap) : Src → Prop
  | .lst a => h.IsListIter it a i
  | .tpl a => h.IsTupleIter it a i
  | .txt z u => h.IsStrIter it (strIterType z) z u i
def Src.has (K : PySem.W.Frag) (H : Hp) (vs : List V) : Src → Prop
  | .lst a => SqL K H a vs
  | .tpl a => SqT K H a vs
  | .txt z _ => vs = z.cps.toList.map fun c => V.str ⟨#[c]⟩
theorem Src.own_at {it : Addr} {i : Nat} {h h' : Heap} {S : Src} (x : S.own it i h) (k : ∀ o, h.get? it = some o → h'.get? it = some o) : S.own it i h' := by
  cases S with
  | lst a => exact Heap.IsListIter.at x k
  | tpl a => exact Heap.IsTupleIter.at x k
  | txt z u => obtain ⟨o, ho, r⟩ := x; exact ⟨o, k o ho, r⟩
theorem Src.own_obj {it : Addr} {i : Nat} {h : Heap} {S : Src} (x : S.own it i h) : ∃ o, h.get? it = some o ∧ ∀ v, o.data ≠ .cell v := by
  cases S with
  | lst a => obtain ⟨o, ho, hc, hd⟩ := x; exact ⟨o, ho, fun v z => by rw [hd] at z; cases z⟩
  | tpl a => obtain ⟨o, ho, hc, hd⟩ := x; exact ⟨o, ho, fun v z => by rw [hd] at z; cases z⟩
  | txt z u => obtain ⟨o, ho, hc, hd⟩ := x; exact ⟨o, ho, fun v z => by rw [hd] at z; cases z⟩
theorem Src.own_new {it : Addr} {h : Heap} {S : Src} (x : h.get? it = some S.o) : S.own it 0 h := by
  cases S with
  | lst a => exact ⟨_, x, rfl, rfl⟩
  | tpl a => exact ⟨_, x, rfl, rfl⟩
  | txt z u => exact ⟨_, x, rfl, rfl⟩
section
variable {X : Cx} {pins : List (Addr × Obj)} {σ : L2.St} {H : Hp} {s : Shared} {vs ws : List V}
theorem Src.inj (I : Inv X pins σ H s) {S : Src} (h1 : S.has X.K H vs) (h2 : S.has X.K H ws) : vs = ws := by
  cases S with
  | lst a => exact I.list_inj h1 h2
  | tpl a => exact I.tuple_inj h1 h2
  | txt z u => exact h1.trans h2.symm
theorem Src.begins (I : Inv X pins σ H s) {S : Src} (h : S.has X.K H vs) : ∃ Hf : Heap → Prop, Begins S.v S.o Hf ∧ Hf s.heap := by
  cases S with
  | lst a =>
    obtain ⟨its, r, p, z⟩ := I.list h
    exact ⟨_, begins_list a its.toArray, p.isList⟩
  | tpl a =>
    obtain ⟨its, r, p, z⟩ := I.tuple h
    exact ⟨_, begins_tuple a its.toArray, p⟩
  | txt z u => exact ⟨_, begins_text z u, trivial⟩
/-- an address of the source is no iterator's cell -/
theorem src_out (I : Inv X pins σ H s) {a b : Addr} {xs : List V} (h : SqL X.K H a xs ∨ SqT X.K H a xs) (f : FpOk X pins H b) : b ≠ a := by
  rintro rfl
  have k : ∀ o, X.K.lookup b = some o → False := fun o hk => by
    have hb := I.ok.mod.kin b o hk
    rcases f.2.2.2.1 with z | z
    · exact I.ok.noex b o hb z
    · exact absurd (Nat.lt_of_lt_of_le (Heap.lt_size hb) (Nat.le_trans I.ok.bsz z)) (Nat.lt_irrefl _)
  have n := f.1
  have r : ∀ u, Rd H b u → False := fun u h => by
    rcases h with h | ⟨o, h⟩ <;> (rw [n] at h; cases h)
  rcases h with h | h
  · rcases h with h | ⟨o, its, m, hk, _⟩
    · exact r _ h
    · exact k o hk
  · rcases h with h | ⟨o, its, m, hk, _⟩
    · exact r _ h
    · exact k o hk
structure SrcD (X : Cx) (pins : List (Addr × Obj)) (H : Hp) (vs : List V) (S : Src) (it : Addr) (A : Around) (h : Heap) (fp : List Addr) (P : Nat → Value → Prop) (St : Nat → Heap → Prop) : Prop where
  dr : Draws X.prog X.w A it fp vs.length P St
  mem : it ∈ fp
  out : ∀ b, FpOk X pins H b → b ≠ it → b ∉ fp
  st : ∀ i, S.own it i h → St i h
  own : ∀ i h, St i h → S.own it i h
  val : ∀ i v, P i v → ∃ x, vs[i]? = some x ∧ RelV x v
theorem Src.draws (I : Inv X pins σ H s) {A : Around} (hh : A.handled = none) {S : Src} (h : S.has X.K H vs) {it : Addr} (f : FpOk X pins H it) : ∃ fp P St, SrcD X pins H vs S it A s.heap fp P St := by
  cases S with
  | lst a =>
    obtain ⟨its, r, p, z⟩ := I.list h
    have hne : a ≠ it := (src_out I (.inl h) f).symm
    have D := Draws.list (prog := X.prog) (w := X.w) hh it a hne its.toArray
    rw [List.size_toArray, ← r.length] at D
    refine ⟨_, _, _, D, by simp, fun b fb hb hm => ?_, fun i o => ⟨o, p.isList⟩, fun i h st => st.1, fun i v hv => ?_⟩
    · have hm' : b = it ∨ b = a := by simpa using hm
      rcases hm' with e | e
      · exact hb e
      · exact src_out I (.inl h) fb e
    · have hv' : its[i]? = some v := by simpa using hv
      obtain ⟨hi, e⟩ := List.getElem?_eq_some_iff.mp hv'
      obtain ⟨x, hx⟩ : ∃ x, vs[i]? = some x := ⟨vs[i]'(by rw [r.length]; exact hi), List.getElem?_eq_getElem _⟩
      obtain ⟨u, hu, ru⟩ := r.get hx
      rw [hv'] at hu; cases hu
      exact ⟨x, hx, ru⟩
  | tpl a =>
    obtain ⟨its, r, p, z⟩ := I.tuple h
    have hne : a ≠ it := (src_out I (.inr h) f).symm
    have D := Draws.tuple (prog := X.prog) (w := X.w) hh it a hne its.toArray
    rw [List.size_toArray, ← r.length] at D
    refine ⟨_, _, _, D, by simp, fun b fb hb hm => ?_, fun i o => ⟨o, p⟩, fun i h st => st.1, fun i v hv => ?_⟩
    · have hm' : b = it ∨ b = a := by simpa using hm
      rcases hm' with e | e
      · exact hb e
      · exact src_out I (.inr h) fb e
    · have hv' : its[i]? = some v := by simpa using hv
      obtain ⟨hi, e⟩ := List.getElem?_eq_some_iff.mp hv'
      obtain ⟨x, hx⟩ : ∃ x, vs[i]? = some x := ⟨vs[i]'(by rw [r.length]; exact hi), List.getElem?_eq_getElem _⟩
      obtain ⟨u, hu, ru⟩ := r.get hx
      rw [hv'] at hu; cases hu
      exact ⟨x, hx, ru⟩
  | txt z u =>
    have D := Draws.text (prog := X.prog) (w := X.w) hh it z u
    have hl : z.cps.size = vs.length := by
      have h' : vs = z.cps.toList.map fun c => V.str ⟨#[c]⟩ := h
      rw [h', List.length_map, Array.length_toList]
    rw [hl] at D
    refine ⟨_, _, _, D, by simp, fun b fb hb hm => hb (by simpa using hm), fun i o => o, fun i h st => st, fun i v hv => ?_⟩
    obtain ⟨c, u', hc, rfl⟩ := hv
    have h' : vs = z.cps.toList.map fun c => V.str ⟨#[c]⟩ := h
    refine ⟨.str ⟨#[c]⟩, ?_, _, rfl⟩
    rw [h', List.getElem?_map, Array.getElem?_toList, hc]
    rfl
end
/-! ### enumerate -/
def ItE (K : PySem.W.Frag) (S : Src) : It :=
  ⟨fun i H => ∃ xs x, S.has K H xs ∧ xs[i]? = some x, fun i H v H' => ∃ T x, v = .ref T ∧ H T = none ∧ H' = upd H T (.tup [.int i, x]) ∧ ∀ xs, S.has K H xs → xs[i]? = some x, fun i H => ∃ xs, S.has K H xs ∧ xs.length = i⟩
theorem tup_ok {P : Program} {w : World} {H : Hp} {h : Heap} {T : Addr} {xs : List V} {its : List Value} (r : Vals xs its) (hl : xs.length ≤ sizeLine) (ht : h.IsTuple T its.toArray) : ObjOk P w (upd H T (.tup xs)) h T (.tup xs) := ⟨hl, its, r, ht⟩
theorem turn_enumS {P : Program} {w : World} {K : PySem.W.Frag} {elts : List Expr} {kk : Nat} {tpos : Pos} (S : Src) (e it : Addr) :
    Turn P w K (.Tuple elts kk tpos) (ItE K S) [e, it] e (fun i h => (∃ old, IsEnum h e it ((i : Nat) : Int) old) ∧ S.own it i h ∧ e ≠ it) where
  mem := by simp
  obj := fun i h st b hb => by
    obtain ⟨⟨old, he⟩, ho, _⟩ := st
    have e' : b = e ∨ b = it := by simpa using hb
    rcases e' with z | z
    · rw [z]; exact ⟨_, he, fun v q => nomatch q⟩
    · rw [z]; exact Src.own_obj ho
  keep := fun i h h' st k => let ⟨⟨old, he⟩, hi, hne⟩ := st; ⟨⟨old, k e (by simp) _ he⟩, Src.own_at hi fun o q => k it (by simp) o q, hne⟩
  item := by
    intro X hP hw hK hc i pins s σ H E I hf st hg
    subst hP hw hK
    obtain ⟨⟨old, he⟩, hit, hne⟩ := st
    obtain ⟨xs, x, hq, hx⟩ := hg
    have fe := hf e (by simp)
    have fi := hf it (by simp)
    obtain ⟨fp, Pp, St, D⟩ := Src.draws I (A := X.A.in1) (show X.A.in1.handled = none from I.ok.hd hc) hq fi
    have W := GoesN.enumFrom (elts := elts) (x1 := kk) (pos := tpos) 0 D.dr e hne (D.out e fe hne) D.mem
    have hi : i < xs.length := (List.getElem?_eq_some_iff.mp hx).1
    have hst : (∃ old, IsEnum s.heap e it (0 + (i : Int)) old) ∧ St i s.heap := ⟨⟨old, by rw [Int.zero_add]; exact he⟩, D.st i hit⟩
    refine W.goes i s (fun u s2 => ∃ x H', Inv X pins σ H' s2 ∧ RelV x u ∧ (ItE X.K S).yld i H x H' ∧ ((∃ old, IsEnum s2.heap e it (((i + 1 : Nat)) : Int) old) ∧ S.own it (i + 1) s2.heap ∧ e ≠ it) ∧ ∀ b ∈ [e, it], H' b = none) E hi hst fun v h' tk hY st' hk htk => ?_
    obtain ⟨T, t', xv, rfl, hT, hP, hI⟩ := hY
    obtain ⟨⟨old', he'⟩, st1⟩ := st'
    obtain ⟨y, hy, ry⟩ := D.val i xv hP
    have ey : y = x := Option.some.inj (hy.symm.trans hx)
    subst ey
    rw [Int.zero_add] at hI he'
    have new : ObjOk X.prog X.w (upd H T (.tup [.int (i : Nat), y])) h' T (.tup [.int (i : Nat), y]) := tup_ok (its := [.int i t', xv]) (.cons ⟨_, rfl⟩ (.cons ry .nil)) (by show 2 ≤ sizeLine; decide) hI
    have I1 : Inv X pins σ (upd H T (.tup [.int (i : Nat), y])) { s with heap := h', toks := tk } := I.turnedNew (ch := [e, it]) hk hf hT new
    refine ⟨.ref T, _, I1, rfl, ⟨T, y, rfl, I.hok.fresh hT, rfl, fun ys hys => by rw [Src.inj I hys hq]; exact hx⟩, ⟨⟨old', he'⟩, D.own _ _ st1, hne⟩, fun b hb => ?_⟩
    have hb' : b < s.heap.objs.size := by
      have e' : b = e ∨ b = it := by simpa using hb
      rcases e' with z | z
      · rw [z]; exact Heap.lt_size he
      · rw [z]; obtain ⟨o, ho, _⟩ := Src.own_obj hit; exact Heap.lt_size ho
    rw [upd_ne (Nat.ne_of_lt (Nat.lt_of_lt_of_le hb' hT))]
    exact (hf b hb).1
  done := by
    intro X hP hw hK hc i pins s σ H E I hf st hg
    subst hP hw hK
    obtain ⟨⟨old, he⟩, hit, hne⟩ := st
    obtain ⟨xs, hq, hx⟩ := hg
    have fe := hf e (by simp)
    have fi := hf it (by simp)
    obtain ⟨fp, Pp, St, D⟩ := Src.draws I (A := X.A.in1) (show X.A.in1.handled = none from I.ok.hd hc) hq fi
    have W := GoesN.enumFrom (elts := elts) (x1 := kk) (pos := tpos) 0 D.dr e hne (D.out e fe hne) D.mem
    subst hx
    exact W.stops s (fun s1 => Inv X pins σ H s1) E ⟨⟨old, by rw [Int.zero_add]; exact he⟩, D.st _ hit⟩ fun h' tk hk htk => I.turnedL (ch := [e, it]) hk hf
  self := fun A i s Q E st h => let ⟨⟨_, he⟩, _⟩ := st; wpAny_pyIter_enum he h
/-! ### zip of 2 -/
def ItZ2 (K : PySem.W.Frag) (S1 S2 : Src) : It :=
  ⟨fun i H => ∃ xs1 xs2 x1 x2, S1.has K H xs1 ∧ S2.has K H xs2 ∧ xs1[i]? = some x1 ∧ xs2[i]? = some x2,
   fun i H v H' => ∃ T x1 x2, v = .ref T ∧ H T = none ∧ H' = upd H T (.tup [x1, x2]) ∧ (∀ xs, S1.has K H xs → xs[i]? = some x1) ∧ (∀ xs, S2.has K H xs → xs[i]? = some x2),
   fun i H => ∃ xs1 xs2, S1.has K H xs1 ∧ S2.has K H xs2 ∧ min xs1.length xs2.length = i⟩
def Apart2 (z TI TO i1 i2 : Addr) : Prop := TI ≠ z ∧ TO ≠ z ∧ TI ≠ TO ∧ TI ≠ i1 ∧ z ≠ i1 ∧ TO ≠ i1 ∧ TI ≠ i2 ∧ z ≠ i2 ∧ TO ≠ i2 ∧ i1 ≠ i2
theorem turn_zipS2 {P : Program} {w : World} {K : PySem.W.Frag} {elts : List Expr} {kk : Nat} {tpos : Pos} (S1 S2 : Src) (z TI TO i1 i2 : Addr) (ap : Apart2 z TI TO i1 i2) :
    Turn P w K (.Tuple elts kk tpos) (ItZ2 K S1 S2) [z, TI, TO, i1, i2] z (fun i h => IsZip h z TI TO .none ∧ IsTupOf2 h TI (.ref i1) (.ref i2) ∧ (∃ a1 a2, IsTupOf2 h TO a1 a2) ∧ S1.own i1 i h ∧ S2.own i2 i h) where
  mem := by simp
  obj := fun i h st b hb => by
    obtain ⟨hz, hTI, ⟨a1, a2, hTO⟩, o1, o2⟩ := st
    have e' : b = z ∨ b = TI ∨ b = TO ∨ b = i1 ∨ b = i2 := by simpa using hb
    rcases e' with q | q | q | q | q
    · rw [q]; exact ⟨_, hz, fun v y => nomatch y⟩
    · rw [q]; exact ⟨_, hTI, fun v y => nomatch y⟩
    · rw [q]; exact ⟨_, hTO, fun v y => nomatch y⟩
    · rw [q]; exact Src.own_obj o1
    · rw [q]; exact Src.own_obj o2
  keep := fun i h h' st k => by
    obtain ⟨hz, hTI, ⟨a1, a2, hTO⟩, o1, o2⟩ := st
    exact ⟨k z (by simp) _ hz, k TI (by simp) _ hTI, ⟨a1, a2, k TO (by simp) _ hTO⟩, Src.own_at o1 fun o q => k i1 (by simp) o q, Src.own_at o2 fun o q => k i2 (by simp) o q⟩
  item := by
    intro X hP hw hK hc i pins s σ H E I hf st hg
    obtain ⟨xs1, xs2, x1, x2, q1, q2, hx1, hx2⟩ := hg
    subst hP hw hK
    obtain ⟨hz, hTI, ⟨a1, a2, hTO⟩, o1, o2⟩ := st
    obtain ⟨d1, d2, d3, t1, z1, u1, t2, z2, u2, p12⟩ := ap
    have fz := hf z (by simp)
    have fTO := hf TO (by simp)
    have f1 := hf i1 (by simp)
    have f2 := hf i2 (by simp)
    obtain ⟨fp1, P1, St1, D1⟩ := Src.draws I (A := X.A.in1) (show X.A.in1.handled = none from I.ok.hd hc) q1 f1
    obtain ⟨fp2, P2, St2, D2⟩ := Src.draws I (A := X.A.in1) (show X.A.in1.handled = none from I.ok.hd hc) q2 f2
    have W := GoesN.zip2 (elts := elts) (x1 := kk) (pos := tpos) { TIz := d1, TOz := d2, TITO := d3, TIi1 := t1, mem1 := D1.mem, zf1 := D1.out z fz z1, Tf1 := D1.out TO fTO u1, TIi2 := t2, mem2 := D2.mem, zf2 := D2.out z fz z2, Tf2 := D2.out TO fTO u2, sep1_2 := D2.out i1 f1 p12, sep2_1 := D1.out i2 f2 (Ne.symm p12) } D1.dr D2.dr
    have l1 : i < xs1.length := (List.getElem?_eq_some_iff.mp hx1).1
    have l2 : i < xs2.length := (List.getElem?_eq_some_iff.mp hx2).1
    refine W.goes i s (fun u s2 => ∃ x H', Inv X pins σ H' s2 ∧ RelV x u ∧ (ItZ2 X.K S1 S2).yld i H x H' ∧ (IsZip s2.heap z TI TO .none ∧ IsTupOf2 s2.heap TI (.ref i1) (.ref i2) ∧ (∃ a1 a2, IsTupOf2 s2.heap TO a1 a2) ∧ S1.own i1 (i + 1) s2.heap ∧ S2.own i2 (i + 1) s2.heap) ∧ ∀ b ∈ [z, TI, TO, i1, i2], H' b = none) E (by omega) ⟨hz, hTI, ⟨a1, a2, hTO⟩, D1.st _ o1, D2.st _ o2⟩ fun v h' tk hY st' hk htk => ?_
    obtain ⟨T, uu1, uu2, rfl, hT, hP1, hP2, hI⟩ := hY
    obtain ⟨hz', hTI', hTO', st1, st2⟩ := st'
    obtain ⟨y1, hy1, ry1⟩ := D1.val i _ hP1
    have ey1 : y1 = x1 := Option.some.inj (hy1.symm.trans hx1)
    subst ey1
    obtain ⟨y2, hy2, ry2⟩ := D2.val i _ hP2
    have ey2 : y2 = x2 := Option.some.inj (hy2.symm.trans hx2)
    subst ey2
    have new : ObjOk X.prog X.w (upd H T (.tup [y1, y2])) h' T (.tup [y1, y2]) := tup_ok (its := [uu1, uu2]) (.cons ry1 (.cons ry2 .nil)) (by show 2 ≤ sizeLine; decide) hI
    have hk' : ∀ b o, b ∉ [z, TI, TO, i1, i2] → s.heap.get? b = some o → h'.get? b = some o := fun b o hb e => hk b o (fun m => hb (by simp at m; rcases m with q | q | q | q <;> simp [q])) e
    have I1 : Inv X pins σ (upd H T (.tup [y1, y2])) { s with heap := h', toks := tk } := I.turnedNew (ch := [z, TI, TO, i1, i2]) hk' hf hT new
    refine ⟨.ref T, _, I1, rfl, ⟨T, y1, y2, rfl, I.hok.fresh hT, rfl, fun ys hys => by rw [Src.inj I hys q1]; exact hx1, fun ys hys => by rw [Src.inj I hys q2]; exact hx2⟩, ⟨hz', hTI', hTO', D1.own _ _ st1, D2.own _ _ st2⟩, fun b hb => ?_⟩
    have hb' : b < s.heap.objs.size := by
      have e' : b = z ∨ b = TI ∨ b = TO ∨ b = i1 ∨ b = i2 := by simpa using hb
      rcases e' with q | q | q | q | q
      · rw [q]; exact Heap.lt_size hz
      · rw [q]; exact Heap.lt_size hTI
      · rw [q]; exact Heap.lt_size hTO
      · rw [q]; obtain ⟨o, ho, _⟩ := Src.own_obj o1; exact Heap.lt_size ho
      · rw [q]; obtain ⟨o, ho, _⟩ := Src.own_obj o2; exact Heap.lt_size ho
    rw [upd_ne (Nat.ne_of_lt (Nat.lt_of_lt_of_le hb' hT))]
    exact (hf b hb).1
  done := by
    intro X hP hw hK hc i pins s σ H E I hf st hg
    obtain ⟨xs1, xs2, q1, q2, hx⟩ := hg
    subst hP hw hK
    obtain ⟨hz, hTI, ⟨a1, a2, hTO⟩, o1, o2⟩ := st
    obtain ⟨d1, d2, d3, t1, z1, u1, t2, z2, u2, p12⟩ := ap
    have fz := hf z (by simp)
    have fTO := hf TO (by simp)
    have f1 := hf i1 (by simp)
    have f2 := hf i2 (by simp)
    obtain ⟨fp1, P1, St1, D1⟩ := Src.draws I (A := X.A.in1) (show X.A.in1.handled = none from I.ok.hd hc) q1 f1
    obtain ⟨fp2, P2, St2, D2⟩ := Src.draws I (A := X.A.in1) (show X.A.in1.handled = none from I.ok.hd hc) q2 f2
    have W := GoesN.zip2 (elts := elts) (x1 := kk) (pos := tpos) { TIz := d1, TOz := d2, TITO := d3, TIi1 := t1, mem1 := D1.mem, zf1 := D1.out z fz z1, Tf1 := D1.out TO fTO u1, TIi2 := t2, mem2 := D2.mem, zf2 := D2.out z fz z2, Tf2 := D2.out TO fTO u2, sep1_2 := D2.out i1 f1 p12, sep2_1 := D1.out i2 f2 (Ne.symm p12) } D1.dr D2.dr
    subst hx
    exact W.stops s (fun s1 => Inv X pins σ H s1) E ⟨hz, hTI, ⟨a1, a2, hTO⟩, D1.st _ o1, D2.st _ o2⟩ fun h' tk hk htk => I.turnedL (ch := [z, TI, TO, i1, i2]) (fun b o hb e => hk b o (fun m => hb (by simp at m; rcases m with q | q | q | q <;> simp [q])) e) hf
  self := fun A i s Q E st h => wpAny_pyIter_zip st.1 h
/-! ### zip of 3 -/
def ItZ3 (K : PySem.W.Frag) (S1 S2 S3 : Src) : It :=
  ⟨fun i H => ∃ xs1 xs2 xs3 x1 x2 x3, S1.has K H xs1 ∧ S2.has K H xs2 ∧ S3.has K H xs3 ∧ xs1[i]? = some x1 ∧ xs2[i]? = some x2 ∧ xs3[i]? = some x3,
   fun i H v H' => ∃ T x1 x2 x3, v = .ref T ∧ H T = none ∧ H' = upd H T (.tup [x1, x2, x3]) ∧ (∀ xs, S1.has K H xs → xs[i]? = some x1) ∧ (∀ xs, S2.has K H xs → xs[i]? = some x2) ∧ (∀ xs, S3.has K H xs → xs[i]? = some x3),
   fun i H => ∃ xs1 xs2 xs3, S1.has K H xs1 ∧ S2.has K H xs2 ∧ S3.has K H xs3 ∧ min (min xs1.length xs2.length) xs3.length = i⟩
def Apart3 (z TI TO i1 i2 i3 : Addr) : Prop := TI ≠ z ∧ TO ≠ z ∧ TI ≠ TO ∧ TI ≠ i1 ∧ z ≠ i1 ∧ TO ≠ i1 ∧ TI ≠ i2 ∧ z ≠ i2 ∧ TO ≠ i2 ∧ TI ≠ i3 ∧ z ≠ i3 ∧ TO ≠ i3 ∧ i1 ≠ i2 ∧ i1 ≠ i3 ∧ i2 ≠ i3
theorem turn_zipS3 {P : Program} {w : World} {K : PySem.W.Frag} {elts : List Expr} {kk : Nat} {tpos : Pos} (S1 S2 S3 : Src) (z TI TO i1 i2 i3 : Addr) (ap : Apart3 z TI TO i1 i2 i3) :
    Turn P w K (.Tuple elts kk tpos) (ItZ3 K S1 S2 S3) [z, TI, TO, i1, i2, i3] z (fun i h => IsZip h z TI TO .none ∧ IsTupOf3 h TI (.ref i1) (.ref i2) (.ref i3) ∧ (∃ a1 a2 a3, IsTupOf3 h TO a1 a2 a3) ∧ S1.own i1 i h ∧ S2.own i2 i h ∧ S3.own i3 i h) where
  mem := by simp
  obj := fun i h st b hb => by
    obtain ⟨hz, hTI, ⟨a1, a2, a3, hTO⟩, o1, o2, o3⟩ := st
    have e' : b = z ∨ b = TI ∨ b = TO ∨ b = i1 ∨ b = i2 ∨ b = i3 := by simpa using hb
    rcases e' with q | q | q | q | q | q
    · rw [q]; exact ⟨_, hz, fun v y => nomatch y⟩
    · rw [q]; exact ⟨_, hTI, fun v y => nomatch y⟩
    · rw [q]; exact ⟨_, hTO, fun v y => nomatch y⟩
    · rw [q]; exact Src.own_obj o1
    · rw [q]; exact Src.own_obj o2
    · rw [q]; exact Src.own_obj o3
  keep := fun i h h' st k => by
    obtain ⟨hz, hTI, ⟨a1, a2, a3, hTO⟩, o1, o2, o3⟩ := st
    exact ⟨k z (by simp) _ hz, k TI (by simp) _ hTI, ⟨a1, a2, a3, k TO (by simp) _ hTO⟩, Src.own_at o1 fun o q => k i1 (by simp) o q, Src.own_at o2 fun o q => k i2 (by simp) o q, Src.own_at o3 fun o q => k i3 (by simp) o q⟩
  item := by
    intro X hP hw hK hc i pins s σ H E I hf st hg
    obtain ⟨xs1, xs2, xs3, x1, x2, x3, q1, q2, q3, hx1, hx2, hx3⟩ := hg
    subst hP hw hK
    obtain ⟨hz, hTI, ⟨a1, a2, a3, hTO⟩, o1, o2, o3⟩ := st
    obtain ⟨d1, d2, d3, t1, z1, u1, t2, z2, u2, t3, z3, u3, p12, p13, p23⟩ := ap
    have fz := hf z (by simp)
    have fTO := hf TO (by simp)
    have f1 := hf i1 (by simp)
    have f2 := hf i2 (by simp)
    have f3 := hf i3 (by simp)
    obtain ⟨fp1, P1, St1, D1⟩ := Src.draws I (A := X.A.in1) (show X.A.in1.handled = none from I.ok.hd hc) q1 f1
    obtain ⟨fp2, P2, St2, D2⟩ := Src.draws I (A := X.A.in1) (show X.A.in1.handled = none from I.ok.hd hc) q2 f2
    obtain ⟨fp3, P3, St3, D3⟩ := Src.draws I (A := X.A.in1) (show X.A.in1.handled = none from I.ok.hd hc) q3 f3
    have W := GoesN.zip3 (elts := elts) (x1 := kk) (pos := tpos) { TIz := d1, TOz := d2, TITO := d3, TIi1 := t1, mem1 := D1.mem, zf1 := D1.out z fz z1, Tf1 := D1.out TO fTO u1, TIi2 := t2, mem2 := D2.mem, zf2 := D2.out z fz z2, Tf2 := D2.out TO fTO u2, TIi3 := t3, mem3 := D3.mem, zf3 := D3.out z fz z3, Tf3 := D3.out TO fTO u3, sep1_2 := D2.out i1 f1 p12, sep1_3 := D3.out i1 f1 p13, sep2_1 := D1.out i2 f2 (Ne.symm p12), sep2_3 := D3.out i2 f2 p23, sep3_1 := D1.out i3 f3 (Ne.symm p13), sep3_2 := D2.out i3 f3 (Ne.symm p23) } D1.dr D2.dr D3.dr
    have l1 : i < xs1.length := (List.getElem?_eq_some_iff.mp hx1).1
    have l2 : i < xs2.length := (List.getElem?_eq_some_iff.mp hx2).1
    have l3 : i < xs3.length := (List.getElem?_eq_some_iff.mp hx3).1
    refine W.goes i s (fun u s2 => ∃ x H', Inv X pins σ H' s2 ∧ RelV x u ∧ (ItZ3 X.K S1 S2 S3).yld i H x H' ∧ (IsZip s2.heap z TI TO .none ∧ IsTupOf3 s2.heap TI (.ref i1) (.ref i2) (.ref i3) ∧ (∃ a1 a2 a3, IsTupOf3 s2.heap TO a1 a2 a3) ∧ S1.own i1 (i + 1) s2.heap ∧ S2.own i2 (i + 1) s2.heap ∧ S3.own i3 (i + 1) s2.heap) ∧ ∀ b ∈ [z, TI, TO, i1, i2, i3], H' b = none) E (by omega) ⟨hz, hTI, ⟨a1, a2, a3, hTO⟩, D1.st _ o1, D2.st _ o2, D3.st _ o3⟩ fun v h' tk hY st' hk htk => ?_
    obtain ⟨T, uu1, uu2, uu3, rfl, hT, hP1, hP2, hP3, hI⟩ := hY
    obtain ⟨hz', hTI', hTO', st1, st2, st3⟩ := st'
    obtain ⟨y1, hy1, ry1⟩ := D1.val i _ hP1
    have ey1 : y1 = x1 := Option.some.inj (hy1.symm.trans hx1)
    subst ey1
    obtain ⟨y2, hy2, ry2⟩ := D2.val i _ hP2
    have ey2 : y2 = x2 := Option.some.inj (hy2.symm.trans hx2)
    subst ey2
    obtain ⟨y3, hy3, ry3⟩ := D3.val i _ hP3
    have ey3 : y3 = x3 := Option.some.inj (hy3.symm.trans hx3)
    subst ey3
    have new : ObjOk X.prog X.w (upd H T (.tup [y1, y2, y3])) h' T (.tup [y1, y2, y3]) := tup_ok (its := [uu1, uu2, uu3]) (.cons ry1 (.cons ry2 (.cons ry3 .nil))) (by show 3 ≤ sizeLine; decide) hI
    have hk' : ∀ b o, b ∉ [z, TI, TO, i1, i2, i3] → s.heap.get? b = some o → h'.get? b = some o := fun b o hb e => hk b o (fun m => hb (by simp at m; rcases m with q | q | q | q | q <;> simp [q])) e
    have I1 : Inv X pins σ (upd H T (.tup [y1, y2, y3])) { s with heap := h', toks := tk } := I.turnedNew (ch := [z, TI, TO, i1, i2, i3]) hk' hf hT new
    refine ⟨.ref T, _, I1, rfl, ⟨T, y1, y2, y3, rfl, I.hok.fresh hT, rfl, fun ys hys => by rw [Src.inj I hys q1]; exact hx1, fun ys hys => by rw [Src.inj I hys q2]; exact hx2, fun ys hys => by rw [Src.inj I hys q3]; exact hx3⟩, ⟨hz', hTI', hTO', D1.own _ _ st1, D2.own _ _ st2, D3.own _ _ st3⟩, fun b hb => ?_⟩
    have hb' : b < s.heap.objs.size := by
      have e' : b = z ∨ b = TI ∨ b = TO ∨ b = i1 ∨ b = i2 ∨ b = i3 := by simpa using hb
      rcases e' with q | q | q | q | q | q
      · rw [q]; exact Heap.lt_size hz
      · rw [q]; exact Heap.lt_size hTI
      · rw [q]; exact Heap.lt_size hTO
      · rw [q]; obtain ⟨o, ho, _⟩ := Src.own_obj o1; exact Heap.lt_size ho
      · rw [q]; obtain ⟨o, ho, _⟩ := Src.own_obj o2; exact Heap.lt_size ho
      · rw [q]; obtain ⟨o, ho, _⟩ := Src.own_obj o3; exact Heap.lt_size ho
    rw [upd_ne (Nat.ne_of_lt (Nat.lt_of_lt_of_le hb' hT))]
    exact (hf b hb).1
  done := by
    intro X hP hw hK hc i pins s σ H E I hf st hg
    obtain ⟨xs1, xs2, xs3, q1, q2, q3, hx⟩ := hg
    subst hP hw hK
    obtain ⟨hz, hTI, ⟨a1, a2, a3, hTO⟩, o1, o2, o3⟩ := st
    obtain ⟨d1, d2, d3, t1, z1, u1, t2, z2, u2, t3, z3, u3, p12, p13, p23⟩ := ap
    have fz := hf z (by simp)
    have fTO := hf TO (by simp)
    have f1 := hf i1 (by simp)
    have f2 := hf i2 (by simp)
    have f3 := hf i3 (by simp)
    obtain ⟨fp1, P1, St1, D1⟩ := Src.draws I (A := X.A.in1) (show X.A.in1.handled = none from I.ok.hd hc) q1 f1
    obtain ⟨fp2, P2, St2, D2⟩ := Src.draws I (A := X.A.in1) (show X.A.in1.handled = none from I.ok.hd hc) q2 f2
    obtain ⟨fp3, P3, St3, D3⟩ := Src.draws I (A := X.A.in1) (show X.A.in1.handled = none from I.ok.hd hc) q3 f3
    have W := GoesN.zip3 (elts := elts) (x1 := kk) (pos := tpos) { TIz := d1, TOz := d2, TITO := d3, TIi1 := t1, mem1 := D1.mem, zf1 := D1.out z fz z1, Tf1 := D1.out TO fTO u1, TIi2 := t2, mem2 := D2.mem, zf2 := D2.out z fz z2, Tf2 := D2.out TO fTO u2, TIi3 := t3, mem3 := D3.mem, zf3 := D3.out z fz z3, Tf3 := D3.out TO fTO u3, sep1_2 := D2.out i1 f1 p12, sep1_3 := D3.out i1 f1 p13, sep2_1 := D1.out i2 f2 (Ne.symm p12), sep2_3 := D3.out i2 f2 p23, sep3_1 := D1.out i3 f3 (Ne.symm p13), sep3_2 := D2.out i3 f3 (Ne.symm p23) } D1.dr D2.dr D3.dr
    subst hx
    exact W.stops s (fun s1 => Inv X pins σ H s1) E ⟨hz, hTI, ⟨a1, a2, a3, hTO⟩, D1.st _ o1, D2.st _ o2, D3.st _ o3⟩ fun h' tk hk htk => I.turnedL (ch := [z, TI, TO, i1, i2, i3]) (fun b o hb e => hk b o (fun m => hb (by simp at m; rcases m with q | q | q | q | q <;> simp [q])) e) hf
  self := fun A i s Q E st h => wpAny_pyIter_zip st.1 h
end L2.DL

set_option Elab.async false
set_option linter.all false
set_option maxRecDepth 100000
set_option maxHeartbeats 2000000
/-! D layer 9: what is walked, on data. -/
namespace L2.DL
open PySem PySem.Spec PyProof.Rows
variable [TabL]

def iSrc (K : PySem.W.Frag) (x : V) (H : Hp) (k : Src → Prop) : Prop :=
  (∃ a xs, x = .ref a ∧ SqL K H a xs ∧ (xs.length ≤ sizeLine → k (.lst a))) ∨ (∃ a xs, x = .ref a ∧ SqT K H a xs ∧ (xs.length ≤ sizeLine → k (.tpl a))) ∨ ∃ z, x = .str z ∧ ∀ u, k (.txt z u)
section
variable {X : Cx} {pins : List (Addr × Obj)} {σ : L2.St} {H : Hp} {s : Shared}
theorem iSrc_ok (I : Inv X pins σ H s) {x : V} {v : Value} (r : RelV x v) {k : Src → Prop} (h : iSrc X.K x H k) : ∃ S xs, S.v = v ∧ S.has X.K H xs ∧ k S := by
  rcases h with ⟨a, xs, rfl, h1, h2⟩ | ⟨a, xs, rfl, h1, h2⟩ | ⟨z, rfl, h2⟩
  · cases r
    obtain ⟨_, _, _, hz⟩ := I.list h1
    exact ⟨.lst a, xs, rfl, h1, h2 hz⟩
  · cases r
    obtain ⟨_, _, _, hz⟩ := I.tuple h1
    exact ⟨.tpl a, xs, rfl, h1, h2 hz⟩
  · obtain ⟨t, rfl⟩ := r
    exact ⟨.txt z t, _, rfl, rfl, h2 t⟩
end
/-- the source as it stands, its items in turn -/
def ItS (K : PySem.W.Frag) (S : Src) : It :=
  ⟨fun i H => ∃ xs x, S.has K H xs ∧ xs[i]? = some x, fun i H v H' => H' = H ∧ ∀ xs, S.has K H xs → xs[i]? = some v, fun i H => ∃ xs, S.has K H xs ∧ xs.length ≤ i⟩
theorem turn_src {P : Program} {w : World} {K : PySem.W.Frag} {tg : Expr} (S : Src) (it : Addr) : Turn P w K tg (ItS K S) [it] it (fun i h => S.own it i h) := by
  cases S with
  | lst a =>
    have T := turn_list (P := P) (w := w) (K := K) (tg := tg) a it
    exact ⟨T.mem, T.obj, T.keep, T.item, T.done, T.self⟩
  | tpl a =>
    have T := turn_tuple (P := P) (w := w) (K := K) (tg := tg) a it
    exact ⟨T.mem, T.obj, T.keep, T.item, T.done, T.self⟩
  | txt z u =>
    have hty : strIterType z = "str_ascii_iterator" ∨ strIterType z = "str_iterator" := by
      unfold strIterType; split
      · exact .inl rfl
      · exact .inr rfl
    have T := turn_str (P := P) (w := w) (K := K) (tg := tg) it z u (strIterType z) hty
    refine ⟨T.mem, T.obj, T.keep, fun X hP hw hK hc i pins s σ H E I hf st hg => ?_, fun X hP hw hK hc i pins s σ H E I hf st hg => ?_, T.self⟩
    · obtain ⟨xs, x, h1, h2⟩ := hg
      have h1' : xs = z.cps.toList.map fun c => V.str ⟨#[c]⟩ := h1
      have hc' : i < z.cps.size := by
        rw [h1', List.getElem?_map, Array.getElem?_toList] at h2
        cases e : z.cps[i]? with
        | none => rw [e] at h2; cases h2
        | some c => exact (Array.getElem?_eq_some_iff.mp e).1
      refine wpAny_mono (T.item X hP hw hK hc i pins s σ H E I hf st hc') (fun r s1 ⟨v, e, hh⟩ => ⟨v, e, wpAny_mono hh (fun _ s2 ⟨x, H', I2, r2, y, st2, n2⟩ => ⟨x, H', I2, r2, ?_, st2, n2⟩) fun _ _ q => q⟩) fun _ _ q => q
      obtain ⟨e1, c, hcx, e2⟩ := y
      refine ⟨e1, fun ys hy => ?_⟩
      have hy' : ys = z.cps.toList.map fun c => V.str ⟨#[c]⟩ := hy
      rw [hy', List.getElem?_map, Array.getElem?_toList, hcx, e2]
      rfl
    · obtain ⟨xs, h1, h2⟩ := hg
      have h1' : xs = z.cps.toList.map fun c => V.str ⟨#[c]⟩ := h1
      exact T.done X hP hw hK hc i pins s σ H E I hf st (by rw [h1', List.length_map, Array.length_toList] at h2; exact h2)
section
variable {X : Cx} {tg : Expr}
def iOne (K : PySem.W.Frag) (te : TE) : TI := fun σ H R => te σ H fun x H1 => iSrc K x H1 fun S => R (ItS K S) H1
theorem pi_src {e : Expr} {te : TE} (he : PE X e te) : PI X tg e (iOne X.K te) := by
  refine ⟨fun pins s σ H R I h => ?_⟩
  refine thn (he.run pins s σ H _ I h) fun v s1 ⟨x, H1, I1, r1, q1⟩ => ?_
  obtain ⟨S, xs, rfl, hS, q⟩ := iSrc_ok I1 r1 q1
  obtain ⟨Hf, B, hf⟩ := Src.begins I1 hS
  refine B.iter _ _ _ _ _ _ hf ?_
  refine ⟨s1.heap.objs.size, [s1.heap.objs.size], _, _, H1, rfl, I1.kept (t' := s1.toks) fun b o e => Heap.get?_push_of_some _ e, turn_src S _, Src.own_new (Heap.get?_push_size _ B.free), fun b hb => ?_, q⟩
  have e : b = s1.heap.objs.size := by simpa using hb
  subst e
  exact I1.fpOk (Nat.le_refl _) (I1.hok.fresh (Nat.le_refl _))
def iEnS (K : PySem.W.Frag) (ta : TA) : TI := fun σ H R => ta σ H fun vs H1 => ∃ x, vs = [x] ∧ iSrc K x H1 fun S => R (ItE K S) H1
theorem pi_enumS {e : Expr} {ta : TA} {p pos tpos : Pos} {elts : List Expr} {kk : Nat} (hg : Gl X "enumerate") (hm : X.mg "enumerate" = none) (ha : PA X [e] ta) (hs : starEach [e] X.env = [(false, eval e X.env)]) :
    PI X (.Tuple elts kk tpos) (.Call (.Name "enumerate" p) [e] [] pos) (iEnS X.K ta) := by
  refine ⟨fun pins s σ H R I h => ?_⟩
  refine Call_ (ld_blt I hg hm boot_enumerate (PyProof.Rows.callWith_type1 (thn (ha.run pos pins s σ H _ I h) fun us s1 ⟨vs, H1, I1, r1, q1⟩ => ?_) hs rfl))
  obtain ⟨x, ex, q1⟩ := q1
  subst ex
  obtain ⟨u, rfl, ru⟩ := vals1 r1
  obtain ⟨S, xs, rfl, hS, q⟩ := iSrc_ok I1 ru q1
  obtain ⟨Hf, B, hf⟩ := Src.begins I1 hS
  refine dl_enum_begins B hf fun h' he hit hsz hk => wpAny_pyIter_enum he ?_
  have I2 : Inv X pins σ H1 { s1 with heap := h' } := I1.kept (t' := s1.toks) hk
  refine ⟨s1.heap.objs.size + 1, [s1.heap.objs.size + 1, s1.heap.objs.size], _, _, H1, rfl, I2, turn_enumS S (s1.heap.objs.size + 1) s1.heap.objs.size, ⟨⟨.none, he⟩, Src.own_new hit, Nat.succ_ne_self _⟩, fun b hb => ?_, q⟩
  have e' : b = s1.heap.objs.size + 1 ∨ b = s1.heap.objs.size := by simpa using hb
  have hle : s1.heap.objs.size ≤ b := by
    rcases e' with z | z
    · rw [z]; exact Nat.le_add_right _ _
    · rw [z]; exact Nat.le_refl _
  exact I1.fpOk hle (I1.hok.fresh hle)
theorem dl_ap2 (N : Nat) : Apart2 (N + 4 : Nat) (N + 2 : Nat) (N + 3 : Nat) (N : Nat) (N + 1 : Nat) :=
  ⟨show (N + 2 : Nat) ≠ N + 4 by omega, show (N + 3 : Nat) ≠ N + 4 by omega, show (N + 2 : Nat) ≠ N + 3 by omega, show (N + 2 : Nat) ≠ N by omega, show (N + 4 : Nat) ≠ N by omega, show (N + 3 : Nat) ≠ N by omega,
    show (N + 2 : Nat) ≠ N + 1 by omega, show (N + 4 : Nat) ≠ N + 1 by omega, show (N + 3 : Nat) ≠ N + 1 by omega, show (N : Nat) ≠ N + 1 by omega⟩
theorem dl_ap3 (N : Nat) : Apart3 (N + 5 : Nat) (N + 3 : Nat) (N + 4 : Nat) (N : Nat) (N + 1 : Nat) (N + 2 : Nat) :=
  ⟨show (N + 3 : Nat) ≠ N + 5 by omega, show (N + 4 : Nat) ≠ N + 5 by omega, show (N + 3 : Nat) ≠ N + 4 by omega, show (N + 3 : Nat) ≠ N by omega, show (N + 5 : Nat) ≠ N by omega, show (N + 4 : Nat) ≠ N by omega,
    show (N + 3 : Nat) ≠ N + 1 by omega, show (N + 5 : Nat) ≠ N + 1 by omega, show (N + 4 : Nat) ≠ N + 1 by omega, show (N + 3 : Nat) ≠ N + 2 by omega, show (N + 5 : Nat) ≠ N + 2 by omega, show (N + 4 : Nat) ≠ N + 2 by omega,
    show (N : Nat) ≠ N + 1 by omega, show (N : Nat) ≠ N + 2 by omega, show (N + 1 : Nat) ≠ N + 2 by omega⟩
def iZS2 (K : PySem.W.Frag) (ta : TA) : TI := fun σ H R => ta σ H fun vs H1 => ∃ x y, vs = [x, y] ∧ iSrc K x H1 fun S1 => iSrc K y H1 fun S2 => R (ItZ2 K S1 S2) H1
theorem pi_zipS2 {e e2 : Expr} {ta : TA} {p pos tpos : Pos} {elts : List Expr} {kk : Nat} (hg : Gl X "zip") (hm : X.mg "zip" = none) (ha : PA X [e, e2] ta)
    (hs : starEach [e, e2] X.env = (false, eval e X.env) :: starEach [e2] X.env) (hpl : (backTo pos (starEach [e2] X.env)).any (·.1) = false) :
    PI X (.Tuple elts kk tpos) (.Call (.Name "zip" p) [e, e2] [] pos) (iZS2 X.K ta) := by
  refine ⟨fun pins s σ H R I h => ?_⟩
  refine Call_ (ld_blt I hg hm PyProof.Rows.boot_zip (PyProof.Rows.callWith_type1 (thn (ha.run pos pins s σ H _ I h) fun us s1 ⟨vs, H1, I1, r1, q1⟩ => ?_) hs hpl))
  obtain ⟨x, y, ex, q1⟩ := q1
  subst ex
  obtain ⟨u1, u2, rfl, ru, ru2⟩ := vals2 r1
  obtain ⟨S1, xs1, rfl, hS1, q⟩ := iSrc_ok I1 ru q1
  obtain ⟨S2, xs2, rfl, hS2, q⟩ := iSrc_ok I1 ru2 q
  obtain ⟨Hf1, B1, hf1⟩ := Src.begins I1 hS1
  obtain ⟨Hf2, B2, hf2⟩ := Src.begins I1 hS2
  refine zip_begins2 B1 B2 hf1 hf2 fun h' hz hTI hTO h1 h2 hsz hk => wpAny_pyIter_zip hz ?_
  have I2 : Inv X pins σ H1 { s1 with heap := h' } := I1.kept (t' := s1.toks) hk
  refine ⟨s1.heap.objs.size + 4, [s1.heap.objs.size + 4, s1.heap.objs.size + 2, s1.heap.objs.size + 3, s1.heap.objs.size, s1.heap.objs.size + 1], _, _, H1, rfl, I2,
    turn_zipS2 S1 S2 _ _ _ _ _ ?_, ⟨hz, hTI, ⟨_, _, hTO⟩, Src.own_new h1, Src.own_new h2⟩, fun b hb => ?_, q⟩
  · exact dl_ap2 _
  · have hle : s1.heap.objs.size ≤ b := by
      simp only [List.mem_cons, List.not_mem_nil, or_false] at hb
      rcases hb with z | z | z | z | z <;> rw [z] <;> first | exact Nat.le_add_right _ _ | exact Nat.le_refl _
    exact I1.fpOk hle (I1.hok.fresh hle)
def iZS3 (K : PySem.W.Frag) (ta : TA) : TI := fun σ H R => ta σ H fun vs H1 => ∃ x y z, vs = [x, y, z] ∧ iSrc K x H1 fun S1 => iSrc K y H1 fun S2 => iSrc K z H1 fun S3 => R (ItZ3 K S1 S2 S3) H1
theorem vals3 {x y z : V} {us : List Value} (r : Vals [x, y, z] us) : ∃ u u2 u3, us = [u, u2, u3] ∧ RelV x u ∧ RelV y u2 ∧ RelV z u3 := by
  cases r with
  | cons r1 r => cases r with
    | cons r2 r => cases r with
      | cons r3 r => cases r; exact ⟨_, _, _, rfl, r1, r2, r3⟩
theorem pi_zipS3 {e e2 e3 : Expr} {ta : TA} {p pos tpos : Pos} {elts : List Expr} {kk : Nat} (hg : Gl X "zip") (hm : X.mg "zip" = none) (ha : PA X [e, e2, e3] ta)
    (hs : starEach [e, e2, e3] X.env = (false, eval e X.env) :: starEach [e2, e3] X.env) (hpl : (backTo pos (starEach [e2, e3] X.env)).any (·.1) = false) :
    PI X (.Tuple elts kk tpos) (.Call (.Name "zip" p) [e, e2, e3] [] pos) (iZS3 X.K ta) := by
  refine ⟨fun pins s σ H R I h => ?_⟩
  refine Call_ (ld_blt I hg hm PyProof.Rows.boot_zip (PyProof.Rows.callWith_type1 (thn (ha.run pos pins s σ H _ I h) fun us s1 ⟨vs, H1, I1, r1, q1⟩ => ?_) hs hpl))
  obtain ⟨x, y, z, ex, q1⟩ := q1
  subst ex
  obtain ⟨u1, u2, u3, rfl, ru, ru2, ru3⟩ := vals3 r1
  obtain ⟨S1, xs1, rfl, hS1, q⟩ := iSrc_ok I1 ru q1
  obtain ⟨S2, xs2, rfl, hS2, q⟩ := iSrc_ok I1 ru2 q
  obtain ⟨S3, xs3, rfl, hS3, q⟩ := iSrc_ok I1 ru3 q
  obtain ⟨Hf1, B1, hf1⟩ := Src.begins I1 hS1
  obtain ⟨Hf2, B2, hf2⟩ := Src.begins I1 hS2
  obtain ⟨Hf3, B3, hf3⟩ := Src.begins I1 hS3
  refine zip_begins3 B1 B2 B3 hf1 hf2 hf3 fun h' hz hTI hTO h1 h2 h3 hsz hk => wpAny_pyIter_zip hz ?_
  have I2 : Inv X pins σ H1 { s1 with heap := h' } := I1.kept (t' := s1.toks) hk
  refine ⟨s1.heap.objs.size + 5, [s1.heap.objs.size + 5, s1.heap.objs.size + 3, s1.heap.objs.size + 4, s1.heap.objs.size, s1.heap.objs.size + 1, s1.heap.objs.size + 2], _, _, H1, rfl, I2,
    turn_zipS3 S1 S2 S3 _ _ _ _ _ _ ?_, ⟨hz, hTI, ⟨_, _, _, hTO⟩, Src.own_new h1, Src.own_new h2, Src.own_new h3⟩, fun b hb => ?_, q⟩
  · exact dl_ap3 _
  · have hle : s1.heap.objs.size ≤ b := by
      simp only [List.mem_cons, List.not_mem_nil, or_false] at hb
      rcases hb with z | z | z | z | z | z <;> rw [z] <;> first | exact Nat.le_add_right _ _ | exact Nat.le_refl _
    exact I1.fpOk hle (I1.hok.fresh hle)
end

/-! ### on data -/
def gSeq : D → Option (List D)
  | .list xs => some xs
  | .tuple xs => some xs
  | .str z => if fitB z.length then some (z.cps.toList.map fun c => .str ⟨#[c]⟩) else none
  | _ => none
/-- looked at, the owned lists among the slots vs -/
def PkS (K : PySem.W.Frag) (vs : List Nat) (ad : Nat → Addr) (env : En) (Hc : Hp) (v : V) (d : D) : Prop := Dv K Hc v d ∨ ∃ i lk xs, i ∈ vs ∧ env[i]? = some (.lst lk xs) ∧ d = .list xs ∧ v = .ref (ad i)
open Classical in
/-- what stands, and the owned lists of the slots vs -/
noncomputable def wH (Hc H : Hp) (ad : Nat → Addr) (env : En) (vs : List Nat) : Hp := fun b => if ∃ i lk ys, i ∈ vs ∧ env[i]? = some (.lst lk ys) ∧ b = ad i then H b else Hc b
def DKs (X : Cx) (E : XK) (C : Addr) (e : Expr) (vs : List Nat) (f : Ev D) : Prop := ∃ t : TE, PE X e t ∧ Reads1 X E C (T := Unit) t (fun ad env _ Hc _ v d => PkS X.K vs ad env Hc v d) f
def DAKs (X : Cx) (E : XK) (C : Addr) (es : List Expr) (vs : List Nat) (f : Ev (List D)) : Prop := ∃ t : TA, PA X es t ∧ Reads1 X E C (T := Unit) t (fun ad env _ Hc _ xs ds => All2 (PkS X.K vs ad env Hc) xs ds) f
section
variable {K : PySem.W.Frag} {ad : Nat → Addr} {da : Option Addr} {Hc H : Hp} {σ : St} {env : En} {s : Dr} {vs : List Nat}
theorem wH_sub (e : ER K ad da Hc H σ env s) : Sub (wH Hc H ad env vs) H := fun b o h => by
  unfold wH at h
  split at h
  · exact h
  · exact e.sub _ _ h
theorem wH_cl (e : ER K ad da Hc H σ env s) : Sub Hc (wH Hc H ad env vs) := fun b o h => by
  unfold wH
  split
  · exact e.sub _ _ h
  · exact h
theorem wH_hw : ∀ b o, wH Hc H ad env vs b = some o → Hc b = some o ∨ ∃ i lk ys, i ∈ vs ∧ env[i]? = some (.lst lk ys) ∧ b = ad i := fun b o h => by
  unfold wH at h
  split at h
  · rename_i hh; exact .inr hh
  · exact .inl h
theorem str_dv {z : Str} : DvAll K Hc (z.cps.toList.map fun c => V.str ⟨#[c]⟩) (z.cps.toList.map fun c => PyData.str ⟨#[c]⟩) := by
  induction z.cps.toList with
  | nil => exact .nil
  | cons c r ih => exact .cons (.str _) ih
theorem src_of {v : V} {d : D} {xs : List D} (e : ER K ad da Hc H σ env s) (p : PkS K vs ad env Hc v d) (hz : gSeq d = some xs) {k : Src → Prop}
    (q : ∀ S ws, DvAll K Hc ws xs → xs.length ≤ sizeLine → (∀ Hc' H', Sub Hc Hc' → Sub Hc' H' → Sub (wH Hc H ad env vs) H' → S.has K H' ws) → k S) : iSrc K v H k := by
  rcases p with p | ⟨i, lk, ys, hi, hx, rfl, rfl⟩
  · cases p with
    | lst h1 h2 =>
      cases hz
      exact .inl ⟨_, _, rfl, SqL.of (e.sub _ _ h1), fun hl => q _ _ h2 (by rw [← h2.length]; exact hl) fun Hc' H' s1 s2 s3 => SqL.of (s2 _ _ (s1 _ _ h1))⟩
    | tup h1 h2 =>
      cases hz
      exact .inr (.inl ⟨_, _, rfl, e.sub.sqT h1, fun hl => q _ _ h2 (by rw [← h2.length]; exact hl) fun Hc' H' s1 s2 s3 => s2.sqT (s1.sqT h1)⟩)
    | str z =>
      have hz' : (if fitB z.length = true then some (z.cps.toList.map fun c => PyData.str ⟨#[c]⟩) else none) = some xs := hz
      split at hz'
      · rename_i hf
        cases hz'
        refine .inr (.inr ⟨z, rfl, fun u => q _ _ str_dv ?_ fun Hc' H' s1 s2 s3 => rfl⟩)
        rw [List.length_map, Array.length_toList]
        exact fitB_le hf
      · cases hz'
    | non => cases hz
    | bl _ => cases hz
    | int _ => cases hz
  · cases hz
    obtain ⟨ws, h1, h2, h3, h4⟩ := e.slot i _ hx
    refine .inl ⟨_, ws, rfl, SqL.of h2, fun hl => q _ ws h3 (by rw [← h3.length]; exact hl) fun Hc' H' s1 s2 s3 => SqL.of (s3 _ _ ?_)⟩
    unfold wH
    rw [if_pos ⟨i, lk, _, hi, hx, rfl⟩]
    exact h2
end
section
variable {X : Cx} {E : XK} {C : Addr} {e e2 e3 tg : Expr} {es : List Expr} {vs us : List Nat} {pos : Pos}
theorem PkS.mono {K : PySem.W.Frag} {ad : Nat → Addr} {env : En} {Hc Hc1 : Hp} {v : V} {d : D} (h : PkS K vs ad env Hc v d) (u : Sub Hc Hc1) : PkS K vs ad env Hc1 v d := h.imp (u.dv ·) id
theorem DE.dks {f : Ev D} (h : DE X E C e f) : DKs X E C e [] f := by
  obtain ⟨t, p, r⟩ := h
  exact ⟨t, p, fun ad da Hc H σ env s Q er q => r ad da Hc H σ env s Q er (q.imp fun _ _ _ _ z => .inl z)⟩
theorem dks_var {i : Nat} {x : Str} (hN : X.N[i]? = some x) (hv : Vis X.env.scope x) (hd : (x == ("__debug__" : Str)) = false) (hcd : (x == ("__classdict__" : Str)) = false) : DKs X E C (.Name x pos) [i] (evPk i) := by
  refine ⟨tVar i, pe_var hN hv hd hcd, fun ad da Hc H σ env s Q er q => ?_⟩
  unfold evPk at q
  cases hx : env[i]? with
  | none => rw [hx] at q; exact q.elim
  | some x =>
    rw [hx] at q
    cases x with
    | val d =>
      obtain ⟨v, h1, h2⟩ := er.slot i _ hx
      exact ⟨v, h1, q v Hc H Nx.refl er (.inl h2)⟩
    | no => exact q.elim
    | lst lk xs =>
      obtain ⟨vs, h1, h2, h3, h4⟩ := er.slot i _ hx
      exact ⟨_, h1, q _ Hc H Nx.refl er (.inr ⟨i, lk, xs, by simp, hx, rfl, rfl⟩)⟩
    | drw => exact q.elim
    | scr ns => exact q.elim
    | dct _ => exact q.elim
theorem daks_nil : DAKs X E C [] [] (fun _ s => .ok ([], s)) := ⟨tNil, pa_nil, fun ad da Hc H σ env s Q er q => q [] Hc H Nx.refl er trivial⟩
theorem daks_cons {fa : Ev D} {fr : Ev (List D)} (ha : DKs X E C e vs fa) (hr : DAKs X E C es us fr) (hs : starEach (e :: es) X.env = (false, eval e X.env) :: starEach es X.env) : DAKs X E C (e :: es) (vs ++ us) (evCons fa fr) := by
  obtain ⟨ta, pa, ra⟩ := ha
  obtain ⟨tr, pr, rr⟩ := hr
  refine ⟨_, pa_cons pa pr hs, fun ad da Hc H σ env s Q er q => ra ad da Hc H σ env s _ er (Post.bind q fun d s1 _ v Hc1 H1 n1 e1 p1 q1 => ?_)⟩
  refine rr ad da Hc1 H1 σ env s1 _ e1 (Post.bind q1 fun ds s2 _ vs' Hc2 H2 n2 e2 p2 q2 => ?_)
  refine q2 _ Hc2 H2 Nx.refl e2 ⟨?_, p2.imp fun _ _ z => ?_⟩
  · rcases p1.mono n2.sub with z | ⟨i, lk, xs, hi, r⟩
    · exact .inl z
    · exact .inr ⟨i, lk, xs, List.mem_append_left _ hi, r⟩
  · rcases z with z | ⟨i, lk, xs, hi, r⟩
    · exact .inl z
    · exact .inr ⟨i, lk, xs, List.mem_append_right _ hi, r⟩
def evSeq (f : Ev D) : Ev (List D) := fun env s => (f env s).bind fun p => (R.ofO (gSeq p.1)).bind fun xs => .ok (xs, p.2)
theorem di_src {f : Ev D} (h : DKs X E C e vs f) : DI X E C tg e vs (evSeq f) := by
  obtain ⟨t, p, r⟩ := h
  refine ⟨_, pi_src p, fun ad da Hc H σ env s Q er q => r ad da Hc H σ env s _ er (IPost.bind q fun d s1 _ v Hc1 H1 n1 e1 p1 q1 => ?_)⟩
  cases hz : gSeq d with
  | none => rw [hz] at q1; exact q1.elim
  | some xs =>
    rw [hz] at q1
    refine src_of e1 p1 hz fun S ws hw hl hh => q1 _ (wH Hc1 H1 ad env vs) Hc1 H1 Nx.refl e1 (wH_sub e1) wH_hw hl fun Hc' H' i s1 s2 s3 => ?_
    have hS := hh Hc' H' s1 s2 s3
    refine ⟨fun x hx => ?_, fun hi => ⟨ws, hS, by rw [hw.length, hi]; exact Nat.le_refl _⟩⟩
    obtain ⟨y, hy, hd⟩ := hw.get hx
    refine ⟨⟨ws, y, hS, hy⟩, fun v' H'' hyl => ?_⟩
    obtain ⟨rfl, hall⟩ := hyl
    have := hall ws hS
    rw [hy] at this
    cases this
    exact ⟨Hc', Al.refl s2, s1.dv hd⟩
def enumD : Nat → List D → List D
  | _, [] => []
  | k, x :: xs => .tuple [.int k, x] :: enumD (k + 1) xs
theorem enumD_len : ∀ (k : Nat) (xs : List D), (enumD k xs).length = xs.length
  | _, [] => rfl
  | k, x :: xs => by rw [enumD, List.length_cons, List.length_cons, enumD_len]
theorem enumD_get : ∀ (k : Nat) (xs : List D) (i : Nat), (enumD k xs)[i]? = (xs[i]?).map fun x => .tuple [.int ((k + i : Nat) : Int), x]
  | _, [], i => by simp [enumD]
  | k, x :: xs, 0 => by simp [enumD]
  | k, x :: xs, i + 1 => by
    rw [enumD, List.getElem?_cons_succ, List.getElem?_cons_succ, enumD_get, show k + 1 + i = k + (i + 1) by omega]
def evEnum (f : Ev (List D)) : Ev (List D) := fun env s => (f env s).bind fun p => match p.1 with
  | [d] => (R.ofO (gSeq d)).bind fun xs => .ok (enumD 0 xs, p.2)
  | _ => .stuck
theorem di_enum {f : Ev (List D)} {p tpos : Pos} {elts : List Expr} {kk : Nat} (hg : Gl X "enumerate") (hm : X.mg "enumerate" = none) (ha : DAKs X E C [e] vs f) (hs : starEach [e] X.env = [(false, eval e X.env)]) :
    DI X E C (.Tuple elts kk tpos) (.Call (.Name "enumerate" p) [e] [] pos) vs (evEnum f) := by
  obtain ⟨t, pa, r⟩ := ha
  refine ⟨_, pi_enumS hg hm pa hs, fun ad da Hc H σ env s Q er q => r ad da Hc H σ env s _ er (IPost.bind q fun ds s1 _ xs Hc1 H1 n1 e1 p1 q1 => ?_)⟩
  split at q1
  · rename_i d hd
    have hd' : ds = [d] := hd
    subst hd'
    obtain ⟨v, rfl, pp⟩ := p1.one
    cases hz : gSeq d with
    | none => rw [hz] at q1; exact q1.elim
    | some xs =>
      rw [hz] at q1
      refine ⟨v, rfl, src_of e1 pp hz fun S ws hw hl hh => q1 _ (wH Hc1 H1 ad env vs) Hc1 H1 Nx.refl e1 (wH_sub e1) wH_hw (by rw [enumD_len]; exact hl) fun Hc' H' i s1 s2 s3 => ?_⟩
      have hS := hh Hc' H' s1 s2 s3
      refine ⟨fun x hx => ?_, fun hi => ?_⟩
      · rw [enumD_get] at hx
        cases hx0 : xs[i]? with
        | none => rw [hx0] at hx; cases hx
        | some x0 =>
          rw [hx0] at hx
          cases hx
          obtain ⟨y, hy, hdv⟩ := hw.get hx0
          refine ⟨⟨ws, y, hS, hy⟩, fun v' H'' hyl => ?_⟩
          obtain ⟨T, y', rfl, hT, rfl, hall⟩ := hyl
          have := hall ws hS
          rw [hy] at this
          cases this
          have su := Sub.upd (o := .tup [.int i, y]) (s2.none hT)
          exact ⟨_, Al.new s2 hT, .tup (SqT.of upd_same) (.cons (by rw [Nat.zero_add]; exact .int _) (.cons (su.dv (s1.dv hdv)) .nil))⟩
      · rw [enumD_len] at hi
        exact ⟨ws, hS, by rw [hw.length]; exact hi⟩
  · exact q1.elim
def zipD2 (xs ys : List D) : List D := List.zipWith (fun x y => .tuple [x, y]) xs ys
def zipD3 (xs ys zs : List D) : List D := List.zipWith (fun x p => .tuple [x, p.1, p.2]) xs (List.zip ys zs)
def evZip2 (f : Ev (List D)) : Ev (List D) := fun env s => (f env s).bind fun p => match p.1 with
  | [d, e] => (R.ofO (gSeq d)).bind fun xs => (R.ofO (gSeq e)).bind fun ys => .ok (zipD2 xs ys, p.2)
  | _ => .stuck
def evZip3 (f : Ev (List D)) : Ev (List D) := fun env s => (f env s).bind fun p => match p.1 with
  | [d, e, g] => (R.ofO (gSeq d)).bind fun xs => (R.ofO (gSeq e)).bind fun ys => (R.ofO (gSeq g)).bind fun zs => .ok (zipD3 xs ys zs, p.2)
  | _ => .stuck
theorem All2.three {α β : Type} {P : α → β → Prop} {as : List α} {b c d : β} (h : All2 P as [b, c, d]) : ∃ x y z, as = [x, y, z] ∧ P x b ∧ P y c ∧ P z d := by
  cases as with
  | nil => exact h.elim
  | cons a r =>
    obtain ⟨y, z, rfl, h2, h3⟩ := All2.two h.2
    exact ⟨a, y, z, rfl, h.1, h2, h3⟩
theorem di_zip2 {f : Ev (List D)} {p tpos : Pos} {elts : List Expr} {kk : Nat} (hg : Gl X "zip") (hm : X.mg "zip" = none) (ha : DAKs X E C [e, e2] vs f) (hs : starEach [e, e2] X.env = (false, eval e X.env) :: starEach [e2] X.env) (hpl : (backTo pos (starEach [e2] X.env)).any (·.1) = false) :
    DI X E C (.Tuple elts kk tpos) (.Call (.Name "zip" p) [e, e2] [] pos) vs (evZip2 f) := by
  obtain ⟨t, pa, r⟩ := ha
  refine ⟨_, pi_zipS2 hg hm pa hs hpl, fun ad da Hc H σ env s Q er q => r ad da Hc H σ env s _ er (IPost.bind q fun ds s1 _ xs Hc1 H1 n1 e1 p1 q1 => ?_)⟩
  split at q1
  · rename_i d d2 hd
    have hd' : ds = [d, d2] := hd
    subst hd'
    obtain ⟨v, v2, rfl, pp, pp2⟩ := p1.two
    cases hz : gSeq d with
    | none => rw [hz] at q1; exact q1.elim
    | some xs =>
      rw [hz] at q1
      cases hz2 : gSeq d2 with
      | none => rw [hz2] at q1; exact q1.elim
      | some ys =>
        rw [hz2] at q1
        refine ⟨v, v2, rfl, src_of e1 pp hz fun S ws hw hl hh => src_of e1 pp2 hz2 fun S2 ws2 hw2 hl2 hh2 => q1 _ (wH Hc1 H1 ad env vs) Hc1 H1 Nx.refl e1 (wH_sub e1) wH_hw ?_ fun Hc' H' i s1 s2 s3 => ?_⟩
        · unfold zipD2; rw [List.length_zipWith]; omega
        · have hS := hh Hc' H' s1 s2 s3
          have hS2 := hh2 Hc' H' s1 s2 s3
          refine ⟨fun x hx => ?_, fun hi => ?_⟩
          · unfold zipD2 at hx
            rw [List.getElem?_zipWith] at hx
            cases hx0 : xs[i]? with
            | none => rw [hx0] at hx; cases hx
            | some x0 =>
              cases hy0 : ys[i]? with
              | none => rw [hx0, hy0] at hx; cases hx
              | some y0 =>
                rw [hx0, hy0] at hx
                cases hx
                obtain ⟨y, hy, hdv⟩ := hw.get hx0
                obtain ⟨y2, hy2, hdv2⟩ := hw2.get hy0
                refine ⟨⟨ws, ws2, y, y2, hS, hS2, hy, hy2⟩, fun v' H'' hyl => ?_⟩
                obtain ⟨T, y', y2', rfl, hT, rfl, hall, hall2⟩ := hyl
                have a1 := hall ws hS
                have a2 := hall2 ws2 hS2
                rw [hy] at a1; cases a1
                rw [hy2] at a2; cases a2
                have su := Sub.upd (o := .tup [y, y2]) (s2.none hT)
                exact ⟨_, Al.new s2 hT, .tup (SqT.of upd_same) (.cons (su.dv (s1.dv hdv)) (.cons (su.dv (s1.dv hdv2)) .nil))⟩
          · unfold zipD2 at hi
            rw [List.length_zipWith] at hi
            exact ⟨ws, ws2, hS, hS2, by rw [hw.length, hw2.length]; exact hi⟩
  · exact q1.elim
theorem di_zip3 {f : Ev (List D)} {p tpos : Pos} {elts : List Expr} {kk : Nat} (hg : Gl X "zip") (hm : X.mg "zip" = none) (ha : DAKs X E C [e, e2, e3] vs f) (hs : starEach [e, e2, e3] X.env = (false, eval e X.env) :: starEach [e2, e3] X.env) (hpl : (backTo pos (starEach [e2, e3] X.env)).any (·.1) = false) :
    DI X E C (.Tuple elts kk tpos) (.Call (.Name "zip" p) [e, e2, e3] [] pos) vs (evZip3 f) := by
  obtain ⟨t, pa, r⟩ := ha
  refine ⟨_, pi_zipS3 hg hm pa hs hpl, fun ad da Hc H σ env s Q er q => r ad da Hc H σ env s _ er (IPost.bind q fun ds s1 _ xs Hc1 H1 n1 e1 p1 q1 => ?_)⟩
  split at q1
  · rename_i d d2 d3 hd
    have hd' : ds = [d, d2, d3] := hd
    subst hd'
    obtain ⟨v, v2, v3, rfl, pp, pp2, pp3⟩ := p1.three
    cases hz : gSeq d with
    | none => rw [hz] at q1; exact q1.elim
    | some xs =>
      rw [hz] at q1
      cases hz2 : gSeq d2 with
      | none => rw [hz2] at q1; exact q1.elim
      | some ys =>
        rw [hz2] at q1
        cases hz3 : gSeq d3 with
        | none => rw [hz3] at q1; exact q1.elim
        | some zs =>
        rw [hz3] at q1
        refine ⟨v, v2, v3, rfl, src_of e1 pp hz fun S ws hw hl hh => src_of e1 pp2 hz2 fun S2 ws2 hw2 hl2 hh2 => src_of e1 pp3 hz3 fun S3 ws3 hw3 hl3 hh3 => q1 _ (wH Hc1 H1 ad env vs) Hc1 H1 Nx.refl e1 (wH_sub e1) wH_hw ?_ fun Hc' H' i s1 s2 s3 => ?_⟩
        · unfold zipD3; rw [List.length_zipWith]; omega
        · have hS := hh Hc' H' s1 s2 s3
          have hS2 := hh2 Hc' H' s1 s2 s3
          have hS3 := hh3 Hc' H' s1 s2 s3
          refine ⟨fun x hx => ?_, fun hi => ?_⟩
          · unfold zipD3 at hx
            rw [List.getElem?_zipWith, List.zip, List.getElem?_zipWith] at hx
            cases hx0 : xs[i]? with
            | none => rw [hx0] at hx; cases hx
            | some x0 =>
              cases hy0 : ys[i]? with
              | none => rw [hx0, hy0] at hx; cases hx
              | some y0 =>
                cases hz0 : zs[i]? with
                | none => rw [hx0, hy0, hz0] at hx; cases hx
                | some z0 =>
                rw [hx0, hy0, hz0] at hx
                cases hx
                obtain ⟨y, hy, hdv⟩ := hw.get hx0
                obtain ⟨y2, hy2, hdv2⟩ := hw2.get hy0
                obtain ⟨y3, hy3, hdv3⟩ := hw3.get hz0
                refine ⟨⟨ws, ws2, ws3, y, y2, y3, hS, hS2, hS3, hy, hy2, hy3⟩, fun v' H'' hyl => ?_⟩
                obtain ⟨T, y', y2', y3', rfl, hT, rfl, hall, hall2, hall3⟩ := hyl
                have a1 := hall ws hS
                have a2 := hall2 ws2 hS2
                have a3 := hall3 ws3 hS3
                rw [hy] at a1; cases a1
                rw [hy2] at a2; cases a2
                rw [hy3] at a3; cases a3
                have su := Sub.upd (o := .tup [y, y2, y3]) (s2.none hT)
                exact ⟨_, Al.new s2 hT, .tup (SqT.of upd_same) (.cons (su.dv (s1.dv hdv)) (.cons (su.dv (s1.dv hdv2)) (.cons (su.dv (s1.dv hdv3)) .nil)))⟩
          · unfold zipD3 at hi
            rw [List.length_zipWith, List.length_zip] at hi
            exact ⟨ws, ws2, ws3, hS, hS2, hS3, by rw [hw.length, hw2.length, hw3.length]; omega⟩
  · exact q1.elim
/-! ranges -/
def rngD (a : Int) (n : Nat) (c : Int) : List D := (List.range n).map fun (k : Nat) => .int (a + (k : Int) * c)
theorem rngD_len (a : Int) (n : Nat) (c : Int) : (rngD a n c).length = n := by unfold rngD; rw [List.length_map, List.length_range]
theorem rngD_get (a : Int) (n : Nat) (c : Int) (i : Nat) : (rngD a n c)[i]? = if i < n then some (.int (a + (i : Int) * c)) else none := by
  unfold rngD
  rw [List.getElem?_map]
  by_cases h : i < n
  · rw [if_pos h, List.getElem?_range h]; rfl
  · rw [if_neg h, List.getElem?_eq_none (by rw [List.length_range]; omega)]; rfl
def inR (i : Int) : Bool := decide (-(2 ^ 62) ≤ i) && decide (i < 2 ^ 62)
def evRng1 (f : Ev (List D)) : Ev (List D) := fun env s => (f env s).bind fun p => match p.1 with
  | [.int j] => if inR j && fitB j.toNat then .ok (rngD 0 j.toNat 1, p.2) else .stuck
  | _ => .stuck
def evRng2 (f : Ev (List D)) : Ev (List D) := fun env s => (f env s).bind fun p => match p.1 with
  | [.int i, .int j] => if inR i && inR j && fitB (j - i).toNat then .ok (rngD i (j - i).toNat 1, p.2) else .stuck
  | _ => .stuck
theorem itr_ok {K : PySem.W.Frag} {W Hc : Hp} (a : Int) (n : Nat) : ItD K (Itr a n) W Hc (rngD a n 1) := fun Hc' H' i s1 s2 s3 => by
  refine ⟨fun x hx => ?_, fun hi => ?_⟩
  · rw [rngD_get] at hx
    split at hx
    · rename_i hlt
      cases hx
      refine ⟨hlt, fun v H'' hy => ?_⟩
      obtain ⟨rfl, rfl⟩ := hy
      rw [Int.mul_one]
      exact ⟨Hc', Al.refl s2, .int _⟩
    · cases hx
  · rw [rngD_len] at hi
    exact Nat.le_of_eq hi
theorem inR_ok {i : Int} (h : inR i = true) : -(2 ^ 62) ≤ i ∧ i < 2 ^ 62 := by
  unfold inR at h
  simp only [Bool.and_eq_true, decide_eq_true_eq] at h
  exact h
theorem di_rng1 {f : Ev (List D)} {p : Pos} (hg : Gl X "range") (hm : X.mg "range" = none) (ha : DAE X E C [e] f) (hs : starEach [e] X.env = [(false, eval e X.env)]) : DI X E C tg (.Call (.Name "range" p) [e] [] pos) [] (evRng1 f) := by
  obtain ⟨t, pa, r⟩ := ha
  refine ⟨_, pi_range1 hg hm pa hs, fun ad da Hc H σ env s Q er q => r ad da Hc H σ env s _ er (IPost.bind q fun ds s1 _ xs Hc1 H1 n1 e1 p1 q1 => ?_)⟩
  split at q1
  · rename_i j hd
    have hd' : ds = [.int j] := hd
    subst hd'
    split at q1
    · rename_i hb
      obtain ⟨hb, hf⟩ := Bool.and_eq_true_iff.mp hb
      obtain ⟨b1, b2⟩ := inR_ok hb
      cases p1 with
      | cons r1 r2 =>
        cases r1
        cases r2
        exact ⟨j, rfl, b1, b2, q1 _ Hc1 Hc1 H1 Nx.refl e1 e1.sub (fun b o h => .inl h) (by rw [rngD_len]; exact fitB_le hf) (itr_ok 0 _)⟩
    · exact q1.elim
  · exact q1.elim
theorem di_rng2 {f : Ev (List D)} {p : Pos} (hg : Gl X "range") (hm : X.mg "range" = none) (ha : DAE X E C [e, e2] f) (hs : starEach [e, e2] X.env = [(false, eval e X.env), (false, eval e2 X.env)]) (hs2 : starEach [e2] X.env = [(false, eval e2 X.env)]) : DI X E C tg (.Call (.Name "range" p) [e, e2] [] pos) [] (evRng2 f) := by
  obtain ⟨t, pa, r⟩ := ha
  refine ⟨_, pi_range2 hg hm pa hs hs2, fun ad da Hc H σ env s Q er q => r ad da Hc H σ env s _ er (IPost.bind q fun ds s1 _ xs Hc1 H1 n1 e1 p1 q1 => ?_)⟩
  split at q1
  · rename_i i j hd
    have hd' : ds = [.int i, .int j] := hd
    subst hd'
    split at q1
    · rename_i hb
      obtain ⟨hb, hf⟩ := Bool.and_eq_true_iff.mp hb
      obtain ⟨hb1, hb2⟩ := Bool.and_eq_true_iff.mp hb
      obtain ⟨b1, b2⟩ := inR_ok hb1
      obtain ⟨b3, b4⟩ := inR_ok hb2
      cases p1 with
      | cons r1 r2 =>
        cases r2 with
        | cons r2 r3 =>
          cases r1
          cases r2
          cases r3
          exact ⟨i, j, rfl, ⟨b1, b2, b3, b4⟩, q1 _ Hc1 Hc1 H1 Nx.refl e1 e1.sub (fun b o h => .inl h) (by rw [rngD_len]; exact fitB_le hf) (itr_ok i _)⟩
    · exact q1.elim
  · exact q1.elim
end
end L2.DL

set_option Elab.async false
set_option linter.all false
set_option maxRecDepth 100000
set_option maxHeartbeats 2000000
/-! D layer 10: new lists of one's own. -/
namespace L2.DL
open PySem PySem.Spec PyProof.Rows
variable [TabL]

section
variable {X : Cx} {E : XK} {C : Addr} {e a b : Expr} {es : List Expr} {pos : Pos}
theorem DF.de {f : Ev D} (h : DF X E C e f) : DE X E C e f := by
  obtain ⟨t, p, r⟩ := h
  exact ⟨t, p, Reads1.shut r⟩
theorem df_lst {f : Ev (List D)} (h : DAE X E C es f) : DF X E C (.List es pos) (evLst f) := by
  obtain ⟨t, p, r⟩ := h
  refine ⟨_, pe_lst p, fun ad da Hc H σ env s Q er q => r ad da Hc H σ env s _ er (Post.bind q fun ds s1 _ vs Hc1 H1 n1 e1 p1 q1 => ?_)⟩
  dsimp only at q1
  split at q1
  · rename_i hf
    refine ⟨by rw [p1.length]; exact fitB_le hf, fun p hp => q1 _ _ _ (Nx.lay hp) (e1.lay hp) ⟨p, vs, ds, rfl, rfl, ?_, upd_same, e1.sub.none hp, p1⟩⟩
    intro o z t
    obtain ⟨o2, z2, _⟩ := n1.there p o z t
    rw [hp] at z2
    cases z2
  · exact q1.elim
/-- only a list -/
def evL (f : Ev D) : Ev D := fun env s => (f env s).bind fun p => match p.1 with
  | .list xs => .ok (.list xs, p.2)
  | _ => .stuck
def OpF (K : PySem.W.Frag) (r : R2) (g : D → D → Option D) : Prop :=
  ∀ (Hc H : Hp) (x y : V) (d e : D) (zs : List D) (Q : VK), Sub Hc H → Pk K Hc H x d → Pk K Hc H y e → g d e = some (.list zs) → (∀ p vs, H p = none → DvAll K Hc vs zs → Q (.ref p) (upd H p (.lst vs))) → r x y H Q
theorem op2F {r : R2} {g : D → D → Option D} {fa fb : Ev D} {ta tb : TE} (hr : OpF X.K r g) (ra : RK X E C ta fa) (rb : RK X E C tb fb) : Reads1 X E C (T := Unit) (tOp r ta tb) (fun _ _ Hst Hc H v d => PF X.K Hst Hc H v d) (evL (ev2 g fa fb)) := fun ad da Hc H σ env s Q er q => by
  have q' : PostX X E C ad da Hc H σ env (fun Hc' H' v d => PF X.K H Hc' H' v d) Q ((fa env s).bind fun p => (fb env p.2).bind fun q => (R.ofO (g p.1 q.1)).bind fun z => match z with
      | .list xs => .ok (.list xs, q.2)
      | _ => .stuck) := by
    have q2 := q
    unfold evL ev2 at q2
    simp only [R.bind_assoc, R.bind_ok] at q2
    exact q2
  refine ra ad da Hc H σ env s _ er (Post.bind q' fun d s1 _ v Hc1 H1 n1 e1 p1 q1 => ?_)
  refine rb ad da Hc1 H1 σ env s1 _ e1 (Post.bind q1 fun d2 s2 _ v2 Hc2 H2 n2 e2 p2 q2 => ?_)
  cases hg : g d d2 with
  | none => rw [hg] at q2; exact q2.elim
  | some z =>
    rw [hg] at q2
    cases z with
    | list zs =>
      refine hr Hc2 H2 v v2 d d2 zs Q e2.sub ((p1.sub n2.sub).pk e2) (p2.pk e2) hg fun p vs hp hd => q2 _ Hc2 _ (Nx.lay hp) (e2.lay hp) ⟨p, vs, zs, rfl, rfl, ?_, upd_same, e2.sub.none hp, hd⟩
      intro o z t
      obtain ⟨o2, z2, _⟩ := (n1.trans n2).there p o z t
      rw [hp] at z2
      cases z2
    | none => exact q2.elim
    | bool _ => exact q2.elim
    | int _ => exact q2.elim
    | str _ => exact q2.elim
    | tuple _ => exact q2.elim
    | dict _ => exact q2.elim
theorem df_bin {op : Operator} {r : R2} {g : D → D → Option D} {fa fb : Ev D} (ho : OpR X (binaryOp op) r) (hr : OpF X.K r g) (ha : DK X E C a fa) (hb : DK X E C b fb) : DF X E C (.BinOp a op b pos) (evL (ev2 g fa fb)) := by
  obtain ⟨ta, pa, ra⟩ := ha
  obtain ⟨tb, pb, rb⟩ := hb
  exact ⟨_, pe_op ho pa pb, op2F hr ra rb⟩
theorem f_add {K : PySem.W.Frag} : OpF K (rAdd4 K) gAdd := by
  intro Hc H x y d e zs Q s hx hy hz q
  unfold gAdd at hz
  split at hz
  · cases hz
  · split at hz
    · rename_i hf
      cases hz
      obtain ⟨a, vs, rfl, h1, h2⟩ := hx.list s
      obtain ⟨b, ws, rfl, h3, h4⟩ := hy.list s
      exact .inr (.inl ⟨a, b, vs, ws, rfl, rfl, h1, h3, by rw [h2.length, h4.length]; exact fitB_le hf, fun p hp => q p _ hp (h2.append h4)⟩)
    · cases hz
  · split at hz <;> cases hz
  · split at hz <;> cases hz
  · cases hz
theorem f_mul {K : PySem.W.Frag} : OpF K (rMul3 K) gMul := by
  intro Hc H x y d e zs Q s hx hy hz q
  unfold gMul at hz
  split at hz
  · split at hz <;> cases hz
  · split at hz
    · rename_i hf
      cases hz
      obtain ⟨a, vs, rfl, h1, h2⟩ := hx.list s
      simp only [Bool.and_eq_true, decide_eq_true_eq] at hf
      exact .inr (.inl ⟨a, _, vs, rfl, hy.int, h1, hf.1.1, hf.1.2, by rw [h2.length]; exact fitB_le hf.2, fun p hp => q p _ hp (h2.flat _)⟩)
    · cases hz
  · split at hz
    · cases hz
    · split at hz <;> cases hz
  · cases hz
/-- a built-in's call that makes a list -/
def CallF (K : PySem.W.Frag) (r : List V → Hp → VK → Prop) (g : List D → Option D) : Prop :=
  ∀ (Hc H : Hp) (vs : List V) (ds : List D) (zs : List D) (Q : VK), Sub Hc H → All2 (Pk K Hc H) vs ds → g ds = some (.list zs) → (∀ p vs, H p = none → DvAll K Hc vs zs → Q (.ref p) (upd H p (.lst vs))) → r vs H Q
theorem CallF.read {r : List V → Hp → VK → Prop} {g : List D → Option D} {t : TA} {f : Ev (List D)} (hr : CallF X.K r g) (h : Reads1 X E C (T := Unit) t (fun ad env _ Hc _ vs ds => All2 (PkV X.K ad env Hc) vs ds) f) :
    Reads1 X E C (T := Unit) (fun σ H Q => t σ H fun vs H1 => r vs H1 Q) (fun _ _ Hst Hc H v d => PF X.K Hst Hc H v d) (evL (evB1 g f)) := fun ad da Hc H σ env s Q er q => by
  have q' : PostX X E C ad da Hc H σ env (fun Hc' H' v d => PF X.K H Hc' H' v d) Q ((f env s).bind fun p => (R.ofO (g p.1)).bind fun z => match z with
      | .list xs => .ok (.list xs, p.2)
      | _ => .stuck) := by
    have q2 := q
    unfold evL evB1 at q2
    simp only [R.bind_assoc, R.bind_ok] at q2
    exact q2
  refine h ad da Hc H σ env s _ er (Post.bind q' fun ds s1 _ vs Hc1 H1 n1 e1 p1 q1 => ?_)
  cases hg : g ds with
  | none => rw [hg] at q1; exact q1.elim
  | some z =>
    rw [hg] at q1
    cases z with
    | list zs =>
      refine hr Hc1 H1 vs ds zs Q e1.sub (p1.imp fun _ _ z => z.pk e1) hg fun p vs hp hd => q1 _ Hc1 _ (Nx.lay hp) (e1.lay hp) ⟨p, vs, zs, rfl, rfl, ?_, upd_same, e1.sub.none hp, hd⟩
      intro o z t
      obtain ⟨o2, z2, _⟩ := n1.there p o z t
      rw [hp] at z2
      cases z2
    | none => exact q1.elim
    | bool _ => exact q1.elim
    | int _ => exact q1.elim
    | str _ => exact q1.elim
    | tuple _ => exact q1.elim
    | dict _ => exact q1.elim
theorem df_callTy {T : String} {x : Str} {p : Pos} {r : List V → Hp → VK → Prop} {g : List D → Option D} {f : Ev (List D)} (hr : CallF X.K r g) (hc : CallR X (.type T) r) (hg : Gl X x) (hm : X.mg x = none) (hv : bootBuiltins x = some (.type T)) (ha : DAK X E C (e :: es) f) (hn : x ≠ "__name__") (hd : (x == ("__debug__" : Str)) = false)
    (hs : starEach (e :: es) X.env = (false, eval e X.env) :: starEach es X.env) (hpl : (backTo pos (starEach es X.env)).any (·.1) = false) : DF X E C (.Call (.Name x p) (e :: es) [] pos) (evL (evB1 g f)) := by
  obtain ⟨t, pa, ra⟩ := ha
  exact ⟨_, pe_callTy hc hg hm hv pa hn hd hs hpl, CallF.read hr ra⟩
theorem df_callB {id : String} {x : Str} {p : Pos} {r : List V → Hp → VK → Prop} {g : List D → Option D} {f : Ev (List D)} (hr : CallF X.K r g) (hc : CallR X (.builtin id) r) (hg : Gl X x) (hm : X.mg x = none) (hv : bootBuiltins x = some (.builtin id)) (ha : DAK X E C (e :: es) f) (hn : x ≠ "__name__") (hd : (x == ("__debug__" : Str)) = false)
    (hs : starEach (e :: es) X.env = (false, eval e X.env) :: starEach es X.env) (hpl : (backTo pos (starEach es X.env)).any (·.1) = false) : DF X E C (.Call (.Name x p) (e :: es) [] pos) (evL (evB1 g f)) := by
  obtain ⟨t, pa, ra⟩ := ha
  exact ⟨_, pe_callB hc hg hm hv pa hn hd hs hpl, CallF.read hr ra⟩
theorem f_list {K : PySem.W.Frag} : CallF K (fun xs H Q => ∃ p ys, xs = [.ref p] ∧ (SqL K H p ys ∨ SqT K H p ys) ∧ ∀ l, H l = none → Q (.ref l) (upd H l (.lst ys))) gList := by
  intro Hc H vs ds zs Q s hx hz q
  unfold gList at hz
  split at hz
  · cases hz
    obtain ⟨v, rfl, hp⟩ := hx.one
    obtain ⟨a, ws, rfl, h1, h2⟩ := hp.list s
    exact ⟨a, ws, rfl, .inl (SqL.of h1), fun p hp => q p _ hp h2⟩
  · cases hz
    obtain ⟨v, rfl, hp⟩ := hx.one
    obtain ⟨a, ws, rfl, h1, h2⟩ := hp.tuple s
    exact ⟨a, ws, rfl, .inr h1, fun p hp => q p _ hp h2⟩
  · cases hz
/-! list(range(..)), tuple(range(..)) -/
theorem rgV_dv {K : PySem.W.Frag} {H : Hp} (a b : Int) : DvAll K H (rgV a b) (rngD a (b - a).toNat 1) := by
  unfold rgV rngD
  generalize (b - a).toNat = n
  have h : ∀ l : List Nat, DvAll K H (l.map fun i => V.int (a + (i : Nat))) (l.map fun (k : Nat) => PyData.int (a + (k : Int) * 1)) := fun l => by
    induction l with
    | nil => exact .nil
    | cons x r ih =>
      rw [List.map_cons, List.map_cons]
      refine .cons ?_ ih
      rw [Int.mul_one]
      exact .int _
  exact h _
def evRgA (f : Ev (List D)) : Ev (Int × Int) := fun env s => (f env s).bind fun p => match p.1 with
  | [.int j] => if inR j && fitB j.toNat then .ok ((0, j), p.2) else .stuck
  | [.int i, .int j] => if inR i && inR j && fitB (j - i).toNat then .ok ((i, j), p.2) else .stuck
  | _ => .stuck
/-- a range object's ends -/
def DRg (X : Cx) (E : XK) (C : Addr) (e : Expr) (f : Ev (Int × Int)) : Prop := ∃ t, PRg X e t ∧ ∀ (ad : Nat → Addr) (da : Option Addr) (Hc H : Hp) (σ : St) (env : En) (s : Dr) (Q : Int → Int → Hp → Prop), ER X.K ad da Hc H σ env s →
  PostX X E C ad da Hc H σ env (fun _ _ (b c : Int × Int) => b = c ∧ RgOk b.1 b.2) (fun b H => Q b.1 b.2 H) (f env s) → t σ H Q
theorem rgOk_of {i j : Int} (h1 : inR i = true) (h2 : inR j = true) (h3 : fitB (j - i).toNat = true) : RgOk i j := by
  obtain ⟨a1, a2⟩ := inR_ok h1
  obtain ⟨b1, b2⟩ := inR_ok h2
  have := Nat.le_of_ble_eq_true h3
  exact ⟨a1, a2, b1, b2, by omega⟩
theorem drg_1 {p : Pos} {fa : Ev D} (hg : Gl X "range") (hm : X.mg "range" = none) (ha : DE X E C a fa) (na : starEach [a] X.env = (false, eval a X.env) :: starEach [] X.env) : DRg X E C (.Call (.Name "range" p) [a] [] pos) (evRgA (evCons fa (fun _ s => .ok ([], s)))) := by
  obtain ⟨t, pa, r⟩ := ha
  refine ⟨_, prg_1 hg hm pa na, fun ad da Hc H σ env s Q er q => ?_⟩
  have q' : PostX X E C ad da Hc H σ env (fun _ _ (b c : Int × Int) => b = c ∧ RgOk b.1 b.2) (fun b H => Q b.1 b.2 H) ((fa env s).bind fun p => match p.1 with
      | .int j => if inR j && fitB j.toNat then .ok ((0, j), p.2) else .stuck
      | _ => .stuck) := by
    have q2 := q
    unfold evRgA evCons at q2
    simp only [R.bind_assoc, R.bind_ok] at q2
    refine cast ?_ q2
    congr 2
    funext p
    rcases p with ⟨d, s⟩
    cases d <;> rfl
  refine r ad da Hc H σ env s _ er (Post.bind q' fun d s1 _ v Hc1 H1 n1 e1 p1 q1 => ?_)
  dsimp only at q1
  split at q1
  · cases p1
    split at q1
    · rename_i hb
      obtain ⟨hb, hf⟩ := Bool.and_eq_true_iff.mp hb
      exact ⟨_, rfl, q1 (0, _) Hc1 H1 Nx.refl e1 ⟨rfl, rgOk_of rfl hb (by rw [Int.sub_zero]; exact hf)⟩⟩
    · exact q1.elim
  · exact q1.elim
theorem drg_2 {p : Pos} {fa fb : Ev D} (hpl : (backTo pos (starEach [b] X.env)).any (·.1) = false) (hg : Gl X "range") (hm : X.mg "range" = none) (ha : DE X E C a fa) (hb : DE X E C b fb) (na : starEach [a, b] X.env = (false, eval a X.env) :: starEach [b] X.env) (nb : starEach [b] X.env = (false, eval b X.env) :: starEach [] X.env) : DRg X E C (.Call (.Name "range" p) [a, b] [] pos) (evRgA (evCons fa (evCons fb (fun _ s => .ok ([], s))))) := by
  obtain ⟨t, pa, r⟩ := ha
  obtain ⟨t2, pb, r2⟩ := hb
  refine ⟨_, prg_2 hg hm pa pb na nb hpl, fun ad da Hc H σ env s Q er q => ?_⟩
  have q' : PostX X E C ad da Hc H σ env (fun _ _ (b c : Int × Int) => b = c ∧ RgOk b.1 b.2) (fun b H => Q b.1 b.2 H) ((fa env s).bind fun p => (fb env p.2).bind fun u => match p.1, u.1 with
      | .int i, .int j => if inR i && inR j && fitB (j - i).toNat then .ok ((i, j), u.2) else .stuck
      | _, _ => .stuck) := by
    have q2 := q
    unfold evRgA evCons at q2
    simp only [R.bind_assoc, R.bind_ok] at q2
    refine cast ?_ q2
    congr 2
    funext p
    congr 1
    funext u
    rcases p with ⟨d, s⟩
    rcases u with ⟨d2, s2⟩
    cases d <;> cases d2 <;> rfl
  refine r ad da Hc H σ env s _ er (Post.bind q' fun d s1 _ v Hc1 H1 n1 e1 p1 q1 => ?_)
  refine r2 ad da Hc1 H1 σ env s1 _ e1 (Post.bind q1 fun d2 s2 _ v2 Hc2 H2 n2 e2 p2 q2 => ?_)
  dsimp only at q2
  split at q2
  · cases p1
    cases p2
    split at q2
    · rename_i hb
      obtain ⟨hb, hf⟩ := Bool.and_eq_true_iff.mp hb
      obtain ⟨hb1, hb2⟩ := Bool.and_eq_true_iff.mp hb
      exact ⟨_, _, rfl, rfl, q2 (_, _) Hc2 H2 Nx.refl e2 ⟨rfl, rgOk_of hb1 hb2 hf⟩⟩
    · exact q2.elim
  · exact q2.elim
def evRgL (f : Ev (Int × Int)) : Ev D := fun env s => (f env s).bind fun p => .ok (.list (rngD p.1.1 (p.1.2 - p.1.1).toNat 1), p.2)
def evRgT (f : Ev (Int × Int)) : Ev D := fun env s => (f env s).bind fun p => .ok (.tuple (rngD p.1.1 (p.1.2 - p.1.1).toNat 1), p.2)
theorem df_listRg {p : Pos} {f : Ev (Int × Int)} (hc : X.calm = true) (hg : Gl X "list") (hm : X.mg "list" = none) (he : DRg X E C e f) (na : starEach [e] X.env = (false, eval e X.env) :: starEach [] X.env) : DF X E C (.Call (.Name "list" p) [e] [] pos) (evRgL f) := by
  obtain ⟨t, pe, r⟩ := he
  refine ⟨_, pe_listRg hc hg hm pe na, fun ad da Hc H σ env s Q er q => r ad da Hc H σ env s _ er (Post.bind q fun d s1 _ v Hc1 H1 n1 e1 p1 q1 => ?_)⟩
  obtain ⟨rfl, hr⟩ := p1
  refine ⟨hr, fun p hp => q1 _ Hc1 _ (Nx.lay hp) (e1.lay hp) ⟨p, _, _, rfl, rfl, ?_, upd_same, e1.sub.none hp, rgV_dv _ _⟩⟩
  intro o z t
  obtain ⟨o2, z2, _⟩ := n1.there p o z t
  rw [hp] at z2
  cases z2
theorem de_tupRg {p : Pos} {f : Ev (Int × Int)} (hc : X.calm = true) (hg : Gl X "tuple") (hm : X.mg "tuple" = none) (he : DRg X E C e f) (na : starEach [e] X.env = (false, eval e X.env) :: starEach [] X.env) : DE X E C (.Call (.Name "tuple" p) [e] [] pos) (evRgT f) := by
  obtain ⟨t, pe, r⟩ := he
  refine ⟨_, pe_tupRg hc hg hm pe na, fun ad da Hc H σ env s Q er q => r ad da Hc H σ env s _ er (Post.bind q fun d s1 _ v Hc1 H1 n1 e1 p1 q1 => ?_)⟩
  obtain ⟨rfl, hr⟩ := p1
  exact ⟨hr, fun p hp => q1 _ _ _ (Al.new e1.sub hp).nx (e1.new hp) (.tup (SqT.of upd_same) (rgV_dv _ _))⟩
theorem df_lc {elt tg iter : Expr} {ifs : List Expr} {scope : Scope} {own : List (Str × Nat)} {vs : List Nat} {fi : Ev (List D)} {t : Tg} {ft : Ev Bool} {fe : Ev D} (hc : X.calm = true) (hN : X.N.Nodup) (hi : DI X E C tg iter vs fi) (ok : BlkOk X.N X.env.scope scope own)
    (hg : ∀ (s : Shared) (H : Hp) (C' : Addr) (cl : List (Str × Addr)) (fp : List Addr), DG (X.blk s H scope (compEnvC scope cl C' X.env) fp) tg t)
    (ht : ∀ (s : Shared) (H : Hp) (C' : Addr) (cl : List (Str × Addr)) (fp : List Addr), DTs (X.blk s H scope (compEnvC scope cl C' X.env) fp) EF C ifs ft)
    (he : ∀ (s : Shared) (H : Hp) (C' : Addr) (cl : List (Str × Addr)) (fp : List Addr), DE (X.blk s H scope (compEnvC scope cl C' X.env) fp) EF C elt fe)
    (hs : ∀ x, foldedSetIterable iter X.env x = pure x) (hsl : ∀ i ∈ t.slots, i ∈ own.map (·.2)) : DF X E C (.ListComp elt [⟨tg, iter, ifs, 0⟩] scope pos) (evLc fi t (own.map (·.2)) ft fe) := by
  obtain ⟨wi, pi, ri⟩ := hi
  exact ⟨_, pe_lc (g := canG X.K t) (tt := can X.K EF C PB ft) (te := can X.K EF C (PV X.K) fe) hc hN pi ok (fun s H C' cl fp => (hg s H C' cl fp).can) (fun s H C' cl fp => (ht s H C' cl fp).can) (fun s H C' cl fp => (he s H C' cl fp).can) hs, lc_readF ri hsl⟩
end
end L2.DL

set_option Elab.async false
set_option linter.all false
set_option maxRecDepth 100000
set_option maxHeartbeats 2000000
/-! D layer 11: statements. -/
namespace L2.DL
open PySem PySem.Spec PyProof.Rows
variable [TabL]

abbrev Kn := En → Dr → R (D × Dr)
/-- a body's entry -/
structure Ent where
  da : Option Addr
  Hc0 : Hp
  H0 : Hp
  fl : Hp
/-- a locked slot: its address, its items -/
structure Lk1 where
  i : Nat
  a : Addr
  xs : List D
  vs : List V
abbrev Lks := List Lk1
structure SRx (K : PySem.W.Frag) (en : Ent) (Lk : Lks) (ad : Nat → Addr) (Hc : Hp) (env : En) (s : Dr) (σ : St) (H : Hp) : Prop where
  er : ER K ad en.da Hc H σ env s
  nx : Nx en.da en.Hc0 en.H0 Hc H
  own0 : ∀ i x, env[i]? = some x → own x = true → NL en.H0 (ad i)
  pins : ∀ p ∈ Lk, ad p.i = p.a ∧ env[p.i]? = some (.lst true p.xs) ∧ H p.a = some (.lst p.vs)
  fl : Sub en.fl Hc
def SR (K : PySem.W.Frag) (en : Ent) (Lk : Lks) (env : En) (s : Dr) (σ : St) (H : Hp) : Prop := ∃ ad Hc, SRx K en Lk ad Hc env s σ H
theorem SRx.ev {K : PySem.W.Frag} {en : Ent} {Lk : Lks} {ad : Nat → Addr} {Hc H Hc1 H1 : Hp} {env : En} {s s1 : Dr} {σ : St} (x : SRx K en Lk ad Hc env s σ H) (n : Nx en.da Hc H Hc1 H1) (e : ER K ad en.da Hc1 H1 σ env s1) : SRx K en Lk ad Hc1 env s1 σ H1 :=
  ⟨e, x.nx.trans n, x.own0, fun p hp => by
    obtain ⟨h1, h2, h3⟩ := x.pins p hp
    exact ⟨h1, h2, n.keep _ _ h3 (fun z => x.er.lstNe p.i _ h2 rfl (by rw [h1]; exact z.symm)) nT_lst⟩, x.fl.trans n.sub⟩
structure Good (X : Cx) (E : XK) (C : Addr) (en : Ent) (Lk : Lks) (k kb kc : Kn) (r : R (D × Dr)) (D : Ends) : Prop where
  nx : ∀ env s σ H, SR X.K en Lk env s σ H → k env s = r → D.nx σ H
  bk : ∀ env s σ H, SR X.K en Lk env s σ H → kb env s = r → D.bk σ H
  ct : ∀ env s σ H, SR X.K en Lk env s σ H → kc env s = r → D.ct σ H
  rt : ∀ d s v Hc H, r = .ok (d, s) → Nx en.da en.Hc0 en.H0 Hc H → Sub Hc H → (∀ a, en.da = some a → DrAt X.K Hc H a s ∧ Hc a = none) → Dv X.K Hc v d → D.rt v H
  er : ∀ c, r = .err c → ∀ dx H', Nx en.da en.Hc0 en.H0 en.Hc0 H' → H' dx = some (.xd [(("code" : Str), .str c)]) → E (.ref C) (some dx) H'
  ns : r ≠ .stuck
abbrev Sf := Kn → Kn → Kn → Kn
def DSt (X : Cx) (E : XK) (C : Addr) (t : TS) (f : Sf) : Prop := ∀ (en : Ent) (Lk : Lks) (k kb kc : Kn) (r : R (DL.D × Dr)) (D : Ends) (σ : St) (H : Hp) (env : En) (s : Dr), SR X.K en Lk env s σ H → f k kb kc env s = r → Good X E C en Lk k kb kc r D → t D σ H
def DS (X : Cx) (E : XK) (C : Addr) (st : Stmt) (f : Sf) : Prop := ∃ t : TS, PS X st t ∧ DSt X E C t f
def DSs (X : Cx) (E : XK) (C : Addr) (st : List Stmt) (f : Sf) : Prop := ∃ t : TS, PSs X st t ∧ DSt X E C t f

section
variable {X : Cx} {E : XK} {C : Addr} {e a b c : Expr} {es : List Expr} {pos : Pos} {st : Stmt} {rest : List Stmt}
/-- an expression within a statement -/
theorem Good.ev {α β : Type} {P : (Nat → Addr) → En → Hp → Hp → Hp → β → α → Prop} {t : St → Hp → (β → Hp → Prop) → Prop} {fe : Ev α} {g : α × Dr → R (D × Dr)} {en : Ent} {Lk : Lks} {k kb kc : Kn} {r : R (DL.D × Dr)} {D : Ends} {ad : Nat → Addr} {Hc H : Hp} {σ : St} {env : En} {s : Dr} {Q : β → Hp → Prop}
    (hr : Reads1 X E C (T := Unit) t P fe) (G : Good X E C en Lk k kb kc r D) (x : SRx X.K en Lk ad Hc env s σ H) (e : (fe env s).bind g = r)
    (kk : ∀ d s1 v Hc1 H1, SRx X.K en Lk ad Hc1 env s1 σ H1 → Nx en.da Hc H Hc1 H1 → P ad env H Hc1 H1 v d → g (d, s1) = r → Q v H1) : t σ H Q := by
  refine hr ad en.da Hc H σ env s Q x.er ?_
  cases hf : fe env s with
  | ok p =>
    rw [hf] at e
    exact fun v Hc1 H1 n1 e1 p1 => kk p.1 p.2 v Hc1 H1 (x.ev n1 e1) n1 p1 e
  | err c =>
    rw [hf] at e
    exact fun dx H' n hx => G.er c e.symm dx H' (x.nx.trans n).weak hx
  | stuck =>
    rw [hf] at e
    exact (G.ns e.symm).elim

/-! ### targets keep what is owned -/
theorem setE_old {i j : Nat} {y : Sl} {d : D} {env env' : En} (h : setE i (.val d) env = some env') (hj : env'[j]? = some y) (ho : own y = true) : env[j]? = some y := by
  have h' : env' = env.set i (.val d) ∧ i < env.length := by
    unfold setE at h
    cases hx : env[i]? with
    | none => rw [hx] at h; cases h
    | some x =>
      have hi : i < env.length := (List.getElem?_eq_some_iff.mp hx).1
      rw [hx] at h
      cases x with
      | lst lk xs => cases lk <;> simp at h; exact ⟨h.symm, hi⟩
      | no => simp at h; exact ⟨h.symm, hi⟩
      | val _ => simp at h; exact ⟨h.symm, hi⟩
      | drw => simp at h; exact ⟨h.symm, hi⟩
      | scr _ => simp at h; exact ⟨h.symm, hi⟩
      | dct _ => simp at h; exact ⟨h.symm, hi⟩
  obtain ⟨rfl, hi⟩ := h'
  by_cases hji : j = i
  · subst hji
    rw [List.getElem?_set_self hi] at hj
    cases hj; cases ho
  · rwa [List.getElem?_set_ne (Ne.symm hji)] at hj
theorem setE_lk {i j : Nat} {xs : List D} {x : Sl} {env env' : En} (h : setE i x env = some env') (hj : env[j]? = some (.lst true xs)) : env'[j]? = some (.lst true xs) := by
  unfold setE at h
  cases hx : env[i]? with
  | none => rw [hx] at h; cases h
  | some y =>
    rw [hx] at h
    have hne : y ≠ .lst true xs → i ≠ j := fun hy z => by subst z; rw [hj] at hx; cases hx; exact hy rfl
    cases y with
    | lst lk ys =>
      cases lk with
      | true => cases h
      | false => simp at h; rw [← h, List.getElem?_set_ne (hne (fun z => by cases z))]; exact hj
    | no => simp at h; rw [← h, List.getElem?_set_ne (hne (fun z => by cases z))]; exact hj
    | val _ => simp at h; rw [← h, List.getElem?_set_ne (hne (fun z => by cases z))]; exact hj
    | drw => simp at h; rw [← h, List.getElem?_set_ne (hne (fun z => by cases z))]; exact hj
    | scr _ => simp at h; rw [← h, List.getElem?_set_ne (hne (fun z => by cases z))]; exact hj
    | dct _ => simp at h; rw [← h, List.getElem?_set_ne (hne (fun z => by cases z))]; exact hj
mutual
theorem bindT_old : ∀ {t : Tg} {d : D} {env env' : En} {j : Nat} {y : Sl}, bindT t d env = some env' → env'[j]? = some y → own y = true → env[j]? = some y
  | .nm i, d, env, env', j, y, h, hj, ho => setE_old (by rw [bindT] at h; exact h) hj ho
  | .tup ts, .tuple ds, env, env', j, y, h, hj, ho => bindTs_old (by rw [bindT] at h; exact h) hj ho
  | .tup _, .none, _, _, _, _, h, _, _ => by simp [bindT] at h
  | .tup _, .bool _, _, _, _, _, h, _, _ => by simp [bindT] at h
  | .tup _, .int _, _, _, _, _, h, _, _ => by simp [bindT] at h
  | .tup _, .str _, _, _, _, _, h, _, _ => by simp [bindT] at h
  | .tup _, .list _, _, _, _, _, h, _, _ => by simp [bindT] at h
  | .tup _, .dict _, _, _, _, _, h, _, _ => by simp [bindT] at h
  | .tnil, _, _, _, _, _, h, _, _ => by simp [bindT] at h
  | .tcons _ _, _, _, _, _, _, h, _, _ => by simp [bindT] at h
theorem bindTs_old : ∀ {t : Tg} {ds : List D} {env env' : En} {j : Nat} {y : Sl}, bindTs t ds env = some env' → env'[j]? = some y → own y = true → env[j]? = some y
  | .tnil, [], env, env', j, y, h, hj, ho => by rw [bindTs] at h; cases h; exact hj
  | .tcons a r, d :: ds, env, env', j, y, h, hj, ho => by
    rw [bindTs] at h
    cases hb : bindT a d env with
    | none => rw [hb] at h; cases h
    | some env1 => rw [hb] at h; exact bindT_old hb (bindTs_old h hj ho) ho
  | .nm _, _, _, _, _, _, h, _, _ => by simp [bindTs] at h
  | .tup _, _, _, _, _, _, h, _, _ => by simp [bindTs] at h
  | .tnil, _ :: _, _, _, _, _, h, _, _ => by simp [bindTs] at h
  | .tcons _ _, [], _, _, _, _, h, _, _ => by simp [bindTs] at h
end
mutual
theorem bindT_lk : ∀ {t : Tg} {d : D} {env env' : En} {j : Nat} {xs : List D}, bindT t d env = some env' → env[j]? = some (.lst true xs) → env'[j]? = some (.lst true xs)
  | .nm i, d, env, env', j, y, h, hj => setE_lk (by rw [bindT] at h; exact h) hj
  | .tup ts, .tuple ds, env, env', j, y, h, hj => bindTs_lk (by rw [bindT] at h; exact h) hj
  | .tup _, .none, _, _, _, _, h, _ => by simp [bindT] at h
  | .tup _, .bool _, _, _, _, _, h, _ => by simp [bindT] at h
  | .tup _, .int _, _, _, _, _, h, _ => by simp [bindT] at h
  | .tup _, .str _, _, _, _, _, h, _ => by simp [bindT] at h
  | .tup _, .list _, _, _, _, _, h, _ => by simp [bindT] at h
  | .tup _, .dict _, _, _, _, _, h, _ => by simp [bindT] at h
  | .tnil, _, _, _, _, _, h, _ => by simp [bindT] at h
  | .tcons _ _, _, _, _, _, _, h, _ => by simp [bindT] at h
theorem bindTs_lk : ∀ {t : Tg} {ds : List D} {env env' : En} {j : Nat} {xs : List D}, bindTs t ds env = some env' → env[j]? = some (.lst true xs) → env'[j]? = some (.lst true xs)
  | .tnil, [], env, env', j, y, h, hj => by rw [bindTs] at h; cases h; exact hj
  | .tcons a r, d :: ds, env, env', j, y, h, hj => by
    rw [bindTs] at h
    cases hb : bindT a d env with
    | none => rw [hb] at h; cases h
    | some env1 => rw [hb] at h; exact bindTs_lk h (bindT_lk hb hj)
  | .nm _, _, _, _, _, _, h, _ => by simp [bindTs] at h
  | .tup _, _, _, _, _, _, h, _ => by simp [bindTs] at h
  | .tnil, _ :: _, _, _, _, _, h, _ => by simp [bindTs] at h
  | .tcons _ _, [], _, _, _, _, h, _ => by simp [bindTs] at h
end
/-- a target has taken its value -/
theorem SRx.bound {K : PySem.W.Frag} {en : Ent} {Lk : Lks} {ad : Nat → Addr} {Hc H : Hp} {σ σ' : St} {env env' : En} {s : Dr} {t : Tg} {d : D} (x : SRx K en Lk ad Hc env s σ H) (e' : ER K ad en.da Hc H σ' env' s) (hb : bindT t d env = some env') : SRx K en Lk ad Hc env' s σ' H :=
  ⟨e', x.nx, fun i y hx ho => x.own0 i y (bindT_old hb hx ho) ho, fun p hp => ⟨(x.pins p hp).1, bindT_lk hb (x.pins p hp).2.1, (x.pins p hp).2.2⟩, x.fl⟩

/-! ### assignments -/
def sAsg (t : Tg) (fe : Ev D) : Sf := fun k _ _ env s => (fe env s).bind fun p => (R.ofO (bindT t p.1 env)).bind fun env' => k env' p.2
theorem asg_read {te : TE} {g : TG} {t : Tg} {fe : Ev D} (re : RE X E C te fe) (rg : ∀ (ad : Nat → Addr) (da : Option Addr) (Hc H : Hp) (σ : St) (env env' : En) (s : Dr) (v : V) (d : D) (Q : St → Hp → Prop), ER X.K ad da Hc H σ env s → Dv X.K Hc v d → bindT t d env = some env' →
    (∀ σ', ER X.K ad da Hc H σ' env' s → (∀ vs, (∀ i ∈ t.slots, i ∈ vs) → wipe σ' vs = wipe σ vs) → Q σ' H) → g v σ H Q) : DSt X E C (tAsg te g) (sAsg t fe) := by
  intro en Lk k kb kc r D σ H env s sr e G
  obtain ⟨ad, Hc, x⟩ := sr
  refine G.ev re x e fun d s1 v Hc1 H1 x1 n1 p1 h => ?_
  cases hb : bindT t d env with
  | none => simp only [hb] at h; exact (G.ns h.symm).elim
  | some env' =>
    simp only [hb] at h
    exact rg ad en.da Hc1 H1 σ env env' s1 v d _ x1.er p1 hb fun σ' e' _ => G.nx env' s1 σ' H1 ⟨_, _, x1.bound e' hb⟩ h
theorem ds_asg {tg : Expr} {t : Tg} {fe : Ev D} (he : DE X E C e fe) (hg : DG X tg t) (hs : swapsWithSole [tg] e pos.line X.env = pure false) (hw : swappedStores [tg] e X.env = pure none) (h1 : (assignEach [tg] X.env).map (·.2) = [assign tg X.env]) : DS X E C (.Assign [tg] e pos) (sAsg t fe) := by
  obtain ⟨te, pe, re⟩ := he
  obtain ⟨g, pg, rg⟩ := hg
  exact ⟨_, ps_asg pe pg hs hw h1, asg_read re rg⟩
/-- y = [..] on one line -/
theorem ds_asgLc {i : Nat} {y : Str} {py : Pos} {elt tg iter : Expr} {ifs : List Expr} {scope : Scope} {own : List (Str × Nat)} {spos : Pos} {vs : List Nat} {fi : Ev (List D)} {t : Tg} {ft : Ev Bool} {fe : Ev D} (hc : X.calm = true) (hN : X.N.Nodup) (hy : X.N[i]? = some y) (hyl : X.env.scope.names.lookup y = some .local)
    (hsw : swapsWith (.ListComp elt [⟨tg, iter, ifs, 0⟩] scope pos) (some (.Name y py)) spos.line X.env = pure true) (hi : DI X E C tg iter vs fi) (ok : BlkOk X.N X.env.scope scope own)
    (hg : ∀ (s : Shared) (H : Hp) (C' : Addr) (cl : List (Str × Addr)) (fp : List Addr), DG (X.blk s H scope (compEnvC scope cl C' X.env) fp) tg t)
    (ht : ∀ (s : Shared) (H : Hp) (C' : Addr) (cl : List (Str × Addr)) (fp : List Addr), DTs (X.blk s H scope (compEnvC scope cl C' X.env) fp) EF C ifs ft)
    (he : ∀ (s : Shared) (H : Hp) (C' : Addr) (cl : List (Str × Addr)) (fp : List Addr), DE (X.blk s H scope (compEnvC scope cl C' X.env) fp) EF C elt fe)
    (hs : ∀ x, foldedSetIterable iter X.env x = pure x) (hsl : ∀ i ∈ t.slots, i ∈ own.map (·.2)) : DS X E C (.Assign [.Name y py] (.ListComp elt [⟨tg, iter, ifs, 0⟩] scope pos) spos) (sAsg (.nm i) (evLc fi t (own.map (·.2)) ft fe)) := by
  obtain ⟨wi, pi, ri⟩ := hi
  refine ⟨_, ps_setLc (g := canG X.K t) (tt := can X.K EF C PB ft) (te := can X.K EF C (PV X.K) fe) hc hN hy hyl hsw pi ok (fun s H C' cl fp => (hg s H C' cl fp).can) (fun s H C' cl fp => (ht s H C' cl fp).can) (fun s H C' cl fp => (he s H C' cl fp).can) hs, ?_⟩
  obtain ⟨g, pg, rg⟩ := dg_name (X := X) (pos := py) hN hy (.inl hyl) (.inr hyl)
  refine asg_read (lc_read ri hsl) fun ad da Hc H σ env env' s v d Q er hd hb q => ?_
  exact q _ (er.put hd (by rw [bindT] at hb; exact hb)) fun vs hv => wipe_set (hv i (by simp [Tg.slots]))

/-! a list of one's own -/
def sAsgO (i : Nat) (fe : Ev D) : Sf := fun k _ _ env s => (fe env s).bind fun p => match p.1 with
  | .list xs => (R.ofO (setE i (.lst false xs) env)).bind fun env' => k env' p.2
  | _ => .stuck
theorem setE_eq {i : Nat} {x : Sl} {env env' : En} (h : setE i x env = some env') : env' = env.set i x ∧ i < env.length ∧ ∀ xs, env[i]? ≠ some (.lst true xs) := by
  unfold setE at h
  cases hx : env[i]? with
  | none => rw [hx] at h; cases h
  | some y =>
    have hi : i < env.length := (List.getElem?_eq_some_iff.mp hx).1
    rw [hx] at h
    cases y with
    | lst lk xs =>
      cases lk with
      | true => cases h
      | false => simp at h; exact ⟨h.symm, hi, fun xs z => by cases z⟩
    | no => simp at h; exact ⟨h.symm, hi, fun xs z => by cases z⟩
    | val _ => simp at h; exact ⟨h.symm, hi, fun xs z => by cases z⟩
    | drw => simp at h; exact ⟨h.symm, hi, fun xs z => by cases z⟩
    | scr _ => simp at h; exact ⟨h.symm, hi, fun xs z => by cases z⟩
    | dct _ => simp at h; exact ⟨h.symm, hi, fun xs z => by cases z⟩
/-- a slot takes a list of its own -/
theorem ER.putO {K : PySem.W.Frag} {ad : Nat → Addr} {da : Option Addr} {Hc H : Hp} {σ : St} {env : En} {s : Dr} {i : Nat} {a : Addr} {vs : List V} {xs : List D} {lk : Bool} (e : ER K ad da Hc H σ env s) (hi : i < env.length) (h2 : H a = some (.lst vs)) (h3 : Hc a = none) (h4 : DvAll K Hc vs xs)
    (hn : ∀ j x, env[j]? = some x → own x = true → j ≠ i → ad j ≠ a) (hd : da ≠ some a) : ER K (fun j => if j = i then a else ad j) da Hc H (σ.set i (some (.ref a))) (env.set i (.lst lk xs)) s := by
  have old : ∀ j x, (env.set i (.lst lk xs))[j]? = some x → j ≠ i → env[j]? = some x := fun j x hj hne => by rwa [List.getElem?_set_ne (Ne.symm hne)] at hj
  have new : ∀ x, (env.set i (.lst lk xs))[i]? = some x → x = .lst lk xs := fun x hj => by rw [List.getElem?_set_self hi] at hj; exact (Option.some.inj hj).symm
  refine ⟨e.sub, by rw [List.length_set, List.length_set]; exact e.len, fun j x hj => ?_, fun j k x y hj hk ox oy ha => ?_, fun j hj => ?_, e.drA, fun j x hj ho => ?_, e.tabs, e.noT⟩
  · by_cases hji : j = i
    · subst hji
      rw [new x hj]
      simp only [if_pos]
      exact ⟨vs, List.getElem?_set_self (by rw [e.len]; exact hi), h2, h4, h3⟩
    · simp only [if_neg hji]
      rw [List.getElem?_set_ne (Ne.symm hji)]
      exact e.slot j x (old j x hj hji)
  · by_cases hji : j = i
    · by_cases hki : k = i
      · rw [hji, hki]
      · subst hji
        simp only [if_pos, if_neg hki] at ha
        exact absurd ha.symm (hn k y (old k y hk hki) oy hki)
    · by_cases hki : k = i
      · subst hki
        simp only [if_pos, if_neg hji] at ha
        exact absurd ha (hn j x (old j x hj hji) ox hji)
      · simp only [if_neg hji, if_neg hki] at ha
        exact e.apart j k x y (old j x hj hji) (old k y hk hki) ox oy ha
  · have hji : j ≠ i := fun z => by subst z; have := new _ hj; cases this
    simp only [if_neg hji]
    exact e.drs j (old j _ hj hji)
  · by_cases hji : j = i
    · simp only [if_pos hji]; exact hd
    · simp only [if_neg hji]; exact e.lstNe j x (old j x hj hji) ho
theorem asgO_read {te : TE} {i : Nat} {fe : Ev D} (re : Reads1 X E C (T := Unit) te (fun _ _ Hst Hc H v d => PF X.K Hst Hc H v d) fe) : DSt X E C (tAsg te (gName i)) (sAsgO i fe) := by
  intro en Lk k kb kc r D σ H env s sr e G
  obtain ⟨ad, Hc, x⟩ := sr
  have er := x.er
  have n0 := x.nx
  refine G.ev re x e fun d s1 v Hc1 H1 x1 n2 p1 h => ?_
  obtain ⟨a, vs, xs, rfl, rfl, h1, h2, h3, h4⟩ := p1
  cases hb : setE i (.lst false xs) env with
  | none => simp only [hb] at h; exact (G.ns h.symm).elim
  | some env' =>
    simp only [hb] at h
    obtain ⟨rfl, hi, hnl⟩ := setE_eq hb
    have hn : ∀ j x, env[j]? = some x → own x = true → j ≠ i → ad j ≠ a := fun j x hj ho _ z => by
      obtain ⟨o, h5, t5, _⟩ := er.there hj ho
      rw [z] at h5
      exact h1 _ h5 t5
    have hd : en.da ≠ some a := fun z => by
      obtain ⟨⟨b, h5, _⟩, _⟩ := er.drA a z
      exact h1 _ h5 nT_lst
    have h0 : NL en.H0 a := fun o z t => by
      obtain ⟨o2, z2, t2⟩ := n0.there a o z t
      exact h1 _ z2 t2
    refine G.nx _ s1 _ H1 ⟨_, Hc1, ⟨x1.er.putO hi h2 h3 h4 hn hd, x1.nx, fun j y hj ho => ?_, fun p hp => ?_, x1.fl⟩⟩ h
    · by_cases hji : j = i
      · simp only [if_pos hji]; exact h0
      · simp only [if_neg hji]
        rw [List.getElem?_set_ne (Ne.symm hji)] at hj
        exact x.own0 j y hj ho
    · obtain ⟨h5, h6, h7⟩ := x1.pins p hp
      have hne : p.i ≠ i := fun z => hnl p.xs (by rw [← z]; exact h6)
      exact ⟨by simp only [if_neg hne]; exact h5, by rw [List.getElem?_set_ne (Ne.symm hne)]; exact h6, h7⟩
theorem ds_asgO {i : Nat} {y : Str} {py : Pos} {fe : Ev D} (hN : X.N.Nodup) (hy : X.N[i]? = some y) (hx : Loc X.env.scope y) (hf : X.fn y = true ∨ X.env.scope.names.lookup y = some .local) (he : DF X E C e fe) (hs : swapsWithSole [.Name y py] e pos.line X.env = pure false) (hw : swappedStores [.Name y py] e X.env = pure none)
    (h1 : (assignEach [.Name y py] X.env).map (·.2) = [assign (.Name y py) X.env]) : DS X E C (.Assign [.Name y py] e pos) (sAsgO i fe) := by
  obtain ⟨te, pe, re⟩ := he
  exact ⟨_, ps_asg pe (pg_name hN hy hx hf) hs hw h1, asgO_read re⟩
theorem ds_asgOLc {i : Nat} {y : Str} {py : Pos} {elt tg iter : Expr} {ifs : List Expr} {scope : Scope} {own : List (Str × Nat)} {spos : Pos} {vs : List Nat} {fi : Ev (List D)} {t : Tg} {ft : Ev Bool} {fe : Ev D} (hc : X.calm = true) (hN : X.N.Nodup) (hy : X.N[i]? = some y) (hyl : X.env.scope.names.lookup y = some .local)
    (hsw : swapsWith (.ListComp elt [⟨tg, iter, ifs, 0⟩] scope pos) (some (.Name y py)) spos.line X.env = pure true) (hi : DI X E C tg iter vs fi) (ok : BlkOk X.N X.env.scope scope own)
    (hg : ∀ (s : Shared) (H : Hp) (C' : Addr) (cl : List (Str × Addr)) (fp : List Addr), DG (X.blk s H scope (compEnvC scope cl C' X.env) fp) tg t)
    (ht : ∀ (s : Shared) (H : Hp) (C' : Addr) (cl : List (Str × Addr)) (fp : List Addr), DTs (X.blk s H scope (compEnvC scope cl C' X.env) fp) EF C ifs ft)
    (he : ∀ (s : Shared) (H : Hp) (C' : Addr) (cl : List (Str × Addr)) (fp : List Addr), DE (X.blk s H scope (compEnvC scope cl C' X.env) fp) EF C elt fe)
    (hs : ∀ x, foldedSetIterable iter X.env x = pure x) (hsl : ∀ i ∈ t.slots, i ∈ own.map (·.2)) : DS X E C (.Assign [.Name y py] (.ListComp elt [⟨tg, iter, ifs, 0⟩] scope pos) spos) (sAsgO i (evLc fi t (own.map (·.2)) ft fe)) := by
  obtain ⟨wi, pi, ri⟩ := hi
  exact ⟨_, ps_setLc (g := canG X.K t) (tt := can X.K EF C PB ft) (te := can X.K EF C (PV X.K) fe) hc hN hy hyl hsw pi ok (fun s H C' cl fp => (hg s H C' cl fp).can) (fun s H C' cl fp => (ht s H C' cl fp).can) (fun s H C' cl fp => (he s H C' cl fp).can) hs, asgO_read (lc_readF ri hsl)⟩
end
end L2.DL

set_option Elab.async false
set_option linter.all false
set_option maxRecDepth 100000
set_option maxHeartbeats 2000000
/-! D layer 12: more statements. -/
namespace L2.DL
open PySem PySem.Spec PyProof.Rows
variable [TabL]

section
variable {X : Cx} {E : XK} {C : Addr} {e a b c : Expr} {es : List Expr} {pos : Pos} {st : Stmt} {rest : List Stmt}
/-! ### blocks -/
def sSkip : Sf := fun k _ _ env s => k env s
def sSeq (f g : Sf) : Sf := fun k kb kc env s => f (g k kb kc) kb kc env s
theorem dss_nil : DSs X E C [] sSkip := ⟨_, pss_nil, fun en Lk k kb kc r D σ H env s sr e G => G.nx env s σ H sr e⟩
theorem DSt.seq {t u : TS} {f g : Sf} (h : DSt X E C t f) (h2 : DSt X E C u g) : DSt X E C (tSeq t u) (sSeq f g) := fun en Lk k kb kc r D σ H env s sr e G =>
  h en Lk (g k kb kc) kb kc r { D with nx := u D } σ H env s sr e ⟨fun env' s' σ' H' sr' e' => h2 en Lk k kb kc r D σ' H' env' s' sr' e' G, G.bk, G.ct, G.rt, G.er, G.ns⟩
theorem dss_cons {f g : Sf} (h : DS X E C st f) (h2 : DSs X E C rest g) : DSs X E C (st :: rest) (sSeq f g) := by
  obtain ⟨t, p, r⟩ := h
  obtain ⟨u, p2, r2⟩ := h2
  exact ⟨_, pss_cons p p2, r.seq r2⟩
theorem dss_one {f : Sf} (h : DS X E C st f) : DSs X E C [st] f := by
  obtain ⟨t, p, r⟩ := h
  exact ⟨_, pss_one p, r⟩
/-- a step of ours ahead of a block: nothing is run -/
theorem DSs.pre {f g : Sf} (h : DSs X E C rest f) (hg : ∀ t : TS, DSt X E C t f → DSt X E C t g) : DSs X E C rest g := by
  obtain ⟨t, p, r⟩ := h
  exact ⟨t, p, hg t r⟩
def sBrk : Sf := fun _ kb _ env s => kb env s
def sCnt : Sf := fun _ _ kc env s => kc env s
theorem ds_pass : DS X E C (.Pass pos) sSkip := ⟨_, ps_pass, fun en Lk k kb kc r D σ H env s sr e G => G.nx env s σ H sr e⟩
theorem ds_brk : DS X E C (.Break pos) sBrk := ⟨_, ps_break, fun en Lk k kb kc r D σ H env s sr e G => G.bk env s σ H sr e⟩
theorem ds_cnt : DS X E C (.Continue pos) sCnt := ⟨_, ps_continue, fun en Lk k kb kc r D σ H env s sr e G => G.ct env s σ H sr e⟩
def sEx (fe : Ev D) : Sf := fun k _ _ env s => (fe env s).bind fun p => k env p.2
theorem ds_ex {fe : Ev D} (he : DE X E C e fe) (hs : swapsWith e none pos.line X.env = pure false) : DS X E C (.Expr e pos) (sEx fe) := by
  obtain ⟨te, pe, re⟩ := he
  refine ⟨_, ps_expr pe hs, fun en Lk k kb kc r D σ H env s ⟨ad, Hc, x⟩ e G => ?_⟩
  exact G.ev re x e fun d s1 v Hc1 H1 x1 n1 p1 h => G.nx env s1 σ H1 ⟨_, _, x1⟩ h
theorem ds_doc {x j pos pos'} : DS X E C (.Expr (.Constant (.str x) j pos) pos') sSkip := ⟨_, ps_doc, fun en Lk k kb kc r D σ H env s sr e G => G.nx env s σ H sr e⟩

/-! ### what is owned stands from now on -/
def frz1 : Sl → Sl
  | .lst _ xs => .val (.list xs)
  | x => x
def frzE (env : En) : En := env.map frz1
theorem frz_own {env : En} {i : Nat} {x : Sl} (h : (frzE env)[i]? = some x) (ho : own x = true) : env[i]? = some x ∧ ∃ kvs, x = .dct kvs := by
  unfold frzE at h
  rw [List.getElem?_map] at h
  cases hy : env[i]? with
  | none => rw [hy] at h; cases h
  | some y =>
    rw [hy] at h
    cases h
    cases y with
    | dct kvs => exact ⟨rfl, kvs, rfl⟩
    | no => cases ho
    | val _ => cases ho
    | lst _ _ => cases ho
    | drw => cases ho
    | scr _ => cases ho
theorem ER.frzAll {K : PySem.W.Frag} {ad : Nat → Addr} {da : Option Addr} {Hc H : Hp} {σ : St} {env : En} {s : Dr} (e : ER K ad da Hc H σ env s) : ∃ Hc', ER K ad da Hc' H σ (frzE env) s ∧ Sub Hc Hc' ∧ ∀ b o, Hc' b = some o → Hc b = none → ∃ i x, env[i]? = some x ∧ own x = true ∧ b = ad i := by
  have hc := wH_cl (vs := List.range env.length) e
  have hs := wH_sub (vs := List.range env.length) e
  have hh := wH_hw (Hc := Hc) (H := H) (ad := ad) (env := env) (vs := List.range env.length)
  refine ⟨wH Hc H ad env (List.range env.length), ⟨hs, by unfold frzE; rw [List.length_map]; exact e.len, fun i x hx => ?_, fun i j x y hi hj ox oy ha => ?_, fun i hi => ?_, fun a ha => ?_, fun i x hx ho => ?_, e.tabs, ?_⟩, hc, fun b o h n => ?_⟩
  · unfold frzE at hx
    rw [List.getElem?_map] at hx
    cases hy : env[i]? with
    | none => rw [hy] at hx; cases hx
    | some y =>
      rw [hy] at hx
      cases hx
      have h := e.slot i y hy
      cases y with
      | no => trivial
      | val d => obtain ⟨v, h1, h2⟩ := h; exact ⟨v, h1, hc.dv h2⟩
      | lst lk xs =>
        obtain ⟨vs, h1, h2, h3, h4⟩ := h
        refine ⟨_, h1, .lst ?_ (hc.dvAll h3)⟩
        unfold wH
        rw [if_pos ⟨i, lk, xs, List.mem_range.mpr (List.getElem?_eq_some_iff.mp hy).1, hy, rfl⟩]
        exact h2
      | drw => exact h
      | scr ns => obtain ⟨a, h1, h2⟩ := h; exact ⟨a, h1, hc.sqL h2⟩
      | dct kvs =>
        obtain ⟨φ, h1, h2, h3, h5, h6⟩ := h
        refine ⟨φ, h1, h2, h3, h5.sub hc, ?_⟩
        cases z : wH Hc H ad env (List.range env.length) (ad i) with
        | none => rfl
        | some o =>
          rcases hh _ o z with q | ⟨j, lk, ys, _, hx, e2⟩
          · rw [h6] at q; cases q
          · have := e.apart i j _ _ hy hx rfl rfl e2
            subst this
            rw [hy] at hx; cases hx
  · exact e.apart i j x y (frz_own hi ox).1 (frz_own hj oy).1 ox oy ha
  · unfold frzE at hi
    rw [List.getElem?_map] at hi
    cases hy : env[i]? with
    | none => rw [hy] at hi; cases hi
    | some z =>
      rw [hy] at hi
      cases z with
      | drw => exact e.drs i hy
      | no => cases hi
      | val _ => cases hi
      | lst _ _ => cases hi
      | scr _ => cases hi
      | dct _ => cases hi
  · obtain ⟨h1, h2⟩ := e.drA a ha
    refine ⟨h1.sub hc rfl, ?_⟩
    cases z : wH Hc H ad env (List.range env.length) a with
    | none => rfl
    | some o =>
      rcases hh a o z with q | ⟨i, lk, ys, _, hx, rfl⟩
      · rw [h2] at q; cases q
      · exact (e.lstNe i _ hx rfl ha).elim
  · exact e.lstNe i x (frz_own hx ho).1 ho
  · intro b o h
    rcases hh b o h with q | ⟨i, lk, ys, _, hx, rfl⟩
    · exact e.noT b o q
    · obtain ⟨ws, _, q2, _, _⟩ := e.slot i _ hx
      have q3 := hs _ _ h
      rw [q2] at q3
      cases q3
      exact nT_lst
  · rcases hh b o h with q | ⟨i, lk, ys, _, hx, rfl⟩
    · rw [n] at q; cases q
    · exact ⟨i, _, hx, rfl, rfl⟩
def sRet (fe : Ev D) : Sf := fun _ _ _ env s => fe (frzE env) s
theorem ds_ret {fe : Ev D} (he : DE X E C e fe) : DS X E C (.Return (some e) pos) (sRet fe) := by
  obtain ⟨te, pe, re⟩ := he
  refine ⟨_, ps_ret pe, fun en Lk k kb kc r D σ H env s ⟨ad, Hc, x⟩ e G => ?_⟩
  obtain ⟨Hc', e', hs, hf⟩ := x.er.frzAll
  have n' : Nx en.da en.Hc0 en.H0 Hc' H := ⟨x.nx.sub.trans hs, fun b o h n => by
    cases q : Hc b with
    | some o' => exact x.nx.fresh b o' q n
    | none =>
      obtain ⟨i, y, hy, ho, rfl⟩ := hf b o h q
      exact x.own0 i y hy ho, x.nx.keep, x.nx.there, x.nx.tab, fun _ => e'.noT⟩
  refine re ad en.da Hc' H σ (frzE env) s _ e' ?_
  have e2 : fe (frzE env) s = r := e
  rw [e2]
  cases r with
  | ok p => exact fun v Hc1 H1 n1 e1 p1 => G.rt p.1 p.2 v Hc1 H1 rfl (n'.trans n1) e1.sub e1.drA p1
  | err c => exact fun dx H' n hx => G.er c rfl dx H' (n'.trans n).weak hx
  | stuck => exact (G.ns rfl).elim
def sRetN : Sf := fun _ _ _ _ s => .ok (.none, s)
theorem ds_retN : DS X E C (.Return none pos) sRetN := ⟨_, ps_retN, fun en Lk k kb kc r D σ H env s ⟨ad, Hc, x⟩ e G => G.rt .none s .non Hc H e.symm x.nx x.er.sub x.er.drA .non⟩
/-- one slot's list stands from now on -/
def frzI (i : Nat) (env : En) : En := match env[i]? with
  | some (.lst false xs) => env.set i (.val (.list xs))
  | _ => env
def sFrz (i : Nat) (f : Sf) : Sf := fun k kb kc env s => f k kb kc (frzI i env) s
theorem ER.frz {K : PySem.W.Frag} {ad : Nat → Addr} {da : Option Addr} {Hc H : Hp} {σ : St} {env : En} {s : Dr} {i : Nat} {xs : List D} (e : ER K ad da Hc H σ env s) (hx : env[i]? = some (.lst false xs)) :
    ∃ vs, H (ad i) = some (.lst vs) ∧ Hc (ad i) = none ∧ ER K ad da (upd Hc (ad i) (.lst vs)) H σ (env.set i (.val (.list xs))) s := by
  have hi : i < env.length := (List.getElem?_eq_some_iff.mp hx).1
  obtain ⟨vs, h1, h2, h3, h4⟩ := e.slot i _ hx
  have hsub : Sub Hc (upd Hc (ad i) (.lst vs)) := Sub.upd h4
  have old : ∀ j x, (env.set i (.val (.list xs)))[j]? = some x → j ≠ i → env[j]? = some x := fun j x hj hne => by rwa [List.getElem?_set_ne (Ne.symm hne)] at hj
  have new : ∀ x, (env.set i (.val (.list xs)))[i]? = some x → x = .val (.list xs) := fun x hj => by rw [List.getElem?_set_self hi] at hj; exact (Option.some.inj hj).symm
  refine ⟨vs, h2, h4, fun b o h => ?_, by rw [List.length_set]; exact e.len, fun j x hj => ?_, fun j k x y hj hk ox oy ha => ?_, fun j hj => ?_, fun a ha => ?_, fun j x hj ho => ?_, e.tabs, e.noT.upd nT_lst⟩
  · by_cases hb : b = ad i
    · subst hb; rw [upd_same] at h; cases h; exact h2
    · rw [upd_ne hb] at h; exact e.sub _ _ h
  · by_cases hji : j = i
    · subst hji
      rw [new x hj]
      exact ⟨_, h1, .lst upd_same (hsub.dvAll h3)⟩
    · have h := e.slot j x (old j x hj hji)
      cases x with
      | no => trivial
      | val d => obtain ⟨v, q1, q2⟩ := h; exact ⟨v, q1, hsub.dv q2⟩
      | lst lk ys =>
        obtain ⟨ws, q1, q2, q3, q4⟩ := h
        refine ⟨ws, q1, q2, hsub.dvAll q3, ?_⟩
        rw [upd_ne (fun z => hji (e.apart j i _ _ (old j _ hj hji) hx rfl rfl z))]
        exact q4
      | drw => exact h
      | scr ns => obtain ⟨a, q1, q2⟩ := h; exact ⟨a, q1, hsub.sqL q2⟩
      | dct kvs =>
        obtain ⟨φ, q1, q2, q3, q4, q5⟩ := h
        refine ⟨φ, q1, q2, q3, q4.sub hsub, ?_⟩
        rw [upd_ne (fun z => hji (e.apart j i _ _ (old j _ hj hji) hx rfl rfl z))]
        exact q5
  · have n1 : j ≠ i := fun z => by subst z; rw [new x hj] at ox; cases ox
    have n2 : k ≠ i := fun z => by subst z; rw [new y hk] at oy; cases oy
    exact e.apart j k x y (old j x hj n1) (old k y hk n2) ox oy ha
  · have n1 : j ≠ i := fun z => by subst z; have := new _ hj; cases this
    exact e.drs j (old j _ hj n1)
  · obtain ⟨q1, q2⟩ := e.drA a ha
    refine ⟨q1.sub hsub rfl, ?_⟩
    rw [upd_ne (fun z => e.lstNe i _ hx rfl (by rw [ha, z]))]
    exact q2
  · have n1 : j ≠ i := fun z => by subst z; rw [new _ hj] at ho; cases ho
    exact e.lstNe j x (old j x hj n1) ho
theorem SRx.frz {K : PySem.W.Frag} {en : Ent} {Lk : Lks} {ad : Nat → Addr} {Hc H : Hp} {σ : St} {env : En} {s : Dr} (x : SRx K en Lk ad Hc env s σ H) (i : Nat) : SR K en Lk (frzI i env) s σ H := by
  unfold frzI
  split
  · rename_i xs hx
    obtain ⟨vs, h2, h4, e'⟩ := x.er.frz hx
    have hi : i < env.length := (List.getElem?_eq_some_iff.mp hx).1
    refine ⟨ad, _, e', x.nx.freeze (x.own0 i _ hx rfl) h2 h4, fun j y hj ho => ?_, fun p hp => ?_, x.fl.trans (Sub.upd h4)⟩
    · have n1 : j ≠ i := fun z => by subst z; rw [List.getElem?_set_self hi] at hj; cases hj; cases ho
      rw [List.getElem?_set_ne (Ne.symm n1)] at hj
      exact x.own0 j y hj ho
    · obtain ⟨h5, h6, h7⟩ := x.pins p hp
      have hne : p.i ≠ i := fun z => by rw [z, hx] at h6; cases h6
      exact ⟨h5, by rw [List.getElem?_set_ne (Ne.symm hne)]; exact h6, h7⟩
  · exact ⟨ad, Hc, x⟩
theorem DSt.frz {t : TS} {f : Sf} (h : DSt X E C t f) (i : Nat) : DSt X E C t (sFrz i f) := fun en Lk k kb kc r D σ H env s ⟨ad, Hc, x⟩ e G => h en Lk k kb kc r D σ H _ s (x.frz i) e G

/-! ### if, while -/
def sIf (fc : Ev Bool) (f g : Sf) : Sf := fun k kb kc env s => (fc env s).bind fun p => if p.1 then f k kb kc env p.2 else g k kb kc env p.2
theorem ds_if {fc : Ev Bool} {f g : Sf} {sa sb : List Stmt} (hc : DT X E C c fc) (ha : DSs X E C sa f) (hb : DSs X E C sb g) : DS X E C (.If c sa sb pos) (sIf fc f g) := by
  obtain ⟨tc, pc, rc⟩ := hc
  obtain ⟨t, p, r⟩ := ha
  obtain ⟨u, p2, r2⟩ := hb
  refine ⟨_, ps_if pc p p2, fun en Lk k kb kc rr D σ H env s ⟨ad, Hc, x⟩ e G => ?_⟩
  refine G.ev rc x e fun d s1 v Hc1 H1 x1 n1 p1 h => ?_
  cases p1
  dsimp only at h
  cases d with
  | true => rw [if_pos rfl] at h ⊢; exact r en Lk k kb kc rr D σ H1 env s1 ⟨_, _, x1⟩ h G
  | false => rw [if_neg Bool.false_ne_true] at h ⊢; exact r2 en Lk k kb kc rr D σ H1 env s1 ⟨_, _, x1⟩ h G
def whileF (fc : Ev Bool) (f : Sf) (k : Kn) : Nat → Kn
  | 0, _, _ => .stuck
  | n + 1, env, s => (fc env s).bind fun p => if p.1 then f (whileF fc f k n) k (whileF fc f k n) env p.2 else k env p.2
def sWhile (n : Nat) (fc : Ev Bool) (f : Sf) : Sf := fun k _ _ env s => whileF fc f k n env s
theorem ds_while {n : Nat} {fc : Ev Bool} {f : Sf} {sb : List Stmt} (hp : PassesOwn (model X.prog X.w) X.A X.env X.xe) (hc : DT X E C c fc) (hb : DSs X E C sb f) : DS X E C (.While c sb [] pos) (sWhile n fc f) := by
  obtain ⟨tc, pc, rc⟩ := hc
  obtain ⟨t, p, r⟩ := hb
  refine ⟨_, ps_while hp pc p, fun en Lk k kb kc rr D σ H env s sr e G => ?_⟩
  refine ⟨fun m σ H => ∃ env s, SR X.K en Lk env s σ H ∧ whileF fc f k m env s = rr, ⟨n, env, s, sr, e⟩, fun m σ H w => ?_⟩
  obtain ⟨env, s, ⟨ad, Hc, x⟩, e⟩ := w
  cases m with
  | zero => exact (G.ns e.symm).elim
  | succ m =>
    rw [whileF] at e
    refine G.ev rc x e fun d s1 v Hc1 H1 x1 n1 p1 h => ?_
    cases p1
    dsimp only at h
    cases d with
    | false => rw [if_neg Bool.false_ne_true] at h ⊢; exact G.nx env s1 σ H1 ⟨_, _, x1⟩ h
    | true =>
      rw [if_pos rfl] at h ⊢
      refine ⟨fun σ' H' => ∃ env s, SR X.K en Lk env s σ' H' ∧ whileF fc f k m env s = rr, fun σ' H' w => ⟨m, Nat.lt_succ_self _, w⟩, ?_⟩
      exact r en Lk (whileF fc f k m) k (whileF fc f k m) rr _ σ H1 env s1 ⟨_, _, x1⟩ h ⟨fun env s σ H sr e => ⟨env, s, sr, e⟩, G.nx, fun env s σ H sr e => ⟨env, s, sr, e⟩, G.rt, G.er, G.ns⟩
end
end L2.DL

set_option Elab.async false
set_option linter.all false
set_option maxRecDepth 100000
set_option maxHeartbeats 2000000
/-! D layer 13: for. -/
namespace L2.DL
open PySem PySem.Spec PyProof.Rows
variable [TabL]

/-! ### a list that is walked is locked -/
def lkS (b : Bool) : Sl → Sl
  | .lst _ xs => .lst b xs
  | x => x
def lockG (b : Bool) (vs : List Nat) : Nat → En → En
  | _, [] => []
  | n, x :: xs => (if vs.contains n then lkS b x else x) :: lockG b vs (n + 1) xs
def lockE (b : Bool) (vs : List Nat) (env : En) : En := if vs.isEmpty then env else lockG b vs 0 env
def isOpen : Option Sl → Bool
  | some (.lst false _) => true
  | _ => false
def openIn (vs : List Nat) (env : En) : List Nat := vs.filter fun i => isOpen env[i]?
theorem lockG_get {b : Bool} {vs : List Nat} : ∀ (n : Nat) (env : En) (i : Nat), (lockG b vs n env)[i]? = (env[i]?).map fun x => if vs.contains (n + i) then lkS b x else x
  | n, [], i => by simp [lockG]
  | n, x :: xs, 0 => by simp [lockG]
  | n, x :: xs, i + 1 => by
    rw [lockG, List.getElem?_cons_succ, List.getElem?_cons_succ, lockG_get (n + 1) xs i]
    rw [show n + 1 + i = n + (i + 1) by omega]
theorem lockE_get {b : Bool} {vs : List Nat} {env : En} {i : Nat} : (lockE b vs env)[i]? = (env[i]?).map fun x => if vs.contains i then lkS b x else x := by
  unfold lockE
  cases vs with
  | nil => simp
  | cons v vs => rw [List.isEmpty_cons, if_neg Bool.false_ne_true, lockG_get]; simp
theorem lockG_len {b : Bool} {vs : List Nat} : ∀ (n : Nat) (env : En), (lockG b vs n env).length = env.length
  | _, [] => rfl
  | n, x :: xs => by rw [lockG, List.length_cons, List.length_cons, lockG_len]
theorem lockE_len {b : Bool} {vs : List Nat} {env : En} : (lockE b vs env).length = env.length := by
  unfold lockE; split; rfl; exact lockG_len 0 env
/-- the same but for the locks -/
def Rlk (x y : Sl) : Prop := x = y ∨ ∃ l l' xs, x = .lst l xs ∧ y = .lst l' xs
theorem Rlk.own {x y : Sl} (h : Rlk x y) : DL.own y = true → DL.own x = true := by
  rcases h with rfl | ⟨_, _, _, rfl, rfl⟩
  · exact id
  · exact fun _ => rfl
theorem rlk_lkS (b : Bool) (x : Sl) : Rlk x (lkS b x) := by
  cases x with
  | lst l xs => exact .inr ⟨_, _, _, rfl, rfl⟩
  | _ => exact .inl rfl
theorem lockE_rlk {b : Bool} {vs : List Nat} {env : En} {i : Nat} {y : Sl} (h : (lockE b vs env)[i]? = some y) : ∃ x, env[i]? = some x ∧ Rlk x y := by
  rw [lockE_get] at h
  cases hx : env[i]? with
  | none => rw [hx] at h; cases h
  | some x =>
    rw [hx] at h
    refine ⟨x, rfl, ?_⟩
    have h' := Option.some.inj h
    subst h'
    split
    · exact rlk_lkS b x
    · exact .inl rfl
theorem ER.relk {K : PySem.W.Frag} {ad : Nat → Addr} {da : Option Addr} {Hc H : Hp} {σ : St} {env : En} {s : Dr} (e : ER K ad da Hc H σ env s) (b : Bool) (vs : List Nat) : ER K ad da Hc H σ (lockE b vs env) s := by
  refine ⟨e.sub, by rw [lockE_len]; exact e.len, fun i y hy => ?_, fun i j x y hi hj ox oy ha => ?_, fun i hi => ?_, e.drA, fun i x hx ho => ?_, e.tabs, e.noT⟩
  · obtain ⟨x, hx, r⟩ := lockE_rlk hy
    have h := e.slot i x hx
    rcases r with rfl | ⟨_, _, _, rfl, rfl⟩
    · exact h
    · exact h
  · obtain ⟨x', hx', r1⟩ := lockE_rlk hi
    obtain ⟨y', hy', r2⟩ := lockE_rlk hj
    exact e.apart i j x' y' hx' hy' (r1.own ox) (r2.own oy) ha
  · obtain ⟨x', hx', r1⟩ := lockE_rlk hi
    rcases r1 with rfl | ⟨_, _, _, _, z⟩
    · exact e.drs i hx'
    · cases z
  · obtain ⟨x', hx', r1⟩ := lockE_rlk hx
    exact e.lstNe i x' hx' (r1.own ho)
theorem lockE_stay {b : Bool} {vs : List Nat} {env : En} {i : Nat} {xs : List D} {l : Bool} (h : env[i]? = some (.lst l xs)) : (lockE b vs env)[i]? = some (.lst (if vs.contains i then b else l) xs) := by
  rw [lockE_get, h]
  simp only [Option.map_some]
  split <;> rfl

/-! ### the loop -/
def forL (t : Tg) (f : Sf) (nl : List Nat) (k : Kn) : List D → Kn
  | [], env, s => k (lockE false nl env) s
  | x :: xs, env, s => (R.ofO (bindT t x env)).bind fun env' => f (forL t f nl k xs) (fun env s => k (lockE false nl env) s) (forL t f nl k xs) env' s
def sFor (vs : List Nat) (fi : Ev (List D)) (t : Tg) (f : Sf) : Sf := fun k _ _ env s => (fi env s).bind fun p => forL t f (openIn vs env) k p.1 (lockE true (openIn vs env) env) p.2

section
variable {X : Cx} {E : XK} {C : Addr} {e a b c : Expr} {es : List Expr} {pos : Pos} {st : Stmt} {rest : List Stmt}
/-- the pins of what is walked -/
theorem SRx.lock {K : PySem.W.Frag} {en : Ent} {Lk : Lks} {ad : Nat → Addr} {Hc H : Hp} {env : En} {s : Dr} {σ : St} (x : SRx K en Lk ad Hc env s σ H) (vs : List Nat) :
    ∃ Lk', SRx K { en with fl := Hc } (Lk ++ Lk') ad Hc (lockE true (openIn vs env) env) s σ H ∧ ∀ i lk ys, i ∈ vs → env[i]? = some (.lst lk ys) → ∃ p ∈ Lk', p.i = i := by
  have mk : ∀ vs : List Nat, ∃ Lk' : Lks, (∀ p ∈ Lk', p.i ∈ vs ∧ ad p.i = p.a ∧ (∃ lk, env[p.i]? = some (.lst lk p.xs)) ∧ H p.a = some (.lst p.vs)) ∧ ∀ i lk ys, i ∈ vs → env[i]? = some (.lst lk ys) → ∃ p ∈ Lk', p.i = i := by
    intro vs
    induction vs with
    | nil => exact ⟨[], (fun p hp => nomatch hp), (fun i lk ys h => nomatch h)⟩
    | cons v vs ih =>
      obtain ⟨L, h1, h2⟩ := ih
      have h1' : ∀ p ∈ L, p.i ∈ v :: vs ∧ ad p.i = p.a ∧ (∃ lk, env[p.i]? = some (.lst lk p.xs)) ∧ H p.a = some (.lst p.vs) := fun p hp => ⟨List.mem_cons_of_mem _ (h1 p hp).1, (h1 p hp).2⟩
      by_cases hv : ∃ lk ys, env[v]? = some (.lst lk ys)
      · obtain ⟨lk, ys, hx⟩ := hv
        obtain ⟨ws, q1, q2, q3, q4⟩ := x.er.slot v _ hx
        refine ⟨⟨v, ad v, ys, ws⟩ :: L, fun p hp => ?_, fun i lk' zs hi hz => ?_⟩
        · rcases List.mem_cons.mp hp with rfl | hp
          · exact ⟨List.mem_cons_self, rfl, ⟨lk, hx⟩, q2⟩
          · exact h1' p hp
        · rcases List.mem_cons.mp hi with rfl | hi
          · exact ⟨_, List.mem_cons_self, rfl⟩
          · obtain ⟨p, hp, e⟩ := h2 i lk' zs hi hz
            exact ⟨p, List.mem_cons_of_mem _ hp, e⟩
      · refine ⟨L, h1', fun i lk' zs hi hz => ?_⟩
        rcases List.mem_cons.mp hi with rfl | hi
        · exact (hv ⟨_, _, hz⟩).elim
        · exact h2 i lk' zs hi hz
  obtain ⟨L, h1, h2⟩ := mk vs
  refine ⟨L, ⟨x.er.relk true _, x.nx, fun i y hy ho => ?_, fun p hp => ?_, Sub.refl _⟩, h2⟩
  · obtain ⟨z, hz, r⟩ := lockE_rlk hy
    exact x.own0 i z hz (r.own ho)
  · rcases List.mem_append.mp hp with hp | hp
    · obtain ⟨q1, q2, q3⟩ := x.pins p hp
      refine ⟨q1, ?_, q3⟩
      rw [lockE_stay q2]
      split <;> rfl
    · obtain ⟨q0, q1, ⟨lk, q2⟩, q3⟩ := h1 p hp
      refine ⟨q1, ?_, q3⟩
      rw [lockE_stay q2]
      cases lk with
      | true => split <;> rfl
      | false =>
        rw [if_pos]
        unfold openIn
        rw [List.contains_iff_mem, List.mem_filter]
        exact ⟨q0, by rw [q2]; rfl⟩
theorem SR.unlock {K : PySem.W.Frag} {en : Ent} {Lk Lk' : Lks} {fl : Hp} {env0 env : En} {vs : List Nat} {s : Dr} {σ : St} {H : Hp} (h : SR K { en with fl := fl } (Lk ++ Lk') env s σ H) (hf : Sub en.fl fl) (hp : ∀ p ∈ Lk, env0[p.i]? = some (.lst true p.xs)) : SR K en Lk (lockE false (openIn vs env0) env) s σ H := by
  obtain ⟨ad, Hc, x⟩ := h
  refine ⟨ad, Hc, x.er.relk false _, x.nx, fun i y hy ho => ?_, fun p h => ?_, hf.trans x.fl⟩
  · obtain ⟨z, hz, r⟩ := lockE_rlk hy
    exact x.own0 i z hz (r.own ho)
  · obtain ⟨q1, q2, q3⟩ := x.pins p (List.mem_append_left _ h)
    refine ⟨q1, ?_, q3⟩
    rw [lockE_stay q2, if_neg]
    intro z
    unfold openIn at z
    rw [List.contains_iff_mem, List.mem_filter, hp p h] at z
    cases z.2
theorem ds_for {tg iter : Expr} {vs : List Nat} {fi : Ev (List D)} {t : Tg} {f : Sf} {body : List Stmt} (hp : PassesOwn (model X.prog X.w) X.A X.env X.xe) (hc : X.calm = true) (hi : DI X E C tg iter vs fi) (hg : DG X tg t) (hb : DSs X E C body f)
    (hs : ∀ x, foldedSetIterable iter X.env x = pure x) : DS X E C (.For tg iter body [] pos) (sFor vs fi t f) := by
  obtain ⟨wi, pi, ri⟩ := hi
  obtain ⟨g, pg, rg⟩ := hg
  obtain ⟨tb, pb, rb⟩ := hb
  refine ⟨_, ps_for hp hc pi pg pb hs, fun en Lk k kb kc r D σ H env s ⟨ad, Hc, x⟩ e G => ?_⟩
  refine ri ad en.da Hc H σ env s _ x.er ?_
  have e' : (fi env s).bind (fun p => forL t f (openIn vs env) k p.1 (lockE true (openIn vs env) env) p.2) = r := e
  cases hf : fi env s with
  | err c =>
    rw [hf] at e'
    exact fun dx H' n hx => G.er c e'.symm dx H' (x.nx.trans n).weak hx
  | stuck =>
    rw [hf] at e'
    exact (G.ns e'.symm).elim
  | ok p =>
    rw [hf] at e'
    obtain ⟨xs, s1⟩ := p
    intro J W Hc1 H1 n1 e1 sw hw hlen hJ
    have x1 := x.ev n1 e1
    obtain ⟨Lk', x2, hL⟩ := x1.lock vs
    have hpin : ∀ p ∈ Lk, env[p.i]? = some (.lst true p.xs) := fun p hp => (x.pins p hp).2.1
    have e2 : forL t f (openIn vs env) k xs (lockE true (openIn vs env) env) s1 = r := e'
    refine ⟨fun i m σ H => m = xs.length - i ∧ i ≤ xs.length ∧ ∃ env' s', SR X.K { en with fl := Hc1 } (Lk ++ Lk') env' s' σ H ∧ forL t f (openIn vs env) k (xs.drop i) env' s' = r, ⟨_, rfl, Nat.zero_le _, _, _, ⟨_, _, x2⟩, e2⟩, fun i m σ2 H2 hW => ?_⟩
    obtain ⟨rfl, hi, env2, s2, ⟨ad2, Hc2, x3⟩, e3⟩ := hW
    have sw2 : Sub W H2 := fun b o h => by
      rcases hw b o h with h2 | ⟨i, lk, ys, hi, hx, rfl⟩
      · exact x3.er.sub _ _ (x3.fl _ _ h2)
      · obtain ⟨p, hp, rfl⟩ := hL i lk ys hi hx
        obtain ⟨q1, q2, q3⟩ := x2.pins p (List.mem_append_right _ hp)
        obtain ⟨q4, q5, q6⟩ := x3.pins p (List.mem_append_right _ hp)
        have h4 := sw _ _ h
        rw [q1, q3] at h4
        rw [q1, q6]
        exact h4
    obtain ⟨hgo, hstop⟩ := hJ Hc2 H2 i x3.fl x3.er.sub sw2
    by_cases hlt : i < xs.length
    · obtain ⟨y, hy⟩ : ∃ y, xs[i]? = some y := ⟨xs[i], List.getElem?_eq_getElem hlt⟩
      have hdrop : xs.drop i = y :: xs.drop (i + 1) := by
        rw [List.drop_eq_getElem_cons hlt]
        rw [List.getElem?_eq_getElem hlt] at hy
        rw [Option.some.inj hy]
      obtain ⟨g1, g2⟩ := hgo y hy
      rw [hdrop, forL] at e3
      refine .inr ⟨g1, fun σ' H' => ∃ env' s', SR X.K { en with fl := Hc1 } (Lk ++ Lk') env' s' σ' H' ∧ forL t f (openIn vs env) k (xs.drop (i + 1)) env' s' = r, fun σ' H' hN => ⟨xs.length - (i + 1), by omega, rfl, hlt, hN⟩, fun v H3 hyl => ?_⟩
      obtain ⟨Hc3, al, hdv⟩ := g2 v H3 hyl
      have e4 := al.er x3.er
      have x4 := x3.ev al.nx e4
      cases hb : bindT t y env2 with
      | none => rw [hb] at e3; exact (G.ns e3.symm).elim
      | some env3 =>
        rw [hb] at e3
        refine rg ad2 en.da Hc3 H3 σ2 env2 env3 s2 v y _ e4 hdv hb fun σ' e5 _ => ?_
        exact rb { en with fl := Hc1 } (Lk ++ Lk') _ _ _ r _ σ' H3 env3 s2 ⟨_, _, x4.bound e5 hb⟩ e3
          ⟨fun env s σ H sr e => ⟨env, s, sr, e⟩, fun env s σ H sr e => G.nx _ s σ H (sr.unlock (x.fl.trans n1.sub) hpin) e, fun env s σ H sr e => ⟨env, s, sr, e⟩, G.rt, G.er, G.ns⟩
    · have hnil : xs.drop i = [] := List.drop_of_length_le (by omega)
      rw [hnil, forL] at e3
      exact .inl ⟨hstop (by omega), G.nx _ s2 σ2 H2 (SR.unlock ⟨ad2, Hc2, x3⟩ (x.fl.trans n1.sub) hpin) e3⟩
end
end L2.DL

set_option Elab.async false
set_option linter.all false
set_option maxRecDepth 100000
set_option maxHeartbeats 2000000
/-! D layer 14: statements that change a list of one's own. -/
namespace L2.DL
open PySem PySem.Spec PyProof.Rows
variable [TabL]

/-! ### one slot's list takes other items -/
theorem ER.relst {K : PySem.W.Frag} {ad : Nat → Addr} {da : Option Addr} {Hc H : Hp} {σ : St} {env : En} {s : Dr} {i : Nat} {xs xs' : List D} {vs' : List V} {lk : Bool} (e : ER K ad da Hc H σ env s) (hx : env[i]? = some (.lst lk xs)) (hd : DvAll K Hc vs' xs') :
    ER K ad da Hc (upd H (ad i) (.lst vs')) σ (env.set i (.lst lk xs')) s := by
  have hi : i < env.length := (List.getElem?_eq_some_iff.mp hx).1
  obtain ⟨vs, h1, h2, h3, h4⟩ := e.slot i _ hx
  have old : ∀ j y, (env.set i (.lst lk xs'))[j]? = some y → j ≠ i → env[j]? = some y := fun j y hj hne => by rwa [List.getElem?_set_ne (Ne.symm hne)] at hj
  have new : ∀ y, (env.set i (.lst lk xs'))[i]? = some y → y = .lst lk xs' := fun y hj => by rw [List.getElem?_set_self hi] at hj; exact (Option.some.inj hj).symm
  have back : ∀ j y, (env.set i (.lst lk xs'))[j]? = some y → ∃ z, env[j]? = some z ∧ (own y = true → own z = true) ∧ (y = .drw → z = .drw) := fun j y hj => by
    by_cases hji : j = i
    · subst hji
      rw [new y hj]
      exact ⟨_, hx, fun _ => rfl, fun z => nomatch z⟩
    · exact ⟨y, old j y hj hji, id, id⟩
  refine ⟨fun b o h => ?_, by rw [List.length_set]; exact e.len, fun j y hj => ?_, fun j k y z hj hk oy oz ha => ?_, fun j hj => ?_, fun a ha => ?_, fun j y hj ho => ?_, tbs_lst e.tabs h2, e.noT⟩
  · rw [upd_ne (fun z => by subst z; rw [h4] at h; cases h)]
    exact e.sub _ _ h
  · by_cases hji : j = i
    · subst hji
      rw [new y hj]
      exact ⟨vs', h1, upd_same, hd, h4⟩
    · have h := e.slot j y (old j y hj hji)
      cases y with
      | lst lk2 ys =>
        obtain ⟨ws, q1, q2, q3, q4⟩ := h
        refine ⟨ws, q1, ?_, q3, q4⟩
        rw [upd_ne (fun z => hji (e.apart j i _ _ (old j _ hj hji) hx rfl rfl z))]
        exact q2
      | no => trivial
      | val d => exact h
      | drw => exact h
      | scr ns => exact h
      | dct kvs =>
        obtain ⟨φ, q1, q2, q3⟩ := h
        refine ⟨φ, q1, ?_, q3⟩
        rw [upd_ne (fun z => hji (e.apart j i _ _ (old j _ hj hji) hx rfl rfl z))]
        exact q2
  · obtain ⟨y', hy', o1, _⟩ := back j y hj
    obtain ⟨z', hz', o2, _⟩ := back k z hk
    exact e.apart j k y' z' hy' hz' (o1 oy) (o2 oz) ha
  · obtain ⟨y', hy', _, d⟩ := back j _ hj
    have := d rfl
    subst this
    exact e.drs j hy'
  · obtain ⟨⟨b, q1, q2, q3⟩, q4⟩ := e.drA a ha
    refine ⟨⟨b, ?_, q2, q3⟩, q4⟩
    rw [upd_ne (fun z => e.lstNe i _ hx rfl (by rw [ha, z]))]
    exact q1
  · obtain ⟨y', hy', o1, _⟩ := back j y hj
    exact e.lstNe j y' hy' (o1 ho)
theorem SRx.relst {K : PySem.W.Frag} {en : Ent} {Lk : Lks} {ad : Nat → Addr} {Hc H : Hp} {σ : St} {env : En} {s : Dr} {i : Nat} {xs xs' : List D} {vs' : List V} (x : SRx K en Lk ad Hc env s σ H) (hx : env[i]? = some (.lst false xs)) (hd : DvAll K Hc vs' xs') :
    SRx K en Lk ad Hc (env.set i (.lst false xs')) s σ (upd H (ad i) (.lst vs')) := by
  have hi : i < env.length := (List.getElem?_eq_some_iff.mp hx).1
  obtain ⟨ws, _, hw, _, _⟩ := x.er.slot i _ hx
  refine ⟨x.er.relst hx hd, x.nx.write (.inl (x.own0 i _ hx rfl)) hw, fun j y hj ho => ?_, fun p hp => ?_, x.fl⟩
  · by_cases hji : j = i
    · subst hji; exact x.own0 j _ hx rfl
    · rw [List.getElem?_set_ne (Ne.symm hji)] at hj
      exact x.own0 j y hj ho
  · obtain ⟨q1, q2, q3⟩ := x.pins p hp
    have hne : p.i ≠ i := fun z => by rw [z, hx] at q2; cases q2
    refine ⟨q1, by rw [List.getElem?_set_ne (Ne.symm hne)]; exact q2, ?_⟩
    rw [upd_ne (fun z => hne (x.er.apart p.i i _ _ q2 hx rfl rfl (by rw [q1, z])))]
    exact q3

/-- what a change makes of the items -/
def fApp (d : D) (xs : List D) : Option (List D) := if fitB (xs.length + 1) then some (xs ++ [d]) else none
def fIns (i d : D) (xs : List D) : Option (List D) := match i with
  | .int k => if decide (0 ≤ k) && decide (k < 2 ^ 63) && fitB (xs.length + 1) then some (xs.take k.toNat ++ [d] ++ xs.drop k.toNat) else none
  | _ => none
def fSet (i d : D) (xs : List D) : Option (List D) := match i with
  | .int k => (ixN xs.length k).map fun j => xs.set j d
  | _ => none
/-- with the items of an open list -/
def onLst (i : Nat) (env : En) (f : List D → R (D × Dr)) : R (D × Dr) := match env[i]? with
  | some (.lst false xs) => f xs
  | _ => .stuck
theorem onLst_or (i : Nat) (env : En) (f : List D → R (D × Dr)) : (∃ xs, env[i]? = some (.lst false xs) ∧ onLst i env f = f xs) ∨ onLst i env f = .stuck := by
  unfold onLst
  split
  · rename_i xs hx; exact .inl ⟨xs, hx, rfl⟩
  · exact .inr rfl
def sMeth1 (f : D → List D → Option (List D)) (i : Nat) (fe : Ev D) : Sf := fun k _ _ env s => onLst i env fun xs => (fe env s).bind fun p => (R.ofO (f p.1 xs)).bind fun ys => k (env.set i (.lst false ys)) p.2
def sMeth2 (f : D → D → List D → Option (List D)) (i : Nat) (fa fb : Ev D) : Sf := fun k _ _ env s => onLst i env fun xs => (fa env s).bind fun p => (fb env p.2).bind fun q => (R.ofO (f p.1 q.1 xs)).bind fun ys => k (env.set i (.lst false ys)) q.2
/-- x[a] = e: e is read first -/
def sSetIx (i : Nat) (fa fe : Ev D) : Sf := fun k _ _ env s => onLst i env fun xs => (fe env s).bind fun p => (fa env p.2).bind fun q => (R.ofO (fSet q.1 p.1 xs)).bind fun ys => k (env.set i (.lst false ys)) q.2

section
variable {X : Cx} {E : XK} {C : Addr} {e a b c o : Expr} {es : List Expr} {pos apos cpos p0 : Pos} {st : Stmt} {rest : List Stmt} {i : Nat} {x : Str}
/-- the premises of a method's call in a statement -/
structure MethOk (X : Cx) (a : Expr) (es : List Expr) (o : Expr) (name : Str) (apos cpos : Pos) : Prop where
  hbase : attributeBase o name X.env (eval o X.env) = eval o X.env
  hfew : ((backTo cpos (starEach (a :: es) X.env)).all (fun x => !x.1) && (backToKw cpos (keywordEach [] X.env)).all (fun x => x.1.isSome)
      && decide ((a :: es).length + ([] : List Keyword).length + (if ([] : List Keyword).isEmpty then 0 else 1) < 30)) = true
  hline : (apos.endLine == cpos.line) = true
  hs : starEach (a :: es) X.env = (false, eval a X.env) :: starEach es X.env
  hplain : (backTo cpos (starEach es X.env)).any (·.1) = false
theorem ds_meth1 {f : DL.D → List DL.D → Option (List DL.D)} {fe : Ev DL.D} {name : Str} {id : String} {r : V → List V → Hp → VK → Prop} (slot : Slot "list" name id) (hty : typeOf (.builtin id) = pure (.type "method_descriptor")) (hm : MtR X id r)
    (hr : ∀ (Hc H : Hp) (l : Addr) (vs : List V) (y : V) (xs ys : List DL.D) (d : DL.D) (Q : VK), H l = some (.lst vs) → DvAll X.K Hc vs xs → Sub Hc H → Dv X.K Hc y d → f d xs = some ys → (∀ vs', DvAll X.K Hc vs' ys → Q .non (upd H l (.lst vs'))) → r (.ref l) [y] H Q)
    (hN : X.N[i]? = some x) (hv : Vis X.env.scope x) (hd : (x == ("__debug__" : Str)) = false) (hcd : (x == ("__classdict__" : Str)) = false) (he : DE X E C a fe) (ok : MethOk X a [] (.Name x p0) name apos cpos)
    (hsw : swapsWith (.Call (.Attribute (.Name x p0) name apos) [a] [] cpos) none pos.line X.env = pure false) : DS X E C (.Expr (.Call (.Attribute (.Name x p0) name apos) [a] [] cpos) pos) (sMeth1 f i fe) := by
  obtain ⟨te, pe, re⟩ := he
  refine ⟨_, ps_expr (pe_bm F.plainAttrs_list slot hty hm (pe_var hN hv hd hcd) (pa_cons pe pa_nil ok.hs) ok.hbase ok.hfew ok.hline ok.hs ok.hplain) hsw, fun en Lk k kb kc rr D σ H env s sr e G => ?_⟩
  obtain ⟨ad, Hc, x0⟩ := sr
  rcases onLst_or i env (fun xs => (fe env s).bind fun p => (R.ofO (f p.1 xs)).bind fun ys => k (env.set i (.lst false ys)) p.2) with ⟨xs, hx, e2⟩ | e2
  · have e' := e2.symm.trans e
    obtain ⟨ws, q1, q2, q3, q4⟩ := x0.er.slot i _ hx
    refine ⟨_, q1, .inl ⟨rfl, ws, SqL.of q2⟩, ?_⟩
    refine G.ev (t := te) re x0 e' fun d s1 v Hc1 H1 x1 n1 p1 h => ?_
    obtain ⟨ws1, q5, q6, q7, q8⟩ := x1.er.slot i _ hx
    have h' : (R.ofO (f d xs)).bind (fun ys => k (env.set i (.lst false ys)) s1) = rr := h
    cases ho : f d xs with
    | none => rw [ho] at h'; exact (G.ns h'.symm).elim
    | some ys =>
      rw [ho] at h'
      exact hr Hc1 H1 _ ws1 v _ ys d _ q6 q7 x1.er.sub p1 ho fun vs' hd' => G.nx _ s1 σ _ ⟨_, _, x1.relst hx hd'⟩ h'
  · exact (G.ns (e.symm.trans e2)).elim
theorem ds_append {fe : Ev DL.D} (hN : X.N[i]? = some x) (hv : Vis X.env.scope x) (hd : (x == ("__debug__" : Str)) = false) (hcd : (x == ("__classdict__" : Str)) = false) (he : DE X E C a fe) (ok : MethOk X a [] (.Name x p0) "append" apos cpos)
    (hsw : swapsWith (.Call (.Attribute (.Name x p0) "append" apos) [a] [] cpos) none pos.line X.env = pure false) : DS X E C (.Expr (.Call (.Attribute (.Name x p0) "append" apos) [a] [] cpos) pos) (sMeth1 fApp i fe) :=
  ds_meth1 F.slot_list_append F.type_list_append mt_append (fun Hc H l vs y xs ys d Q h1 h2 h3 h4 h5 q => by
    unfold fApp at h5
    split at h5
    · rename_i hf
      cases h5
      have := fitB_le hf
      exact ⟨l, vs, y, rfl, rfl, h1, by rw [h2.length]; omega, q _ (h2.append (.cons h4 .nil))⟩
    · cases h5) hN hv hd hcd he ok hsw
theorem ds_insert {fa fb : Ev DL.D} (hN : X.N[i]? = some x) (hv : Vis X.env.scope x) (hd : (x == ("__debug__" : Str)) = false) (hcd : (x == ("__classdict__" : Str)) = false) (ha : DE X E C a fa) (hb : DE X E C b fb) (ok : MethOk X a [b] (.Name x p0) "insert" apos cpos)
    (hs2 : starEach [b] X.env = (false, eval b X.env) :: starEach [] X.env)
    (hsw : swapsWith (.Call (.Attribute (.Name x p0) "insert" apos) [a, b] [] cpos) none pos.line X.env = pure false) : DS X E C (.Expr (.Call (.Attribute (.Name x p0) "insert" apos) [a, b] [] cpos) pos) (sMeth2 fIns i fa fb) := by
  obtain ⟨ta, pa, ra⟩ := ha
  obtain ⟨tb, pb, rb⟩ := hb
  refine ⟨_, ps_expr (pe_bm F.plainAttrs_list F.slot_list_insert F.type_list_insert mt_insert (pe_var hN hv hd hcd) (pa_cons pa (pa_cons pb pa_nil hs2) ok.hs) ok.hbase ok.hfew ok.hline ok.hs ok.hplain) hsw, fun en Lk k kb kc rr D σ H env s sr e G => ?_⟩
  obtain ⟨ad, Hc, x0⟩ := sr
  rcases onLst_or i env (fun xs => (fa env s).bind fun p => (fb env p.2).bind fun q => (R.ofO (fIns p.1 q.1 xs)).bind fun ys => k (env.set i (.lst false ys)) q.2) with ⟨xs, hx, e2⟩ | e2
  · have e' := e2.symm.trans e
    obtain ⟨ws, q1, q2, q3, q4⟩ := x0.er.slot i _ hx
    refine ⟨_, q1, .inl ⟨rfl, ws, SqL.of q2⟩, ?_⟩
    refine G.ev (t := ta) ra x0 e' fun d s1 v Hc1 H1 x1 n1 p1 h => ?_
    refine G.ev (t := tb) rb x1 h fun d2 s2 v2 Hc2 H2 x2 n2 p2 h2 => ?_
    obtain ⟨ws1, q5, q6, q7, q8⟩ := x2.er.slot i _ hx
    have h' : (R.ofO (fIns d d2 xs)).bind (fun ys => k (env.set i (.lst false ys)) s2) = rr := h2
    cases ho : fIns d d2 xs with
    | none => rw [ho] at h'; exact (G.ns h'.symm).elim
    | some ys =>
      rw [ho] at h'
      unfold fIns at ho
      split at ho
      · rename_i kk
        split at ho
        · rename_i hf
          simp only [Bool.and_eq_true, decide_eq_true_eq] at hf
          cases ho
          cases p1
          have := fitB_le hf.2
          exact ⟨_, ws1, kk, v2, rfl, rfl, q6, by rw [q7.length]; omega, hf.1.1, hf.1.2, G.nx _ s2 σ _ ⟨_, _, x2.relst hx (((q7.take _).append (.cons p2 .nil)).append (q7.drop _))⟩ h'⟩
        · cases ho
      · cases ho
  · exact (G.ns (e.symm.trans e2)).elim
theorem ds_setIx {fa fe : Ev DL.D} {pos' : Pos} (hN : X.N[i]? = some x) (hv : Vis X.env.scope x) (hd : (x == ("__debug__" : Str)) = false) (hcd : (x == ("__classdict__" : Str)) = false) (ha : DE X E C a fa) (he : DE X E C e fe)
    (hasg : ∀ v, assign (.Subscript (.Name x p0) a pos') X.env v = (do
      let ov ← holding [v] (eval (.Name x p0) X.env)
      let iv ← holding [v, ov] (eval a X.env)
      standAt pos'
      holding [v, ov, iv] (setItem ov iv v)
      release [v, ov, iv] []))
    (hs : swapsWithSole [.Subscript (.Name x p0) a pos'] e pos.line X.env = pure false) (hw : swappedStores [.Subscript (.Name x p0) a pos'] e X.env = pure none)
    (h1 : (assignEach [.Subscript (.Name x p0) a pos'] X.env).map (·.2) = [assign (.Subscript (.Name x p0) a pos') X.env]) : DS X E C (.Assign [.Subscript (.Name x p0) a pos'] e pos) (sSetIx i fa fe) := by
  obtain ⟨ta, pa, ra⟩ := ha
  obtain ⟨te, pe, re⟩ := he
  refine ⟨_, ps_asg pe (pg_sub (pe_var hN hv hd hcd) pa set_list hasg) hs hw h1, fun en Lk k kb kc rr D σ H env s sr e G => ?_⟩
  obtain ⟨ad, Hc, x0⟩ := sr
  rcases onLst_or i env (fun xs => (fe env s).bind fun p => (fa env p.2).bind fun q => (R.ofO (fSet q.1 p.1 xs)).bind fun ys => k (env.set i (.lst false ys)) q.2) with ⟨xs, hx, e2⟩ | e2
  · have e' := e2.symm.trans e
    obtain ⟨ws, q1, q2, q3, q4⟩ := x0.er.slot i _ hx
    refine G.ev re x0 e' fun d s1 v Hc1 H1 x1 n1 p1 h => ?_
    refine ⟨_, q1, ?_⟩
    refine G.ev ra x1 h fun d2 s2 v2 Hc2 H2 x2 n2 p2 h2 => ?_
    obtain ⟨ws1, q5, q6, q7, q8⟩ := x2.er.slot i _ hx
    have h' : (R.ofO (fSet d2 d xs)).bind (fun ys => k (env.set i (.lst false ys)) s2) = rr := h2
    cases ho : fSet d2 d xs with
    | none => rw [ho] at h'; exact (G.ns h'.symm).elim
    | some ys =>
      rw [ho] at h'
      unfold fSet at ho
      split at ho
      · rename_i kk
        cases hj : ixN xs.length kk with
        | none => rw [hj] at ho; cases ho
        | some j =>
          rw [hj] at ho
          cases ho
          cases p2
          exact ⟨_, ws1, kk, j, rfl, rfl, q6, by rw [q7.length]; exact hj, G.nx _ s2 σ _ ⟨_, _, x2.relst hx (q7.set j (n2.sub.dv p1))⟩ h'⟩
      · cases ho
  · exact (G.ns (e.symm.trans e2)).elim

/-! ### name op= e, ints -/
def gInts (g : DL.D → DL.D → Option DL.D) : DL.D → DL.D → Option DL.D
  | .int i, .int j => g (.int i) (.int j)
  | _, _ => none
theorem iop_mulW : OpR X (inplaceOp .Mult) (rI CMulW fun i j => .int (i * j)) := opI fun _ _ _ _ _ _ _ hc q => imul_int q hc.ok
theorem iop_fdivW : OpR X (inplaceOp .FloorDiv) (rI CDivW fun i j => .int (i / j)) := opI fun i j _ _ _ _ _ hc q => by
  have h1 : (0 : Int) < j := hc.1
  exact ifloordiv_int (by omega) (by rw [Int.fdiv_eq_ediv_of_nonneg i (by omega)]; exact q) (.inl (PyProof.noPylong_of_log2 hc.2))
theorem iop_xor : OpR X (inplaceOp .BitXor) (rI0 fun i j => .int (Builtin.bitXor i j)) := opI0 fun _ _ _ _ _ _ _ q => ixor_int q
def sAug (g : DL.D → DL.D → Option DL.D) (i : Nat) (fe : Ev DL.D) : Sf := fun k _ _ env s => match env[i]? with
  | some (.val x) => (fe env s).bind fun p => (R.ofO (g x p.1)).bind fun z => (R.ofO (setE i (.val z) env)).bind fun env' => k env' p.2
  | _ => .stuck
theorem ds_aug {op : Operator} {r : R2} {g : DL.D → DL.D → Option DL.D} {fe : Ev DL.D} {pos' : Pos} (ho : PIp X op r) (hr : OpD X.K r g) (hN : X.N.Nodup) (hi : X.N[i]? = some x) (hx : Loc X.env.scope x) (hf : X.fn x = true ∨ X.env.scope.names.lookup x = some .local) (he : DE X E C e fe) :
    DS X E C (.AugAssign (.Name x pos') op e pos) (sAug g i fe) := by
  obtain ⟨te, pe, re⟩ := he
  refine ⟨_, ps_aug hN hi hx pe ho hf, fun en Lk k kb kc rr D σ H env s sr e G => ?_⟩
  obtain ⟨ad, Hc, x0⟩ := sr
  unfold sAug at e
  split at e
  · rename_i d0 hx0
    obtain ⟨v0, q1, q2⟩ := x0.er.slot i _ hx0
    refine ⟨v0, q1, ?_⟩
    refine G.ev re x0 e fun d s1 v Hc1 H1 x1 n1 p1 h => ?_
    have h' : (R.ofO (g d0 d)).bind (fun z => (R.ofO (setE i (.val z) env)).bind fun env' => k env' s1) = rr := h
    cases hz : g d0 d with
    | none => rw [hz] at h'; exact (G.ns h'.symm).elim
    | some z =>
      rw [hz] at h'
      have h2 : (R.ofO (setE i (.val z) env)).bind (fun env' => k env' s1) = rr := h'
      cases hb : setE i (.val z) env with
      | none => rw [hb] at h2; exact (G.ns h2.symm).elim
      | some env' =>
        rw [hb] at h2
        refine hr Hc1 H1 v0 v d0 d z _ x1.er.sub (.inl (n1.sub.dv q2)) (.inl p1) hz fun w Hc' H' al hd => ?_
        have e3 := al.er x1.er
        have x3 := x1.ev al.nx e3
        exact G.nx env' s1 _ H' ⟨_, _, x3.bound (t := .nm i) (d := z) (e3.put hd hb) (by rw [bindT]; exact hb)⟩ h2
  · exact (G.ns e.symm).elim
theorem d_ints {r : R2} {g : DL.D → DL.D → Option DL.D} {K : PySem.W.Frag} {f : Int → Int → DL.D → Prop} (h : ∀ (Hc H : Hp) (i j : Int) (z : DL.D) (Q : VK), g (.int i) (.int j) = some z → (∀ v, Dv K Hc v z → Q v H) → r (.int i) (.int j) H Q) : OpD K r (gInts g) := by
  intro Hc H x y d e z Q s hx hy hz q
  unfold gInts at hz
  split at hz
  · rw [hx.int, hy.int]
    exact h Hc H _ _ z Q hz fun v hv => q v Hc H (.refl s) hv
  · cases hz
theorem da_add {K : PySem.W.Frag} : OpD K (rI0 fun i j => .int (i + j)) (gInts gAdd) := d_ints (f := fun _ _ _ => True) fun Hc H i j z Q hz q => by
  cases hz; exact ⟨i, j, rfl, rfl, q _ (.int _)⟩
theorem da_sub {K : PySem.W.Frag} : OpD K (rI0 fun i j => .int (i - j)) (gInts gSub) := d_ints (f := fun _ _ _ => True) fun Hc H i j z Q hz q => by
  cases hz; exact ⟨i, j, rfl, rfl, q _ (.int _)⟩
theorem da_xor {K : PySem.W.Frag} : OpD K (rI0 fun i j => .int (Builtin.bitXor i j)) (gInts gXor) := d_ints (f := fun _ _ _ => True) fun Hc H i j z Q hz q => by
  cases hz; exact ⟨i, j, rfl, rfl, q _ (.int _)⟩
theorem da_mul {K : PySem.W.Frag} : OpD K (rI CMulW fun i j => .int (i * j)) (gInts gMul) := d_ints (f := fun _ _ _ => True) fun Hc H i j z Q hz q => by
  unfold gMul at hz
  dsimp only at hz
  split at hz
  · rename_i hf
    cases hz
    refine ⟨i, j, rfl, rfl, ?_, q _ (.int _)⟩
    have := Nat.le_of_ble_eq_true hf
    show _ < _
    omega
  · cases hz
theorem da_div {K : PySem.W.Frag} : OpD K (rI CDivW fun i j => .int (i / j)) (gInts gDiv) := d_ints (f := fun _ _ _ => True) fun Hc H i j z Q hz q => by
  unfold gDiv at hz
  dsimp only at hz
  split at hz
  · rename_i hf
    cases hz
    unfold divB at hf
    simp only [Bool.and_eq_true, decide_eq_true_eq] at hf
    have := Nat.le_of_ble_eq_true hf.2
    exact ⟨i, j, rfl, rfl, ⟨hf.1, by omega⟩, q _ (.int _)⟩
  · cases hz
theorem da_mod {K : PySem.W.Frag} : OpD K (rI (fun _ j => 0 < j) fun i j => .int (i % j)) (gInts gMod) := d_ints (f := fun _ _ _ => True) fun Hc H i j z Q hz q => by
  unfold gMod at hz
  dsimp only at hz
  split at hz
  · rename_i hf
    cases hz
    exact ⟨i, j, rfl, rfl, of_decide_eq_true hf, q _ (.int _)⟩
  · cases hz

/-! ### a, b = x, y: stored from the right -/
def sPar (i j : Nat) (fa fb : Ev DL.D) : Sf := fun k _ _ env s => (fa env s).bind fun p => (fb env p.2).bind fun q => (R.ofO (setE i (.val p.1) env)).bind fun env1 => (R.ofO (setE j (.val q.1) env1)).bind fun env2 => k env2 q.2
theorem ds_par {j : Nat} {y : Str} {px py pt : Pos} {kt k2 pt2} {fa fb : Ev DL.D} (hc : X.calm = true) (hN : X.N.Nodup) (hi : X.N[i]? = some x) (hj : X.N[j]? = some y) (hij : i ≠ j)
    (hx : X.env.scope.names.lookup x = some .local) (hy : X.env.scope.names.lookup y = some .local) (ha : DE X E C a fa) (hb : DE X E C b fb)
    (hs1 : starEach [a, b] X.env = (false, eval a X.env) :: starEach [b] X.env) (hs2 : starEach [b] X.env = (false, eval b X.env) :: starEach [] X.env)
    (hw : swappedStores [.Tuple [.Name x px, .Name y py] kt pt] (.Tuple [a, b] k2 pt2) X.env = pure (some [x, y]))
    (hs : swapsWithSole [.Tuple [.Name x px, .Name y py] kt pt] (.Tuple [a, b] k2 pt2) pos.line X.env = pure false) :
    DS X E C (.Assign [.Tuple [.Name x px, .Name y py] kt pt] (.Tuple [a, b] k2 pt2) pos) (sPar i j fa fb) := by
  obtain ⟨ta, pa, ra⟩ := ha
  obtain ⟨tb, pb, rb⟩ := hb
  refine ⟨_, ps_par hc hN hi hj hij hx hy (pa_cons pa (pa_cons pb pa_nil hs2) hs1) hw hs, fun en Lk k kb kc rr D σ H env s sr e G => ?_⟩
  obtain ⟨ad, Hc, x0⟩ := sr
  refine G.ev (t := ta) ra x0 e fun d s1 v Hc1 H1 x1 n1 p1 h => ?_
  refine G.ev (t := tb) rb x1 h fun d2 s2 v2 Hc2 H2 x2 n2 p2 h2 => ?_
  have h' : (R.ofO (setE i (.val d) env)).bind (fun env1 => (R.ofO (setE j (.val d2) env1)).bind fun env2 => k env2 s2) = rr := h2
  cases hb : setE i (.val d) env with
  | none => rw [hb] at h'; exact (G.ns h'.symm).elim
  | some env1 =>
    rw [hb] at h'
    have h3 : (R.ofO (setE j (.val d2) env1)).bind (fun env2 => k env2 s2) = rr := h'
    cases hb2 : setE j (.val d2) env1 with
    | none => rw [hb2] at h3; exact (G.ns h3.symm).elim
    | some env2 =>
      rw [hb2] at h3
      have y1 := x2.bound (t := .nm i) (d := d) (x2.er.put (n2.sub.dv p1) hb) (by rw [bindT]; exact hb)
      have y2 := y1.bound (t := .nm j) (d := d2) (y1.er.put p2 hb2) (by rw [bindT]; exact hb2)
      exact ⟨v, v2, rfl, G.nx env2 s2 _ H2 ⟨_, _, y2⟩ h3⟩
end
end L2.DL

set_option Elab.async false
set_option linter.all false
set_option maxRecDepth 100000
set_option maxHeartbeats 2000000
/-! D layer 14b: the draws' own cells, the script. -/
namespace L2.DL
open PySem PySem.Spec PyProof.Rows
variable [TabL]

def Dr.get (s : Dr) : Int → Option D
  | 0 => some (.list (s.scr.map .int))
  | 1 => some (.int s.pos)
  | 2 => some (.int s.cur)
  | 3 => some (.int s.seed)
  | _ => none
def Dr.put (s : Dr) (k : Int) (n : Int) : Option Dr := if decide (0 ≤ n) then match k with
  | 1 => some { s with pos := n }
  | 2 => some { s with cur := n }
  | 3 => some { s with seed := n }
  | _ => none else none
def onDrw {α : Type} (i : Nat) (env : En) (f : R α) : R α := match env[i]? with
  | some .drw => f
  | _ => .stuck
theorem onDrw_or {α : Type} (i : Nat) (env : En) (f : R α) : (env[i]? = some .drw ∧ onDrw i env f = f) ∨ onDrw i env f = .stuck := by
  unfold onDrw
  split
  · rename_i hx; exact .inl ⟨hx, rfl⟩
  · exact .inr rfl
def evDr (i : Nat) (k : Int) : Ev D := fun env s => onDrw i env ((R.ofO (s.get k)).bind fun d => .ok (d, s))
def sDrSet (i : Nat) (k : Int) (fe : Ev D) : Sf := fun kk _ _ env s => onDrw i env ((fe env s).bind fun p => match p.1 with
  | .int n => (R.ofO (p.2.put k n)).bind fun s' => kk env s'
  | _ => .stuck)
def onScr {α : Type} (i : Nat) (env : En) (f : List Int → R α) : R α := match env[i]? with
  | some (.scr ns) => f ns
  | _ => .stuck
def evScL (i : Nat) : Ev D := fun env s => onScr i env fun ns => .ok (.list (ns.map .int), s)
def evScI (i : Nat) : Ev (List D) := fun env s => onScr i env fun ns => if fitB ns.length then .ok (ns.map .int, s) else .stuck

section
variable {X : Cx} {E : XK} {C : Addr} {e a b c o : Expr} {es : List Expr} {pos apos cpos p0 : Pos} {st : Stmt} {rest : List Stmt} {i : Nat} {x : Str}
theorem de_dr {k : Int} {j : Nat} {p1 : Pos} (hN : X.N[i]? = some x) (hv : Vis X.env.scope x) (hd : (x == ("__debug__" : Str)) = false) (hcd : (x == ("__classdict__" : Str)) = false) : DE X E C (.Subscript (.Name x p0) (.Constant (.int k) j p1) pos) (evDr i k) := by
  refine ⟨_, pe_ix ix_seq (pe_var hN hv hd hcd) pe_int (fun _ _ => rfl), fun ad da Hc H σ env s Q er q => ?_⟩
  rcases onDrw_or i env ((R.ofO (s.get k)).bind fun d => R.ok (d, s)) with ⟨hx, e1⟩ | e1
  · have q' : PostX X E C ad da Hc H σ env (fun Hc' _ v d => Dv X.K Hc' v d) Q ((R.ofO (s.get k)).bind fun d => .ok (d, s)) := by
      have q2 := q
      unfold evDr at q2
      rw [e1] at q2
      exact q2
    have h1 := er.slot i _ hx
    have h2 := er.drs i hx
    obtain ⟨⟨bb, h3, h4, _⟩, _⟩ := er.drA _ h2
    cases hg : s.get k with
    | none => rw [hg] at q'; exact q'.elim
    | some d =>
      rw [hg] at q'
      refine ⟨_, h1, ?_⟩
      have fin : ∀ v, L2.atI [V.ref bb, .int s.pos, .int s.cur, .int s.seed] k = some v → Dv X.K Hc v d → rIx X.K (.ref (ad i)) (.int k) H Q := fun v hv hd => .inl ⟨ad i, _, k, v, rfl, rfl, SqL.of h3, hv, q' v Hc H Nx.refl er hd⟩
      unfold Dr.get at hg
      split at hg
      · cases hg; exact fin _ rfl (.lst h4 (.ints _))
      · cases hg; exact fin _ rfl (.int _)
      · cases hg; exact fin _ rfl (.int _)
      · cases hg; exact fin _ rfl (.int _)
      · cases hg
  · exfalso
    have q2 := q
    unfold evDr at q2
    rw [e1] at q2
    exact q2
theorem de_listScr {p : Pos} {y : Str} (hN : X.N[i]? = some x) (hv : Vis X.env.scope x) (hd : (x == ("__debug__" : Str)) = false) (hcd : (x == ("__classdict__" : Str)) = false) (hg : Gl X "list") (hm : X.mg "list" = none) :
    DE X E C (.Call (.Name "list" p) [.Name x p0] [] pos) (evScL i) := by
  refine ⟨_, pe_callTy call_list_of hg hm (by kernel_rfl) (pa_cons (pe_var hN hv hd hcd) pa_nil rfl) (by decide +kernel) (by decide +kernel) rfl rfl, fun ad da Hc H σ env s Q er q => ?_⟩
  unfold evScL onScr at q
  split at q
  · rename_i ns hx
    obtain ⟨a, h1, h2⟩ := er.slot i _ hx
    exact ⟨_, h1, a, _, rfl, .inl (er.sub.sqL h2), fun l hl => q _ _ _ (Al.new er.sub hl).nx (er.new hl) (.lst upd_same (.ints _))⟩
  · exact q.elim
theorem di_scr {tg : Expr} (hN : X.N[i]? = some x) (hv : Vis X.env.scope x) (hd : (x == ("__debug__" : Str)) = false) (hcd : (x == ("__classdict__" : Str)) = false) : DI X E C tg (.Name x p0) [] (evScI i) := by
  refine ⟨_, pi_src (pe_var hN hv hd hcd), fun ad da Hc H σ env s Q er q => ?_⟩
  unfold evScI onScr at q
  split at q
  · rename_i ns hx
    dsimp only at q
    split at q
    · rename_i hf
      obtain ⟨a, h1, h2⟩ := er.slot i _ hx
      refine ⟨_, h1, .inl ⟨_, _, rfl, er.sub.sqL h2, fun hl => ?_⟩⟩
      refine q _ Hc Hc H Nx.refl er er.sub (fun b o h => .inl h) (by rw [List.length_map]; exact fitB_le hf) fun Hc' H' j s1 s2 s3 => ?_
      have hS : Src.has X.K H' (ns.map V.int) (.lst a) := s2.sqL (s1.sqL h2)
      refine ⟨fun y hy => ?_, fun hi => ⟨_, hS, by rw [List.length_map] at *; omega⟩⟩
      rw [List.getElem?_map] at hy
      cases hn : ns[j]? with
      | none => rw [hn] at hy; cases hy
      | some m =>
        rw [hn] at hy
        cases hy
        have hv : (ns.map V.int)[j]? = some (.int m) := by rw [List.getElem?_map, hn]; rfl
        refine ⟨⟨_, _, hS, hv⟩, fun v' H'' hyl => ?_⟩
        obtain ⟨rfl, hall⟩ := hyl
        have := hall _ hS
        rw [hv] at this
        cases this
        exact ⟨Hc', Al.refl s2, .int m⟩
    · exact q.elim
  · exact q.elim
/-- the draws' cells hold other values -/
theorem ER.redraw {K : PySem.W.Frag} {ad : Nat → Addr} {da : Option Addr} {Hc H : Hp} {σ : St} {env : En} {s s' : Dr} {a b : Addr} (e : ER K ad da Hc H σ env s) (hd : da = some a) (hb : Hc b = some (.lst (s'.scr.map V.int))) (h0 : 0 ≤ s'.pos) (h1 : 0 ≤ s'.cur) (h2 : 0 ≤ s'.seed) :
    ER K ad da Hc (upd H a (.lst [.ref b, .int s'.pos, .int s'.cur, .int s'.seed])) σ env s' := by
  obtain ⟨⟨b0, hw, _⟩, hn⟩ := e.drA a hd
  refine ⟨fun c o h => ?_, e.len, fun i x hx => ?_, e.apart, e.drs, fun a' ha => ?_, e.lstNe, tbs_lst e.tabs hw, e.noT⟩
  · rw [upd_ne (fun z => by subst z; rw [hn] at h; cases h)]
    exact e.sub _ _ h
  · have h := e.slot i x hx
    cases x with
    | lst lk xs =>
      obtain ⟨vs, q1, q2, q3, q4⟩ := h
      refine ⟨vs, q1, ?_, q3, q4⟩
      rw [upd_ne (fun z => e.lstNe i _ hx rfl (by rw [hd, z]))]
      exact q2
    | no => trivial
    | val d => exact h
    | drw => exact h
    | scr ns => exact h
    | dct kvs =>
      obtain ⟨φ, q1, q2, q3⟩ := h
      refine ⟨φ, q1, ?_, q3⟩
      rw [upd_ne (fun z => e.lstNe i _ hx rfl (by rw [hd, z]))]
      exact q2
  · rw [hd] at ha
    cases ha
    exact ⟨⟨b, upd_same, hb, h0, h1, h2⟩, hn⟩
theorem ds_drSet {k : Int} {j : Nat} {p1 pos' : Pos} {fe : Ev DL.D} (hN : X.N[i]? = some x) (hv : Vis X.env.scope x) (hd : (x == ("__debug__" : Str)) = false) (hcd : (x == ("__classdict__" : Str)) = false) (he : DE X E C e fe)
    (hs : swapsWithSole [.Subscript (.Name x p0) (.Constant (.int k) j p1) pos'] e pos.line X.env = pure false) (hw : swappedStores [.Subscript (.Name x p0) (.Constant (.int k) j p1) pos'] e X.env = pure none) :
    DS X E C (.Assign [.Subscript (.Name x p0) (.Constant (.int k) j p1) pos'] e pos) (sDrSet i k fe) := by
  obtain ⟨te, pe, re⟩ := he
  refine ⟨_, ps_asg pe (pg_sub (pe_var hN hv hd hcd) pe_int set_list (fun _ => rfl)) hs hw rfl, fun en Lk kk kb kc rr D σ H env s sr e G => ?_⟩
  obtain ⟨ad, Hc, x0⟩ := sr
  rcases onDrw_or i env ((fe env s).bind fun p => match p.1 with
    | .int n => (R.ofO (p.2.put k n)).bind fun s' => kk env s'
    | _ => .stuck) with ⟨hx, e2⟩ | e2
  · have e' := e2.symm.trans e
    refine G.ev re x0 e' fun d s1 v Hc1 H1 x1 n1 p1 h => ?_
    have h1 := x1.er.slot i _ hx
    have h2 := x1.er.drs i hx
    obtain ⟨⟨bb, h3, h4, z0, z1, z2⟩, h5⟩ := x1.er.drA _ h2
    dsimp only at h
    split at h
    · rename_i n
      cases p1
      cases hp : s1.put k n with
      | none => rw [hp] at h; exact (G.ns h.symm).elim
      | some s' =>
        rw [hp] at h
        have fin : ∀ jj : Nat, ixN 4 k = some jj → [V.ref bb, .int s1.pos, .int s1.cur, .int s1.seed].set jj (.int n) = [V.ref bb, .int s'.pos, .int s'.cur, .int s'.seed] → s'.scr = s1.scr → 0 ≤ s'.pos → 0 ≤ s'.cur → 0 ≤ s'.seed → L2.gSub (tVar i) (tC (.int k)) rSetL (.int n) σ H1 D.nx := fun jj q1 q2 q3 q4 q5 q6 => by
          refine ⟨_, h1, ad i, _, k, jj, rfl, rfl, h3, q1, ?_⟩
          rw [q2]
          refine G.nx env s' σ _ ⟨ad, Hc1, x1.er.redraw h2 (by rw [q3]; exact h4) q4 q5 q6, x1.nx.write (.inr h2.symm) h3, x1.own0, fun p hp => ?_, x1.fl⟩ h
          obtain ⟨r1, r2, r3⟩ := x1.pins p hp
          refine ⟨r1, r2, ?_⟩
          rw [upd_ne (fun z => x1.er.lstNe p.i _ r2 rfl (by rw [h2, r1, z]))]
          exact r3
        unfold Dr.put at hp
        split at hp
        · rename_i hn
          have hn' := of_decide_eq_true hn
          split at hp
          · cases hp; exact fin 1 rfl rfl rfl hn' z1 z2
          · cases hp; exact fin 2 rfl rfl rfl z0 hn' z2
          · cases hp; exact fin 3 rfl rfl rfl z0 z1 hn'
          · cases hp
        · cases hp
    · exact (G.ns h.symm).elim
  · exact (G.ns (e.symm.trans e2)).elim

/-! ### powers -/
def gPow : DL.D → DL.D → Option DL.D
  | .int i, .int j => if decide (0 ≤ j) && decide (j ≤ 1000) && decide (i.natAbs < 2 ^ 64) then some (.int (i ^ j.toNat)) else none
  | _, _ => none
theorem d_pow {K : PySem.W.Frag} : OpD K (rI CPow fun i j => .int (i ^ j.toNat)) gPow := by
  intro Hc H x y d e z Q s hx hy hz q
  unfold gPow at hz
  split at hz
  · split at hz
    · rename_i hf
      cases hz
      simp only [Bool.and_eq_true, decide_eq_true_eq] at hf
      exact ⟨_, _, hx.int, hy.int, ⟨hf.1.1, by omega, hf.2⟩, q _ _ _ (.refl s) (.int _)⟩
    · cases hz
  · cases hz
end
end L2.DL

set_option Elab.async false
set_option linter.all false
set_option maxRecDepth 100000
set_option maxHeartbeats 2000000
/-! D layer 14c: raise, told. -/
namespace L2.DL
open PySem PySem.Spec PyProof.Rows
variable [TabL]

/-! ### raise -/
def spI (K : PySem.W.Frag) (C : Addr) : Sp := fun vs H Q _ => ∃ (a : Addr) (x : Str), vs = [.ref a, .str x] ∧ OexC K C ∧ H a = some (exo a C none) ∧ ∀ dx, H dx = none → dx ≠ a → Q .non (upd (upd H dx (exd dx [(("code" : Str), .str x)])) a (exo a C (some dx)))
def sRaise (c : Str) : Sf := fun _ _ _ _ _ => .err c
/-- what raising asks of the class at C -/
structure RaiseOk (X : Cx) (E : XK) (C : Addr) : Prop where
  T : OexC X.K C
  mg : X.mg "SecretError" = some (.ref C)
  tk : Takes X (fun cls d _ H => E cls d H)
  ini : ∃ (fI : Addr) (k : Nat) (fd : FuncData) (ps : List Str), PySem.W.findIn X.K (.ref C) "__init__" = some (some (.ref fI)) ∧ PySem.W.typeIn X.K (.ref fI) = some (.type "function") ∧ FnOk X.prog X.w X.K X.mg X.base (L2.CX X.prog X.w) k fI fd ps (spI X.K C) ∧ Room (k + 1) X.A ∧ L2.Binds X.K fd ps []
theorem pass_F {X : Cx} : Passes (L2.CX X.prog X.w) X (fun _ _ _ => False) := fun _ _ _ _ _ _ _ h => by
  obtain ⟨_, _, _, _, _, _, _, _, _, _, _, _, h⟩ := h
  exact h.elim
theorem ds_raise {X : Cx} {E : XK} {C : Addr} {c : Str} {j : Nat} {p p1 pos pos' : Pos} (hc : X.calm = true) (RO : RaiseOk X E C) (hg : Gl X "SecretError") : DS X E C (.Raise (some (.Call (.Name "SecretError" p) [.Constant (.str c) j p1] [] pos)) none pos') (sRaise c) := by
  obtain ⟨fI, k, fd, ps, i1, i2, F1, hr, hb⟩ := RO.ini
  refine ⟨_, ps_raise hc RO.tk (pmk_oex RO.T i1 i2 F1 hr hb .nil pass_F hg RO.mg (pa_cons pe_str pa_nil rfl) (by decide +kernel) rfl rfl), fun en Lk kk kb kc r D σ H env s sr e G => ?_⟩
  obtain ⟨ad, Hc, x⟩ := sr
  have e' : DL.R.err c = r := e
  refine ⟨by show 1 ≤ 1000; omega, fun a ha => ?_⟩
  refine ⟨a, c, rfl, RO.T, upd_same, fun dx hd hne => ⟨rfl, dx, [(("code" : Str), V.str c)], upd_same, ?_, ?_, ?_⟩⟩
  · rw [upd_ne hne, upd_same]
  · rw [upd_ne hne] at hd; exact hd
  · have hdn : H dx = none := by rw [upd_ne hne] at hd; exact hd
    have eH : upd (del (upd (upd (upd H a (exo a C none)) dx (exd dx [(("code" : Str), V.str c)])) a (exo a C (some dx))) a) dx (.xd [(("code" : Str), V.str c)]) = upd H dx (.xd [(("code" : Str), V.str c)]) := by
      funext b
      by_cases hb : b = dx
      · subst hb; rw [upd_same, upd_same]
      · rw [upd_ne hb, upd_ne hb]
        by_cases hba : b = a
        · subst hba; rw [del_same, ha]
        · rw [del_ne hba, upd_ne hba, upd_ne hb, upd_ne hba]
    rw [eH]
    exact G.er c e'.symm dx _ (x.nx.trans (Nx.lay hdn)).weak upd_same

/-! ### told -/
def hide1 : Sl → Sl
  | .drw => .no
  | x => x
def hideE (env : En) : En := env.map hide1
def evTold (fe : Ev D) : Ev D := fun env s => match fe (hideE env) s with
  | .ok (d, _) => .ok (d, s)
  | .err c => .ok (.str c, s)
  | .stuck => .stuck
/-- try: return a() / except x as e: return e.code -/
def TTold2 (C : Addr) : (XK → Hp → VK → Prop) → Hp → VK → Prop := fun tl H Q =>
  tl (fun cls d H' => cls = .ref C ∧ ∃ (dd : Addr) (fs : List (Str × V)) (v : V), d = some dd ∧ H' dd = some (.xd fs) ∧ fs.lookup ("code" : Str) = some v ∧ Q v H') H Q
theorem suite_ps {Z : Cx} {a C : Addr} {oe : Obj} {cls : Value} {d : Option Addr} {pn : List (Addr × Obj)} {n : Str} {i : Nat} {p5 p6 p7 : Pos} (xf : XfC Z.K C) (hno : PySem.W.findIn Z.K (.ref C) "code" = some none) (hz : Zc cls d oe) (hf : ∃ vs, oe.data = .fields vs) (hi : Z.N[i]? = some n) (hv : Vis Z.env.scope n)
    (hdn : (n == ("__debug__" : Str)) = false) (hcn : (n == ("__classdict__" : Str)) = false) :
    PSs (Z.suite a ((a, oe) :: pn)) [.Return (some (.Attribute (.Name n p5) "code" p6)) p7] (fun D σ H => σ.length = Z.N.length → tRet (tXf a cls d C "code" (tVar i)) D σ H) :=
  ⟨fun pins s σ H D I h => (pss_one (ps_ret (pe_xf (X := Z) (C := C) xf hno hz hf (pe_var (X := Z.suite a ((a, oe) :: pn)) (i := i) hi hv hdn hcn) rfl))).run pins s σ H D I (h I.len)⟩
theorem told_gives2 {X : Cx} {Ng : List Str} {x a e n q : Str} {sg : Scope} {g C : Addr} {cdg : Value} {i : Nat} {p1 p2 p3 p4 p5 p6 p7 p8 p9 : Pos} (hge : sg.names.lookup e = some .globalImplicit) (hme : X.mg e = some (.ref C)) (hde : (e == ("__debug__" : Str)) = false) (h0 : ∀ f : Addr, (L2.start Ng [V.ref f])[0]? = some (some (V.ref f)))
    (nd : Ng.Nodup) (hi : Ng[i]? = some n) (hln : sg.names.lookup n = some .local) (hdn : (n == ("__debug__" : Str)) = false) (hcn : (n == ("__classdict__" : Str)) = false) (xm : PySem.W.exmOne X.K (.ref C) (.ref C) = some true) (xf : XfC X.K C) (hno : PySem.W.findIn X.K (.ref C) "code" = some none):
    LamX.GivesTo X Ng x sg g cdg [.Try [.Return (some (.Call (.Name a p1) [] [] p2)) p3] [.ExceptHandler (some (.Name e p4)) (some n) [.Return (some (.Attribute (.Name n p5) "code" p6)) p7] p8] [] [] p9] a q (TTold2 C) := by
  intro f c' s H Q tl act hc h
  have hgl : Gl (cxOf C8.CX0 X.prog X.w X.K X.mg X.base Ng x sg g cdg X.A X.stack s H C8.E0).nox e := hge
  refine ⟨_, pss_one (ps_try_as (X := (cxOf C8.CX0 X.prog X.w X.K X.mg X.base Ng x sg g cdg X.A X.stack s H C8.E0).nox) (c := .ref C) (i := i)
      (tb := fun W D σ H => ∃ Ech : XK, (∀ cls d σ' H', Ech cls d H' → W cls d σ' H') ∧ σ = L2.start Ng [V.ref f] ∧ H c' = some (LamX.CodeO c' q) ∧ tl Ech H D.rt)
      rfl rfl nd hi hln ⟨hgl, hde, .inl hme⟩ LamX.takes0 (fun W pn xe tk _ => ?_) (ts := fun a cls d => fun D σ H => σ.length = Ng.length → tRet (tXf a cls d C "code" (tVar i)) D σ H) (fun a oe cls d pn hz hf => suite_ps (Z := (cxOf C8.CX0 X.prog X.w X.K X.mg X.base Ng x sg g cdg X.A X.stack s H C8.E0).nox) xf hno hz hf hi (.inl hln) hdn hcn)), ?_⟩
  · refine ⟨fun pins s' σ H' D I h' => ?_⟩
    obtain ⟨Ech, hW, h1, h2, h3⟩ := h'
    have hp := act W pn xe Ech p1 p2 tk hW
    have hq := pss_one (ps_ret (pos := p3) hp)
    exact hq.run pins s' σ H' D I ⟨by rw [h1]; exact h0 f, h2, h3⟩
  · refine ⟨fun cls d H' => cls = .ref C ∧ ∃ (dd : Addr) (fs : List (Str × V)) (v : V), d = some dd ∧ H' dd = some (.xd fs) ∧ fs.lookup ("code" : Str) = some v ∧ Q v H', fun cls d σ' H' hx => ?_, rfl, hc, h⟩
    obtain ⟨rfl, dd, fs, v, rfl, e1, e2, e3⟩ := hx
    refine ⟨true, xm, fun _ a ha => fun hlen => ?_, (fun z => nomatch z)⟩
    have hil : i < Ng.length := (List.getElem?_eq_some_iff.mp hi).1
    rw [List.length_set] at hlen
    exact ⟨.ref a, List.getElem?_set_self (by rw [hlen]; exact hil), rfl, rfl, dd, fs, v, rfl, e1, e2, e3⟩
/-- what telling asks -/
structure ToldOk (X : Cx) (C : Addr) (nm : Str) (k : Nat) : Prop where
  mem : ((He.cT X.K (nm, none)).2, lamQ nm) ∈ TabL.T
  tab : ∃ c, LamX.TabB X.base X.mg c (He.cT X.K (nm, none)).2 ∧ X.env.code = .ref c
  qual : X.env.qual = nm ++ ".<locals>."
  uniq : ∀ p ∈ TabL.T, p.1 = (He.cT X.K (nm, none)).2 → p.2 = lamQ nm
  room : Room (k + 2) X.A
  told : ∃ (g : Addr) (pg : Arguments) (bg : List Stmt) (sg : Scope) (dV kV doc pm cdv ct oc : Value) (an od : Option Addr) (osl : Array (Option Value)) (Ng : List Str) (a : Str), X.mg "_law_told" = some (.ref g) ∧ PySem.W.keepIn X.K (.ref g) = true ∧
    X.K.lookup g = some ⟨oc, od, .func (PySem.W.fnOf "_law_told" "_law_told" pg bg sg dV kV doc pm an cdv ct), osl⟩ ∧ PySem.W.codeIn X.K cdv "_law_told" = true ∧ L2.Binds X.K (PySem.W.fnOf "_law_told" "_law_told" pg bg sg dV kV doc pm an cdv ct) [a] [] ∧ FnScope Ng [a] sg ∧ Ng[0]? = some a ∧ Vis sg a ∧
    (a == ("__debug__" : Str)) = false ∧ (a == ("__classdict__" : Str)) = false ∧ ∀ q, LamX.GivesTo X Ng "_law_told" sg g cdv bg a q (TTold2 C)
theorem hide_old {env : En} {i : Nat} {x : Sl} (h : (hideE env)[i]? = some x) : ∃ y, env[i]? = some y ∧ x = hide1 y := by
  unfold hideE at h
  rw [List.getElem?_map] at h
  cases hy : env[i]? with
  | none => rw [hy] at h; cases h
  | some y => rw [hy] at h; cases h; exact ⟨y, rfl, rfl⟩
theorem ER.hide {K : PySem.W.Frag} {ad : Nat → Addr} {da : Option Addr} {Hc H : Hp} {σ : St} {env : En} {s : Dr} (e : ER K ad da Hc H σ env s) : ER K ad none Hc H σ (hideE env) s := by
  refine ⟨e.sub, by unfold hideE; rw [List.length_map]; exact e.len, fun i x hx => ?_, fun i j x y hi hj ox oy ha => ?_, fun i hi => ?_, (fun a z => nomatch z), (fun i x hx ho z => nomatch z), e.tabs, e.noT⟩
  · obtain ⟨y, hy, rfl⟩ := hide_old hx
    have h := e.slot i y hy
    cases y with
    | drw => trivial
    | no => trivial
    | val _ => exact h
    | lst _ _ => exact h
    | scr _ => exact h
    | dct _ => exact h
  · obtain ⟨x', hx', rfl⟩ := hide_old hi
    obtain ⟨y', hy', rfl⟩ := hide_old hj
    exact e.apart i j x' y' hx' hy' (by cases x' <;> first | exact ox | cases ox) (by cases y' <;> first | exact oy | cases oy) ha
  · obtain ⟨y, hy, z⟩ := hide_old hi
    cases y <;> cases z
theorem de_told {X : Cx} {E : XK} {C : Addr} {nm : Str} {k : Nat} {fe : Ev D} {params : Arguments} {body : Expr} {scope : Scope} {p lpos pos : Pos} (O : ToldOk X C nm k) (hg : Gl X "_law_told") (L : LamX.LamS X.env.scope scope) (hdef : defaultsOf params X.env = ([], []))
    (hbind : ∀ (q : Str) (cl : List (Str × Addr)) (pm cv ctv : Value), bindArgs (PySem.W.kla_fn "<lambda>" q params body scope cl pm cv ctv) ⟨[], []⟩ = pure [])
    (hbody : ∀ (A : Around) (outer : List Env) (s : Shared) (H : Hp) (E : XK) (f c' : Addr), Room k (A.deeper (LamX.lamEnv X scope s.heap.objs.size f c')) → DE (LamX.lamCx X A outer s H E scope f c') E C body fe) :
    DE X E C (.Call (.Name "_law_told" p) [.Lambda params body scope lpos] [] pos) (evTold fe) := by
  obtain ⟨c, TB, hcode⟩ := O.tab
  obtain ⟨g, pg, bg, sg, dV, kV, doc, pm, cdv, ct, oc, an, od, osl, Ng, a, t1, t2, t3, t4, t5, t6, t7, t8, t9, t10, t11⟩ := O.told
  have hq : X.env.qual ++ "<lambda>" = lamQ nm := by rw [O.qual]; rfl
  refine ⟨_, LamX.pe_lamcall (T := TabL.T) (P := (He.cT X.K (nm, none)).2) (TT := TTold2 C) (t := fun E => DL.can X.K E C (PV X.K) fe) hg t1 t2 t3 t4 t5 t6 t7 t8 (t11 _) TB hcode (by rw [hq]; exact O.mem) (fun q hq' e => by rw [hq]; exact O.uniq q hq' e) O.room L hdef hbind (fun A outer s H E f c' hr => (hbody A outer s H E f c' hr).can) (by decide +kernel) t9 t10, fun ad da Hc H σ env s Q er q => ?_⟩
  · have q' : PostX X E C ad da Hc H σ env (fun Hc _ v d => Dv X.K Hc v d) Q (match fe (hideE env) s with
      | .ok (d, _) => .ok (d, s)
      | .err c => .ok (.str c, s)
      | .stuck => .stuck) := q
    refine ⟨er.tabs, fun H1 eN T1 => ?_⟩
    -- the state at the lambda's call
    have s1 : Sub Hc H1 := fun b o z => eN b o (er.sub _ _ z) (er.noT _ _ z)
    have eh := er.hide
    have e1 : ER X.K ad none Hc H1 σ (hideE env) s := by
      refine ⟨s1, eh.len, fun i x hx => ?_, eh.apart, eh.drs, (fun a z => nomatch z), eh.lstNe, T1, er.noT⟩
      have h := eh.slot i x hx
      cases x with
      | no => trivial
      | val _ => exact h
      | lst _ _ =>
        obtain ⟨vs, q1, q2, q3, q4⟩ := h
        exact ⟨vs, q1, eN _ _ q2 nT_lst, q3, q4⟩
      | drw => exact h
      | scr _ => exact h
      | dct _ =>
        obtain ⟨φ, q1, q2, q3⟩ := h
        exact ⟨φ, q1, eN _ _ q2 nT_ext, q3⟩
    have back : ∀ {Hc2 H2 : Hp}, Nx none Hc H1 Hc2 H2 → Sub Hc2 H2 → Nx da Hc H Hc2 H2 ∧ ER X.K ad da Hc2 H2 σ env s := fun {Hc2 H2} n2 sc2 => by
      have nx : Nx da Hc H Hc2 H2 := ⟨n2.sub, (fun b o z n o' e t => n2.fresh b o z n o' (eN _ _ e t) t), (fun b o z _ t => n2.keep _ _ (eN _ _ z t) (fun z => nomatch z) t), (fun b o z t => n2.there b o (eN _ _ z t) t), (fun _ => n2.tab T1), n2.noT⟩
      exact ⟨nx, er.grow sc2 nx.sub nx.fresh (fun b o z t _ => n2.keep _ _ (eN _ _ z t) (fun z => nomatch z) t) nx.tab nx.noT⟩
    cases hf : fe (hideE env) s with
    | stuck => rw [hf] at q'; exact q'.elim
    | ok p =>
      rw [hf] at q'
      refine ⟨ad, none, Hc, hideE env, s, e1, ?_⟩
      rw [hf]
      intro v Hc2 H2 n2 e2 hd
      obtain ⟨m1, m2⟩ := back n2 e2.sub
      exact q' v Hc2 H2 m1 m2 hd
    | err c =>
      rw [hf] at q'
      refine ⟨ad, none, Hc, hideE env, s, e1, ?_⟩
      rw [hf]
      intro dx H2 n2 hx
      have sc : Sub Hc H2 := fun b o z => n2.keep _ _ (s1 _ _ z) (fun z => nomatch z) (er.noT _ _ z)
      obtain ⟨m1, m2⟩ := back n2 sc
      exact ⟨rfl, dx, _, .str c, rfl, hx, rfl, q' (.str c) Hc H2 m1 m2 (.str c)⟩
end L2.DL

set_option Elab.async false
set_option linter.all false
set_option maxRecDepth 100000
set_option maxHeartbeats 2000000
/-! D layer 14d: index, range with a step. -/
namespace L2.DL
open PySem PySem.Spec PyProof.Rows
variable [TabL]

def gIndex (ds : List D) (d : D) : Option D := if SeqAt.shaped (.list ds) && SeqAt.shaped d then (ds.findIdx? fun z => PyData.eqv z d).map fun j => .int (j : Int) else none
def evIdx (i : Nat) (fe : Ev D) : Ev D := fun env s => (evPk i env s).bind fun p => match p.1 with
  | .list ds => (fe env p.2).bind fun q => (R.ofO (gIndex ds q.1)).bind fun z => .ok (z, q.2)
  | _ => .stuck
/-- the premises of a method's call -/
structure MethE (X : Cx) (a : Expr) (o : Expr) (name : Str) (apos cpos : Pos) : Prop where
  hbase : attributeBase o name X.env (eval o X.env) = eval o X.env
  hline : (apos.endLine == cpos.line) = true
  hs : starEach [a] X.env = (false, eval a X.env) :: starEach [] X.env
section
variable {X : Cx} {E : XK} {C : Addr} {e a b c o : Expr} {es : List Expr} {pos apos cpos p0 : Pos} {i : Nat} {x : Str}
theorem de_index {fe : Ev D} (hu : X.A.units + 65 < cLine) (hN : X.N[i]? = some x) (hv : Vis X.env.scope x) (hd : (x == ("__debug__" : Str)) = false) (hcd : (x == ("__classdict__" : Str)) = false) (he : DE X E C a fe) (ok : MethE X a (.Name x p0) "index" apos cpos) :
    DE X E C (.Call (.Attribute (.Name x p0) "index" apos) [a] [] cpos) (evIdx i fe) := by
  obtain ⟨te, pe, re⟩ := he
  obtain ⟨tk, pk, rk⟩ := dk_var (E := E) (C := C) (pos := p0) hN hv hd hcd
  refine ⟨_, pe_bm F.plainAttrs_list F.slot_list_index F.type_list_index (mt_indexD hu) pk (pa_cons pe pa_nil ok.hs) ok.hbase (by rw [ok.hs]; rfl) ok.hline ok.hs rfl, fun ad da Hc H σ env s Q er q => ?_⟩
  refine rk ad da Hc H σ env s _ er (Post.bind q fun d s1 _ v Hc1 H1 n1 e1 p1 q1 => ?_)
  dsimp only at q1
  split at q1
  case h_2 => exact q1.elim
  rename_i ds _
  obtain ⟨l, ws, rfl, w1, w2⟩ := (p1.pk e1).list e1.sub
  refine ⟨.inl ⟨rfl, ws, SqL.of w1⟩, ?_⟩
  refine re ad da Hc1 H1 σ env s1 _ e1 (Post.bind q1 fun d2 s2 _ v2 Hc2 H2 n2 e2 p2 q2 => ?_)
  cases hg : gIndex ds d2 with
  | none => rw [hg] at q2; exact q2.elim
  | some z =>
    rw [hg] at q2
    unfold gIndex at hg
    split at hg
    · rename_i hs
      rw [Bool.and_eq_true] at hs
      cases hj : ds.findIdx? (fun z => PyData.eqv z d2) with
      | none => rw [hj] at hg; cases hg
      | some j =>
        rw [hj] at hg
        cases hg
        obtain ⟨j1, j2, j3⟩ := List.findIdx?_eq_some_iff_getElem.mp hj
        refine ⟨l, v2, d2, ds, j, ds[j], rfl, rfl, (((PkV.sub (show PkV X.K ad env Hc1 (V.ref l) (.list ds) from p1) n2.sub).pk e2).dv e2.sub).dp, (e2.sub.dv p2).dp, hs.1, hs.2, List.getElem?_eq_getElem j1, j2, fun m z' hm hz => ?_, q2 (.int (j : Int)) Hc2 H2 Nx.refl e2 (.int _)⟩
        have hml : m < ds.length := Nat.lt_trans hm j1
        have := j3 m hm
        rw [List.getElem?_eq_getElem hml] at hz
        rw [← Option.some.inj hz]
        simpa using this
    · cases hg
/-! ### range(a, b, c) -/
def evRng3 (f : Ev (List D)) : Ev (List D) := fun env s => (f env s).bind fun p => match p.1 with
  | [.int i, .int j, .int c] => if decide (c ≠ 0) && decide (c.natAbs < 1073741824) && Builtin.Range.small i j c && decide (0 ≤ Builtin.Range.rangeSize i j c) && fitB (Builtin.Range.rangeSize i j c).toNat then .ok (rngD i (Builtin.Range.rangeSize i j c).toNat c, p.2) else .stuck
  | _ => .stuck
theorem itc_ok {K : PySem.W.Frag} {W Hc : Hp} (a c : Int) (n : Nat) : ItD K (Itc a c n) W Hc (rngD a n c) := fun Hc' H' i s1 s2 s3 => by
  refine ⟨fun x hx => ?_, fun hi => ?_⟩
  · rw [rngD_get] at hx
    split at hx
    · rename_i hlt
      cases hx
      refine ⟨hlt, fun v H'' hy => ?_⟩
      obtain ⟨rfl, rfl⟩ := hy
      exact ⟨Hc', Al.refl s2, .int _⟩
    · cases hx
  · rw [rngD_len] at hi
    exact Nat.le_of_eq hi
theorem di_rng3 {tg : Expr} {f : Ev (List D)} {p : Pos} (hg : Gl X "range") (hm : X.mg "range" = none) (ha : DAE X E C [a, b, c] f) (hs : starEach [a, b, c] X.env = (false, eval a X.env) :: starEach [b, c] X.env) (hpl : (backTo pos (starEach [b, c] X.env)).any (·.1) = false) :
    DI X E C tg (.Call (.Name "range" p) [a, b, c] [] pos) [] (evRng3 f) := by
  obtain ⟨t, pa, r⟩ := ha
  refine ⟨_, pi_range3 hg hm pa hs hpl, fun ad da Hc H σ env s Q er q => r ad da Hc H σ env s _ er (IPost.bind q fun ds s1 _ xs Hc1 H1 n1 e1 p1 q1 => ?_)⟩
  split at q1
  · rename_i i j c hd
    have hd' : ds = [.int i, .int j, .int c] := hd
    subst hd'
    split at q1
    · rename_i hb
      simp only [Bool.and_eq_true, decide_eq_true_eq] at hb
      obtain ⟨⟨⟨⟨b1, b2⟩, b3⟩, b5⟩, b4⟩ := hb
      cases p1 with
      | cons r1 r2 =>
        cases r2 with
        | cons r2 r3 =>
          cases r3 with
          | cons r3 r4 =>
            cases r1; cases r2; cases r3; cases r4
            exact ⟨i, j, c, _, rfl, ⟨b1, b2, b3, (Int.toNat_of_nonneg b5).symm⟩, q1 _ Hc1 Hc1 H1 Nx.refl e1 e1.sub (fun b o h => .inl h) (by rw [rngD_len]; exact fitB_le b4) (itc_ok _ _ _)⟩
    · exact q1.elim
  · exact q1.elim
end
end L2.DL

set_option Elab.async false
set_option linter.all false
set_option maxRecDepth 100000
set_option maxHeartbeats 2000000
/-! D layer 14e: a tuple turned round. -/
namespace L2.DL
open PySem PySem.Spec PyProof.Rows
section
variable {prog : Program} {w : World} {A : Around} {E : Value → Shared → Prop} {s : Shared}
theorem adjust_rev (n : Nat) : Builtin.Slice.sliceAdjust none none (-1) (n : Int) = ((n : Int) - 1, -1) := by
  unfold Builtin.Slice.sliceAdjust
  simp
theorem places_rev (n : Nat) : Builtin.Slice.slicePlaces ((n : Int) - 1) (-1) (-1) = n := by
  unfold Builtin.Slice.slicePlaces
  simp
  omega
theorem sliceApplied_rev {sl : Addr} {vl vu vs : Value} {n : Nat} {Q : Int × Int × Nat → Shared → Prop} (hs : s.heap.IsSliceOf sl vl vu vs) (pl : IsPart vl none) (pu : IsPart vu none) (ps : IsPart vs (some (-1)))
    (h : Q ((n : Int) - 1, -1, n) s) : wpAny (model prog w) A (Builtin.Slice.sliceApplied (.ref sl) (pure (n : Int))) Q E s := by
  obtain ⟨os, hos, hcs, hds⟩ := id hs
  unfold Builtin.Slice.sliceApplied Builtin.Slice.sliceFields
  refine wpAny_bind (wpAny_bind (wpAny_field hos hds (x := vl) rfl (wpAny_bind (wpAny_field hos hds (x := vu) rfl (wpAny_bind (wpAny_field hos hds (x := vs) rfl (wpAny_pure ?_)))))))
  refine wpAny_bind (HT.slicePart_ ps ?_)
  show wpAny _ _ (if ((-1 : Int) == 0) = true then _ else _) _ _ s
  rw [if_neg (by decide)]
  refine wpAny_bind (HT.slicePart_ pl (wpAny_bind (HT.slicePart_ pu (wpAny_bind (wpAny_pure ?_)))))
  show wpAny _ _ (match Builtin.Slice.sliceAdjust none none (-1) (n : Int) with | (lo, hi) => pure (lo, (-1 : Int), Builtin.Slice.slicePlaces lo hi (-1))) _ _ s
  rw [adjust_rev n]
  show wpAny _ _ (pure ((n : Int) - 1, (-1 : Int), Builtin.Slice.slicePlaces ((n : Int) - 1) (-1) (-1))) _ _ s
  rw [places_rev]
  exact wpAny_pure h
theorem pick_rev (xs : Array Value) : ((List.range xs.size).filterMap fun (m : Nat) => xs[(((xs.size : Nat) : Int) - 1 + (m : Int) * (-1)).toNat]?).toArray = xs.toList.reverse.toArray := by
  have e : (fun (m : Nat) => xs[(((xs.size : Nat) : Int) - 1 + (m : Int) * (-1)).toNat]?) = (fun k => xs[k]?) ∘ fun m => xs.size - 1 - m := by
    funext m
    have : (((xs.size : Nat) : Int) - 1 + (m : Int) * (-1)).toNat = xs.size - 1 - m := by omega
    rw [this]
    rfl
  rw [e, ← List.filterMap_map, PySem.W.krv_range, List.filterMap_reverse, PySem.W.krv_all]
theorem getItem_tuple_rev {t sl : Addr} {items : Array Value} {vl vu vs : Value} {Q : Value → Shared → Prop} (ht : IsTup s.heap t items) (hs : s.heap.IsSliceOf sl vl vu vs) (pl : IsPart vl none) (pu : IsPart vu none) (ps : IsPart vs (some (-1)))
    (h : Q (.ref s.heap.objs.size) { s with heap := s.heap.push { cls := .type "tuple", data := .seq items.toList.reverse.toArray } })
    (hsz : items.size ≤ sizeLine) : wpAny (model prog w) A (getItem (.ref t) (.ref sl)) Q E s := by
  have htake : sizeOk (.seq items.toList.reverse.toArray) := by
    show items.toList.reverse.toArray.size ≤ sizeLine
    rw [List.size_toArray, List.length_reverse, Array.length_toList]
    exact hsz
  obtain ⟨os, hos, hcs, hds⟩ := id hs
  have hTs : s.TypeIs (.ref sl) "slice" := ⟨os, hos, hcs⟩
  unfold getItem
  try with_reducible refine wpAny_holding ?_
  first | refine wpAny_bind (wpAny_pure ?_) | skip
  refine wpAny_bind (wpAny_sequenceKey ht.typeIs (by decide) ?_)
  refine wpAny_bind (wpAny_callSpecial?_slot (name := Str.ofString "__getitem__") ht.typeIs PyProof.Rows.slot_tuple_getitem
    (wpAny_call_entry PyProof.Rows.slot_tuple_getitem ht.typeIs entry_tuple_getitem ?_ (args_tuple_getitem _ _)))
  show wpAny _ _ (Builtin.Tuple.tupleItemsOf (.ref t) >>= _) _ _ s
  refine wpAny_bind (PyProof.Rows.tupleItemsOf_ ht ?_)
  refine wpAny_bind (wpAny_typeOf hTs ?_)
  rw [if_pos (by decide)]
  refine wpAny_bind (sliceApplied_rev hs pl pu ps ?_)
  have hno : ¬ (((((items.size : Nat) : Int) - 1) == 0 && (-1 : Int) == 1 && items.size == items.size) = true) := by
    intro q
    rw [Bool.and_eq_true, Bool.and_eq_true] at q
    exact absurd q.1.2 (by decide)
  show wpAny _ _ (if ((((items.size : Nat) : Int) - 1) == 0 && (-1 : Int) == 1 && items.size == items.size) = true then _ else _) _ _ s
  rw [if_neg hno, pick_rev]
  first
    | exact wpAny_bind (m := Builtin.Tuple.tupleExact _) (wpAny_newObj_type (wpAny_pure ⟨_, rfl, wpAny_pure h⟩) htake)
    | exact wpAny_bind (m := Builtin.Tuple.tupleExact _) (wpAny_newObj_type (wpAny_bind (wpAny_pure (wpAny_pure ⟨_, rfl, wpAny_pure h⟩))) htake)
    | exact wpAny_bind (wpAny_bind (m := Builtin.Tuple.tupleExact _) (wpAny_newObj_type (wpAny_pure (wpAny_pure ⟨_, rfl, wpAny_pure h⟩)) htake))
    | exact wpAny_bind (wpAny_bind (m := Builtin.Tuple.tupleExact _) (wpAny_newObj_type (wpAny_pure ⟨_, rfl, wpAny_pure h⟩) htake))
end
end L2.DL
namespace L2.DL
open PySem PySem.Spec PyProof.Rows
variable [TabL]
/-! ### e[::-1] of a tuple -/
def tRevT (K : PySem.W.Frag) (te : TE) : TE := fun σ H Q => te σ H fun x H1 => ∃ a xs, x = .ref a ∧ SqT K H1 a xs ∧ ∀ p, H1 p = none → Q (.ref p) (upd H1 p (.tup xs.reverse))
theorem pe_revT {X : Cx} {e : Expr} {te : TE} {k : Nat} {p1 p2 p3 pos : Pos} (he : PE X e te) : PE X (.Subscript e (.Slice none none (some (.UnaryOp .USub (.Constant (.int 1) k p1) p2)) p3) pos) (tRevT X.K te) := by
  refine ⟨fun pins s σ H Q I h => ?_⟩
  refine Subscript_ (thn (he.run pins s σ H _ I h) fun v s1 ⟨x, H1, I1, r1, q1⟩ => ?_)
  obtain ⟨a, xs, ex, hx, q⟩ := q1
  subst ex
  cases r1
  have hst : PO X (some (.UnaryOp .USub (.Constant (.int 1) k p1) p2)) (tPart (tUn (rU fun i => .int (-i)) (tC (.int 1)))) := po_some (pe_un un_neg pe_int)
  refine wpAny_Slice (thn (po_none.run pins s1 σ H1 (fun o H2 => o = none ∧ H2 = H1) I1 ⟨rfl, rfl⟩) fun vl s2 ⟨l, H2, I2, pl, el, e2⟩ => ?_)
  subst el e2
  refine thn (po_none.run pins s2 σ H2 (fun o H3 => o = none ∧ H3 = H2) I2 ⟨rfl, rfl⟩) fun vu s3 ⟨u, H3, I3, pu, eu, e3⟩ => ?_
  subst eu e3
  refine thn (hst.run pins s3 σ H3 (fun o H4 => o = some (-1) ∧ H4 = H3) I3 ⟨1, rfl, -1, rfl, rfl, rfl⟩) fun vs s4 ⟨o, H4, I4, ps, eo, e4⟩ => ?_
  subst eo e4
  have I5 : Inv X pins σ H4 { s4 with heap := s4.heap.push { cls := .type "slice", data := .fields #[vl, vu, vs] } } := I4.kept (t' := s4.toks) fun b ob q => Heap.get?_push_of_some _ q
  obtain ⟨its, r, ht, hz⟩ := I5.tuple hx
  have hlen := r.length
  show wpAny (model X.prog X.w) X.A (subscriptTail e (.Slice none none (some (.UnaryOp .USub (.Constant (.int 1) k p1) p2)) p3) (.ref a) (.ref s4.heap.objs.size)) (EP X pins σ Q) X.xe { s4 with heap := s4.heap.push { cls := .type "slice", data := .fields #[vl, vu, vs] } }
  refine tail_any (ops := [.ref a, .ref s4.heap.objs.size]) ht.typeIs (PyProof.Rows.slot_tuple_getitem.lookup) ?_ (by with_unfolding_all rfl)
  refine getItem_tuple_rev ht (Heap.IsSliceOf.new _ vl vu vs) pl pu ps ?_ (by rw [List.size_toArray]; omega)
  refine ⟨.ref _, _, I5.laid (t' := s4.toks) (o := .tup xs.reverse) (fun b ob q => Heap.get?_push_of_some _ q) (Nat.le_refl _) ?_, rfl, q _ (I5.hok.fresh (Nat.le_refl _))⟩
  exact ⟨by rw [List.length_reverse]; exact hz, _, r.reverse, IsTup.new _ _⟩
/-- e[::-1] -/
def gRev : D → Option D
  | .list xs => some (.list xs.reverse)
  | .tuple xs => some (.tuple xs.reverse)
  | _ => none
theorem pe_rev2 {X : Cx} {e : Expr} {te : TE} {k : Nat} {p1 p2 p3 pos : Pos} (he : PE X e te) : PE X (.Subscript e (.Slice none none (some (.UnaryOp .USub (.Constant (.int 1) k p1) p2)) p3) pos)
    (fun σ H Q => te σ H fun x H1 => (∃ a xs, x = .ref a ∧ SqL X.K H1 a xs ∧ ∀ p, H1 p = none → Q (.ref p) (upd H1 p (.lst xs.reverse))) ∨ ∃ a xs, x = .ref a ∧ SqT X.K H1 a xs ∧ ∀ p, H1 p = none → Q (.ref p) (upd H1 p (.tup xs.reverse))) := by
  refine ⟨fun pins s σ H Q I h => ?_⟩
  refine Subscript_ (thn (he.run pins s σ H _ I h) fun v s1 ⟨x, H1, I1, r1, q1⟩ => ?_)
  have hst : PO X (some (.UnaryOp .USub (.Constant (.int 1) k p1) p2)) (tPart (tUn (rU fun i => .int (-i)) (tC (.int 1)))) := po_some (pe_un un_neg pe_int)
  refine wpAny_Slice (thn (po_none.run pins s1 σ H1 (fun o H2 => o = none ∧ H2 = H1) I1 ⟨rfl, rfl⟩) fun vl s2 ⟨l, H2, I2, pl, el, e2⟩ => ?_)
  subst el e2
  refine thn (po_none.run pins s2 σ H2 (fun o H3 => o = none ∧ H3 = H2) I2 ⟨rfl, rfl⟩) fun vu s3 ⟨u, H3, I3, pu, eu, e3⟩ => ?_
  subst eu e3
  refine thn (hst.run pins s3 σ H3 (fun o H4 => o = some (-1) ∧ H4 = H3) I3 ⟨1, rfl, -1, rfl, rfl, rfl⟩) fun vs s4 ⟨o, H4, I4, ps, eo, e4⟩ => ?_
  subst eo e4
  have I5 : Inv X pins σ H4 { s4 with heap := s4.heap.push { cls := .type "slice", data := .fields #[vl, vu, vs] } } := I4.kept (t' := s4.toks) fun b ob q => Heap.get?_push_of_some _ q
  rcases q1 with ⟨a, xs, rfl, hx, q⟩ | ⟨a, xs, rfl, hx, q⟩
  · cases r1
    obtain ⟨its, r, ht, hz⟩ := I5.list hx
    have hlen := r.length
    show wpAny (model X.prog X.w) X.A (subscriptTail e (.Slice none none (some (.UnaryOp .USub (.Constant (.int 1) k p1) p2)) p3) (.ref a) (.ref s4.heap.objs.size)) (EP X pins σ Q) X.xe { s4 with heap := s4.heap.push { cls := .type "slice", data := .fields #[vl, vu, vs] } }
    refine tail_any (ops := [.ref a, .ref s4.heap.objs.size]) ht.isList.typeIs (PySem.slot_list_getitem.lookup) ?_ (by with_unfolding_all rfl)
    refine wpAny_getItem_list_slice ht.isList (Heap.IsSliceOf.new _ vl vu vs) pl pu ps (by decide) ?_ (by rw [List.size_toArray]; omega)
    rw [PySem.W.krv_pick]
    refine ⟨.ref _, _, I5.laid (t' := s4.toks) (o := .lst xs.reverse) (fun b ob q => Heap.get?_push_of_some _ q) (Nat.le_refl _) ?_, rfl, q _ (I5.hok.fresh (Nat.le_refl _))⟩
    exact ⟨by rw [List.length_reverse]; exact hz, _, 0, r.reverse, Heap.get?_push_size _ rfl⟩
  · cases r1
    obtain ⟨its, r, ht, hz⟩ := I5.tuple hx
    have hlen := r.length
    show wpAny (model X.prog X.w) X.A (subscriptTail e (.Slice none none (some (.UnaryOp .USub (.Constant (.int 1) k p1) p2)) p3) (.ref a) (.ref s4.heap.objs.size)) (EP X pins σ Q) X.xe { s4 with heap := s4.heap.push { cls := .type "slice", data := .fields #[vl, vu, vs] } }
    refine tail_any (ops := [.ref a, .ref s4.heap.objs.size]) ht.typeIs (PyProof.Rows.slot_tuple_getitem.lookup) ?_ (by with_unfolding_all rfl)
    refine getItem_tuple_rev ht (Heap.IsSliceOf.new _ vl vu vs) pl pu ps ?_ (by rw [List.size_toArray]; omega)
    refine ⟨.ref _, _, I5.laid (t' := s4.toks) (o := .tup xs.reverse) (fun b ob q => Heap.get?_push_of_some _ q) (Nat.le_refl _) ?_, rfl, q _ (I5.hok.fresh (Nat.le_refl _))⟩
    exact ⟨by rw [List.length_reverse]; exact hz, _, r.reverse, IsTup.new _ _⟩
theorem de_rev {X : Cx} {E : XK} {C : Addr} {e : Expr} {k : Nat} {p1 p2 p3 pos : Pos} {f : Ev D} (h : DK X E C e f) : DE X E C (.Subscript e (.Slice none none (some (.UnaryOp .USub (.Constant (.int 1) k p1) p2)) p3) pos) (ev1 gRev f) := by
  obtain ⟨t, p, r⟩ := h
  refine ⟨_, pe_rev2 p, fun ad da Hc H σ env s Q er q => r ad da Hc H σ env s _ er (Post.bind q fun d s1 _ v Hc1 H1 n1 e1 pp q1 => ?_)⟩
  have pk := PkV.pk pp e1
  cases d with
  | list ds =>
    obtain ⟨a, ws, rfl, w1, w2⟩ := pk.list e1.sub
    exact .inl ⟨a, ws, rfl, SqL.of w1, fun p hp => q1 _ _ _ (Al.new e1.sub hp).nx (e1.new hp) (.lst upd_same ((Sub.upd (e1.sub.none hp)).dvAll w2).reverse)⟩
  | tuple ds =>
    obtain ⟨a, ws, rfl, w1, w2⟩ := pk.tuple e1.sub
    exact .inr ⟨a, ws, rfl, w1, fun p hp => q1 _ _ _ (Al.new e1.sub hp).nx (e1.new hp) (.tup (SqT.of upd_same) ((Sub.upd (e1.sub.none hp)).dvAll w2).reverse)⟩
  | none => exact q1.elim
  | bool _ => exact q1.elim
  | int _ => exact q1.elim
  | str _ => exact q1.elim
  | dict _ => exact q1.elim
end L2.DL

set_option Elab.async false
set_option linter.all false
set_option maxRecDepth 100000
set_option maxHeartbeats 2000000
/-! D layer 14f: more that changes a list of one's own. -/
namespace L2.DL
open PySem PySem.Spec PyProof.Rows
variable [TabL]
/-- with a list's items behind its own -/
def fExt (d : D) (xs : List D) : Option (List D) := match d with
  | .list ys => if fitB (xs.length + ys.length) then some (xs ++ ys) else none
  | _ => none
/-- the item at a place, and the others -/
def popD (ys : List D) : D → Option (D × List D)
  | .int n => (ixN ys.length n).bind fun q => if decide (-(2 ^ 63) ≤ n) && decide (n < 2 ^ 63) then (ys[q]?).map fun d => (d, ys.eraseIdx q) else none
  | _ => none
section
variable {X : Cx} {E : XK} {C : Addr} {e a b c o : Expr} {es : List Expr} {pos apos cpos p0 apos2 cpos2 p2 : Pos} {st : Stmt} {rest : List Stmt} {i j : Nat} {x y : Str}
theorem ds_extend {fe : Ev DL.D} (hN : X.N[i]? = some x) (hv : Vis X.env.scope x) (hd : (x == ("__debug__" : Str)) = false) (hcd : (x == ("__classdict__" : Str)) = false) (he : DE X E C a fe) (ok : MethOk X a [] (.Name x p0) "extend" apos cpos)
    (hsw : swapsWith (.Call (.Attribute (.Name x p0) "extend" apos) [a] [] cpos) none pos.line X.env = pure false) : DS X E C (.Expr (.Call (.Attribute (.Name x p0) "extend" apos) [a] [] cpos) pos) (sMeth1 fExt i fe) :=
  ds_meth1 F.slot_list_extend F.type_list_extend mt_extend (fun Hc H l vs y xs ys d Q h1 h2 h3 h4 h5 q => by
    unfold fExt at h5
    split at h5
    · rename_i zs
      split at h5
      · rename_i hf
        cases h5
        have := fitB_le hf
        obtain ⟨p, ws, rfl, e1, e2⟩ := (show Pk X.K Hc H y (.list zs) from .inl h4).list h3
        exact ⟨l, p, vs, ws, rfl, rfl, h1, e1, by rw [h2.length, e2.length]; omega, q _ (h2.append e2)⟩
      · cases h5
    · cases h5) hN hv hd hcd he ok hsw
/-- xs.append(ys.pop(e)) -/
def sAppPop (i j : Nat) (fe : Ev D) : Sf := fun k _ _ env s => onLst i env fun xs => onLst j env fun ys => if i = j then .stuck else (fe env s).bind fun p => (R.ofO (popD ys p.1)).bind fun q => (R.ofO (fApp q.1 xs)).bind fun zs => k ((env.set j (.lst false q.2)).set i (.lst false zs)) p.2
theorem ds_appPop {fe : Ev DL.D} (hN : X.N[i]? = some x) (hv : Vis X.env.scope x) (hd : (x == ("__debug__" : Str)) = false) (hcd : (x == ("__classdict__" : Str)) = false)
    (hN2 : X.N[j]? = some y) (hv2 : Vis X.env.scope y) (hd2 : (y == ("__debug__" : Str)) = false) (hcd2 : (y == ("__classdict__" : Str)) = false) (he : DE X E C a fe)
    (ok : MethOk X (.Call (.Attribute (.Name y p2) "pop" apos2) [a] [] cpos2) [] (.Name x p0) "append" apos cpos) (ok2 : MethOk X a [] (.Name y p2) "pop" apos2 cpos2)
    (hsw : swapsWith (.Call (.Attribute (.Name x p0) "append" apos) [.Call (.Attribute (.Name y p2) "pop" apos2) [a] [] cpos2] [] cpos) none pos.line X.env = pure false) :
    DS X E C (.Expr (.Call (.Attribute (.Name x p0) "append" apos) [.Call (.Attribute (.Name y p2) "pop" apos2) [a] [] cpos2] [] cpos) pos) (sAppPop i j fe) := by
  obtain ⟨te, pe, re⟩ := he
  have pp := pe_bm F.plainAttrs_list F.slot_list_pop F.type_list_pop mt_popAt (pe_var (pos := p2) hN2 hv2 hd2 hcd2) (pa_cons pe pa_nil ok2.hs) ok2.hbase ok2.hfew ok2.hline ok2.hs ok2.hplain
  refine ⟨_, ps_expr (pe_bm F.plainAttrs_list F.slot_list_append F.type_list_append mt_append (pe_var hN hv hd hcd) (pa_cons pp pa_nil ok.hs) ok.hbase ok.hfew ok.hline ok.hs ok.hplain) hsw, fun en Lk k kb kc rr D σ H env s sr e G => ?_⟩
  obtain ⟨ad, Hc, x0⟩ := sr
  unfold sAppPop at e
  rcases onLst_or i env (fun xs => onLst j env fun ys => if i = j then .stuck else (fe env s).bind fun p => (R.ofO (popD ys p.1)).bind fun q => (R.ofO (fApp q.1 xs)).bind fun zs => k ((env.set j (.lst false q.2)).set i (.lst false zs)) p.2) with ⟨xs, hx, e2⟩ | e2
  · rcases onLst_or j env (fun ys => if i = j then .stuck else (fe env s).bind fun p => (R.ofO (popD ys p.1)).bind fun q => (R.ofO (fApp q.1 xs)).bind fun zs => k ((env.set j (.lst false q.2)).set i (.lst false zs)) p.2) with ⟨ys, hy, e3⟩ | e3
    · have e' := (e3.symm.trans (e2.symm.trans e))
      have hij : i ≠ j := fun z => by
        rw [if_pos z] at e'
        exact G.ns e'.symm
      rw [if_neg hij] at e'
      obtain ⟨ws, q1, q2, q3, q4⟩ := x0.er.slot i _ hx
      refine ⟨_, q1, .inl ⟨rfl, ws, SqL.of q2⟩, ?_⟩
      obtain ⟨us, r1, r2, r3, r4⟩ := x0.er.slot j _ hy
      refine ⟨_, r1, .inl ⟨rfl, us, SqL.of r2⟩, ?_⟩
      refine G.ev (t := te) re x0 e' fun d s1 v Hc1 H1 x1 n1 p1 h => ?_
      obtain ⟨us1, r5, r6, r7, r8⟩ := x1.er.slot j _ hy
      have h' : (R.ofO (popD ys d)).bind (fun q => (R.ofO (fApp q.1 xs)).bind fun zs => k ((env.set j (.lst false q.2)).set i (.lst false zs)) s1) = rr := h
      cases ho : popD ys d with
      | none => rw [ho] at h'; exact (G.ns h'.symm).elim
      | some q =>
        rw [ho] at h'
        have h2 : (R.ofO (fApp q.1 xs)).bind (fun zs => k ((env.set j (.lst false q.2)).set i (.lst false zs)) s1) = rr := h'
        cases hz : fApp q.1 xs with
        | none => rw [hz] at h2; exact (G.ns h2.symm).elim
        | some zs =>
          rw [hz] at h2
          unfold popD at ho
          split at ho
          · rename_i n
            cases hq : ixN ys.length n with
            | none => rw [hq] at ho; cases ho
            | some qq =>
              rw [hq] at ho
              have ho : (if decide (-(2 ^ 63) ≤ n) && decide (n < 2 ^ 63) then (ys[qq]?).map fun d => (d, ys.eraseIdx qq) else none) = some q := ho
              split at ho
              · rename_i hb
                simp only [Bool.and_eq_true, decide_eq_true_eq] at hb
                cases hg : ys[qq]? with
                | none => rw [hg] at ho; cases ho
                | some dd =>
                  rw [hg] at ho
                  cases ho
                  cases p1
                  obtain ⟨vv, g1, g2⟩ := r7.get hg
                  have hl := r7.length
                  refine ⟨_, us1, n, qq, vv, rfl, rfl, r6, hb.1, hb.2, by rw [hl]; exact (ixN_seq hq).1, g1, ?_⟩
                  have x2 := x1.relst hy (r7.eraseIdx qq)
                  have hx2 : (env.set j (.lst false (ys.eraseIdx qq)))[i]? = some (.lst false xs) := by rw [List.getElem?_set_ne (Ne.symm hij)]; exact hx
                  obtain ⟨ws2, t1, t2, t3, t4⟩ := x2.er.slot i _ hx2
                  unfold fApp at hz
                  split at hz
                  · rename_i hf
                    cases hz
                    have := fitB_le hf
                    exact ⟨_, ws2, vv, rfl, rfl, t2, by rw [t3.length]; omega, G.nx _ s1 σ _ ⟨_, _, x2.relst hx2 (t3.append (.cons g2 .nil))⟩ h2⟩
                  · cases hz
              · cases ho
          · cases ho
    · exact (G.ns (e.symm.trans (e2.trans e3))).elim
  · exact (G.ns (e.symm.trans e2)).elim
/-- xs[i], a list's item by values -/
def rGetL : V → V → Hp → VK → Prop := fun o i H Q => ∃ p xs k v, o = .ref p ∧ i = .int k ∧ H p = some (.lst xs) ∧ 0 ≤ k ∧ k < 2 ^ 63 ∧ xs[k.toNat]? = some v ∧ Q v H
theorem get_list : PGet X rGetL := by
  intro pins s σ H o i ov iv Q I ro ri h
  obtain ⟨p, xs, k, v, rfl, rfl, hp, h0, h1, hv, q⟩ := h
  cases ro
  obtain ⟨t, rfl⟩ := ri
  obtain ⟨its, r, pl, hz⟩ := I.list (SqL.of hp)
  obtain ⟨w, ew, rw'⟩ := r.get hv
  exact wpAny_getItem_list pl.isList h0 h1 (by simpa using ew) ⟨v, H, I, rw', q⟩
/-- xs[a] op= e, ints -/
def sAugIx (g : DL.D → DL.D → Option DL.D) (i : Nat) (fa fe : Ev DL.D) : Sf := fun k _ _ env s => onLst i env fun xs => (fa env s).bind fun p => match p.1 with
  | .int n => if decide (0 ≤ n) && decide (n < 2 ^ 63) then (R.ofO xs[n.toNat]?).bind fun old => (fe env p.2).bind fun q => (R.ofO (g old q.1)).bind fun z => (R.ofO (fSet (.int n) z xs)).bind fun ys => k (env.set i (.lst false ys)) q.2 else .stuck
  | _ => .stuck
theorem ds_augIx {op : Operator} {r : R2} {g : DL.D → DL.D → Option DL.D} {fa fe : Ev DL.D} {pos' : Pos} (ho : PIp X op r) (hr : OpD X.K r g) (hN : X.N[i]? = some x) (hv : Vis X.env.scope x) (hd : (x == ("__debug__" : Str)) = false) (hcd : (x == ("__classdict__" : Str)) = false)
    (ha : DE X E C a fa) (he : DE X E C e fe) (hst : ∀ ov iv new, augStore a ov iv new = (do holding [new, ov, iv] (setItem ov iv new); release [new, ov, iv] []; pure .next)) :
    DS X E C (.AugAssign (.Subscript (.Name x p0) a pos') op e pos) (sAugIx g i fa fe) := by
  obtain ⟨ta, pa, ra⟩ := ha
  obtain ⟨te, pe, re⟩ := he
  refine ⟨_, ps_augS (pe_var hN hv hd hcd) pa get_list pe ho set_list hst, fun en Lk k kb kc rr D σ H env s sr e G => ?_⟩
  obtain ⟨ad, Hc, x0⟩ := sr
  rcases onLst_or i env (fun xs => (fa env s).bind fun p => match p.1 with
    | .int n => if decide (0 ≤ n) && decide (n < 2 ^ 63) then (R.ofO xs[n.toNat]?).bind fun old => (fe env p.2).bind fun q => (R.ofO (g old q.1)).bind fun z => (R.ofO (fSet (.int n) z xs)).bind fun ys => k (env.set i (.lst false ys)) q.2 else .stuck
    | _ => .stuck) with ⟨xs, hx, e2⟩ | e2
  · have e' := e2.symm.trans e
    obtain ⟨ws, q1, q2, q3, q4⟩ := x0.er.slot i _ hx
    refine ⟨_, q1, ?_⟩
    refine G.ev ra x0 e' fun d s1 v Hc1 H1 x1 n1 p1 h => ?_
    dsimp only at h
    split at h
    · rename_i n
      split at h
      · rename_i hb
        simp only [Bool.and_eq_true, decide_eq_true_eq] at hb
        cases p1
        obtain ⟨ws1, q5, q6, q7, q8⟩ := x1.er.slot i _ hx
        cases hg : xs[n.toNat]? with
        | none => rw [hg] at h; exact (G.ns h.symm).elim
        | some old =>
          rw [hg] at h
          have h : (fe env s1).bind (fun q => (R.ofO (g old q.1)).bind fun z => (R.ofO (fSet (.int n) z xs)).bind fun ys => k (env.set i (.lst false ys)) q.2) = rr := h
          obtain ⟨vv, g1, g2⟩ := q7.get hg
          refine ⟨_, ws1, n, vv, rfl, rfl, q6, hb.1, hb.2, g1, ?_⟩
          refine G.ev re x1 h fun d2 s2 v2 Hc2 H2 x2 n2 p2 h2 => ?_
          have h2 : (R.ofO (g old d2)).bind (fun z => (R.ofO (fSet (.int n) z xs)).bind fun ys => k (env.set i (.lst false ys)) s2) = rr := h2
          cases hz : g old d2 with
          | none => rw [hz] at h2; exact (G.ns h2.symm).elim
          | some z =>
            rw [hz] at h2
            have h2 : (R.ofO (fSet (.int n) z xs)).bind (fun ys => k (env.set i (.lst false ys)) s2) = rr := h2
            cases hs : fSet (.int n) z xs with
            | none => rw [hs] at h2; exact (G.ns h2.symm).elim
            | some ys =>
              rw [hs] at h2
              have h2 : k (env.set i (.lst false ys)) s2 = rr := h2
              refine hr Hc2 H2 vv v2 old d2 z _ x2.er.sub (.inl (n2.sub.dv g2)) (.inl p2) hz fun w Hc' H' al hd => ?_
              have e3 := al.er x2.er
              have x3 := x2.ev al.nx e3
              obtain ⟨ws3, t5, t6, t7, t8⟩ := x3.er.slot i _ hx
              have hs : (ixN xs.length n).map (fun j => xs.set j z) = some ys := hs
              cases hj : ixN xs.length n with
              | none => rw [hj] at hs; cases hs
              | some j =>
                rw [hj] at hs
                cases hs
                exact ⟨_, ws3, n, j, rfl, rfl, t6, by rw [t7.length]; exact hj, G.nx _ s2 σ _ ⟨_, _, x3.relst hx (t7.set j hd)⟩ h2⟩
      · exact (G.ns h.symm).elim
    · exact (G.ns h.symm).elim
  · exact (G.ns (e.symm.trans e2)).elim
end
end L2.DL

set_option Elab.async false
set_option linter.all false
set_option maxRecDepth 100000
set_option maxHeartbeats 2000000
/-! D layer 14g: sorted(xs) of a list of data. -/
namespace L2.DL
open PySem PySem.Spec PyProof.Rows
variable [TabL]
def tup1 : D → Bool
  | .tuple (_ :: _) => true
  | _ => false
def noTup : D → Bool
  | .none => false
  | .tuple _ => false
  | _ => true
/-- can they be sorted -/
def sortB (ds : List D) : Bool := ds.all (fun d => ds.all fun e => PySem.W.alike d e) && (ds.all tup1 || ds.all noTup) && ds.all (dep 40) && fitB ds.length
/-- the order of data -/
def leD (d e : D) : Bool := PySem.W.dataLe false (fun d : D => d) d e
def gSorted : List D → Option D
  | [.list ds] => if sortB ds then some (.list (ds.mergeSort leD)) else none
  | [.tuple ds] => if sortB ds then some (.list (ds.mergeSort leD)) else none
  | _ => none
def rSortedD (K : PySem.W.Frag) : List V → Hp → VK → Prop := fun vs H Q => ∃ (a : Addr) (ws : List V) (ds : List D), vs = [V.ref a] ∧ (SqL K H a ws ∨ SqT K H a ws) ∧ DpAll K H ws ds ∧ sortB ds = true ∧
  ∀ (p : Addr), H p = none → Q (.ref p) (upd H p (.lst (((ws.zip ds).mergeSort (PySem.W.dataLe false fun q : V × D => q.2)).map (·.1))))
theorem each_of {σ : St} {pins : List (Addr × Obj)} {X : Cx} {H : Hp} {s : Shared} (I : Inv X pins σ H s) : ∀ {ws : List V} {ds : List D} {us : List Value}, Vals ws us → DpAll X.K H ws ds → PySem.W.EachIs (fun (v : Value) (q : V × D) => RelV q.1 v) us (ws.zip ds) ∧ PySem.W.EachIs (fun (v : Value) (q : V × D) => ∃ as, Reads s.heap v q.2 as) us (ws.zip ds)
  | _, _, _, .nil, h => by cases h; exact ⟨.nil, .nil⟩
  | _, _, _, .cons r rs, h => by
    cases h with
    | cons h1 h2 =>
      obtain ⟨a, b⟩ := each_of I rs h2
      exact ⟨.cons r a, .cons (Dp.reads I _ _ _ h1 r) b⟩
theorem vals_of {zs : List (V × D)} : ∀ {us : List Value}, PySem.W.EachIs (fun (v : Value) (q : V × D) => RelV q.1 v) us zs → Vals (zs.map (·.1)) us := by
  induction zs with
  | nil => intro us h; cases h; exact .nil
  | cons z zs ih => intro us h; cases h with | cons a b => exact .cons a (ih b)
theorem dpLen {K : PySem.W.Frag} {H : Hp} : ∀ {ws : List V} {ds : List D}, DpAll K H ws ds → ws.length = ds.length
  | _, _, .nil => rfl
  | _, _, .cons _ h => by rw [List.length_cons, List.length_cons, dpLen h]
theorem zip_snd {α β : Type} : ∀ {xs : List α} {ys : List β}, xs.length = ys.length → (xs.zip ys).map (·.2) = ys
  | [], [], _ => rfl
  | x :: xs, y :: ys, h => by
    rw [List.zip_cons_cons, List.map_cons, zip_snd (by simpa using h)]
  | [], _ :: _, h => by cases h
  | _ :: _, [], h => by cases h
theorem dvAll_pairs {K : PySem.W.Frag} {H : Hp} : ∀ {zs : List (V × D)}, (∀ z ∈ zs, Dv K H z.1 z.2) → DvAll K H (zs.map (·.1)) (zs.map (·.2))
  | [], _ => .nil
  | z :: zs, h => .cons (h z (List.mem_cons_self ..)) (dvAll_pairs fun y hy => h y (List.mem_cons_of_mem _ hy))
theorem dvAll_zip {K : PySem.W.Frag} {H : Hp} : ∀ {ws : List V} {ds : List D}, DvAll K H ws ds → ∀ z ∈ ws.zip ds, Dv K H z.1 z.2
  | _, _, .nil => fun _ h => nomatch h
  | _, _, .cons a b => fun z hz => by
    rcases List.mem_cons.mp hz with rfl | hz
    · exact a
    · exact dvAll_zip b z hz
theorem sorted_pairs {K : PySem.W.Frag} {H : Hp} {ws : List V} {ds : List D} (h : DvAll K H ws ds) : DvAll K H (((ws.zip ds).mergeSort (PySem.W.dataLe false fun q : V × D => q.2)).map (·.1)) (ds.mergeSort leD) := by
  have e : ((ws.zip ds).mergeSort (PySem.W.dataLe false fun q : V × D => q.2)).map (·.2) = ds.mergeSort leD := by
    refine (List.map_mergeSort (r := PySem.W.dataLe false fun q : V × D => q.2) (s := leD) (f := fun q : V × D => q.2) (l := ws.zip ds) fun a _ b _ => rfl).trans ?_
    rw [zip_snd h.length]
  rw [← e]
  refine dvAll_pairs fun z hz => dvAll_zip h z ?_
  exact (List.mergeSort_perm _ _).mem_iff.mp hz
theorem d_sorted {K : PySem.W.Frag} : CallD K (rSortedD K) gSorted := by
  intro Hc H vs ds z Q s hx hz q
  unfold gSorted at hz
  split at hz
  · split at hz
    · rename_i hb
      cases hz
      obtain ⟨v, rfl, hp⟩ := hx.one
      obtain ⟨a, ws, rfl, h1, h2⟩ := hp.list s
      exact ⟨a, ws, _, rfl, .inl (SqL.of h1), (s.dvAll h2).dp, hb, fun p hp => q _ _ _ (.new s hp) (.lst upd_same ((Sub.upd (s.none hp)).dvAll (sorted_pairs h2)))⟩
    · cases hz
  · split at hz
    · rename_i hb
      cases hz
      obtain ⟨v, rfl, hp⟩ := hx.one
      obtain ⟨a, ws, rfl, h1, h2⟩ := hp.tuple s
      exact ⟨a, ws, _, rfl, .inr h1, (s.dvAll h2).dp, hb, fun p hp => q _ _ _ (.new s hp) (.lst upd_same ((Sub.upd (s.none hp)).dvAll (sorted_pairs h2)))⟩
    · cases hz
  · cases hz
/-- .. kept by its maker -/
theorem f_sorted {K : PySem.W.Frag} : CallF K (rSortedD K) gSorted := by
  intro Hc H vs ds zs Q s hx hz q
  unfold gSorted at hz
  split at hz
  · split at hz
    · rename_i hb
      cases hz
      obtain ⟨v, rfl, hp⟩ := hx.one
      obtain ⟨a, ws, rfl, h1, h2⟩ := hp.list s
      exact ⟨a, ws, _, rfl, .inl (SqL.of h1), (s.dvAll h2).dp, hb, fun p hp => q p _ hp (sorted_pairs h2)⟩
    · cases hz
  · split at hz
    · rename_i hb
      cases hz
      obtain ⟨v, rfl, hp⟩ := hx.one
      obtain ⟨a, ws, rfl, h1, h2⟩ := hp.tuple s
      exact ⟨a, ws, _, rfl, .inr h1, (s.dvAll h2).dp, hb, fun p hp => q p _ hp (sorted_pairs h2)⟩
    · cases hz
  · cases hz
end L2.DL

set_option Elab.async false
set_option linter.all false
set_option maxRecDepth 100000
set_option maxHeartbeats 2000000
/-! D layer 14h: sorted(xs) of a list or a tuple of data. -/
namespace L2.DL
open PySem PySem.Spec PyProof.Rows PySem.Calls
variable [TabL]
section
variable {prog : Program} {w : World} {A : Around} {E : Value → Shared → Prop} {s : Shared}
/-- collecting a list's or a tuple's items: the heap behind -/
theorem collect_at {P : List Value → Shared → Prop} {q : Addr} {T : String} {ob : Obj} {xs : Array Value} {m : Nat} (hT : T = "list" ∨ T = "tuple") (h1 : s.heap.get? q = some ob) (h2 : ob.cls = .type T) (h3 : ob.data = .seq xs m) (h4 : xs.size ≤ sizeLine)
    (hP : P xs.toList { s with heap := (s.heap.push { cls := .type "list", data := .seq ([] : List Value).toArray }).update s.heap.objs.size (Obj.mapSeq (· ++ xs)) }) : wpAny (model prog w) A (collect (.ref q)) P E s := by
  have at0 : (s.heap.push { cls := .type "list", data := .seq ([] : List Value).toArray }).get? s.heap.objs.size = some (seqObj "list" #[] 0) := Heap.get?_push_size _ rfl
  have at1 := Heap.get?_update_self (Obj.mapSeq (· ++ xs)) at0 rfl
  have last : wpAny (model prog w) A (match Value.ref s.heap.objs.size with
      | Value.ref a => do
        match (← load a).data with
          | Data.seq ys _ => pure ys.toList
          | _ => unsupported "internal:collect"
      | _ => unsupported "internal:collect") P E { s with heap := (s.heap.push { cls := .type "list", data := .seq ([] : List Value).toArray }).update s.heap.objs.size (Obj.mapSeq (· ++ xs)) } :=
    wpAny_bind (wpAny_load at1 (wpAny_pure (by
      show P ((#[] : Array Value) ++ xs).toList _
      rw [show ((#[] : Array Value) ++ xs).toList = xs.toList by simp]
      exact hP)))
  unfold collect
  refine wpAny_bind (wpAny_runValue (codeAny_builtin F.entry_proto_collect ?_)); rw [Around.under_plainId F.plain_proto_collect _]
  show wpAny _ A.in1 (newList [] >>= fun v => again (.builtin "list.__iadd__" ⟨[v, .ref q], []⟩)) _ _ s
  refine wpAny_bind (wpAny_newObj_type (wpAny_pure ⟨plainId_quiet F.plain_list_iadd _, codeAny_builtin F.entry_list_iadd ?_⟩))
  rw [Around.under_plainId F.plain_list_iadd _]
  refine wpAny_mono (wpAny_extend_seq (hsz := h4) (A := A) (R := fun r s' => r = .ok (.ret (.ref s.heap.objs.size)) ∧ s' = { s with heap := (s.heap.push { cls := .type "list", data := .seq ([] : List Value).toArray }).update s.heap.objs.size (Obj.mapSeq (· ++ xs)) }) (s := { s with heap := s.heap.push { cls := .type "list", data := .seq ([] : List Value).toArray } }) _ q _ 0 hT at0 (Heap.get?_push_of_some _ h1) h2 h3 ⟨rfl, rfl⟩) (fun fin s' z => ?_) fun _ _ z => absurd z.1 (by simp)
  cases fin with
  | done f => obtain ⟨y, rfl⟩ := z; cases y; exact last
  | again c => exact ⟨z.1, codeAny_mono z.2 fun r s'' y => by obtain ⟨rfl, rfl⟩ := y; exact last⟩
theorem sorted_any {β : Type} {R : Value → β → Prop} {enc : β → PyData} {l : Addr} {T : String} {o : Obj} {its : List Value} {bs : List β} {n : Nat} {Q : Value → Shared → Prop} (hT : T = "list" ∨ T = "tuple") (ho : s.heap.get? l = some o) (hc : o.cls = .type T) (hd : o.data = .seq its.toArray n)
    (e : PySem.W.EachIs R its bs) (er : PySem.W.EachIs (fun v b => ∃ as, Reads s.heap v (enc b) as) its bs) (hal : PySem.W.AllAlike (bs.map enc)) (hk : PySem.W.Sortable (bs.map enc)) (hL : its.length ≤ sizeLine) (hu : ∀ b, b ∈ bs → A.units + 2 + (enc b).depth < cLine)
    (h : ∀ (out : List Value) (h' : Heap) (a : Addr) (ep : Nat), out.length = its.length → PySem.W.EachIs R out (bs.mergeSort (PySem.W.dataLe false enc)) → (∀ b ob, s.heap.get? b = some ob → h'.get? b = some ob) → s.heap.objs.size ≤ a → h'.get? a = some { cls := .type "list", data := .seq out.toArray ep } → Q (.ref a) { s with heap := h' }) :
    wpAny (model prog w) A (call (.builtin "sorted") [.ref l]) Q E s := by
  refine call_function_entry PyProof.Rows.kind_sorted PyProof.Rows.plain_sorted PyProof.Rows.entry_sorted (PyProof.Rows.args_sorted1 _) ?_
  unfold Builtin.«sorted»
  refine wpAny_bind (m := checkCount "sorted" 1 1 _) (wpAny_pure ?_)
  refine wpAny_bind (collect_at hT ho hc hd (by rw [List.size_toArray]; exact hL) ?_)
  obtain ⟨h1, hh1⟩ : ∃ h1, h1 = (s.heap.push { cls := .type "list", data := .seq ([] : List Value).toArray }).update s.heap.objs.size (Obj.mapSeq (· ++ its.toArray)) := ⟨_, rfl⟩
  have hz : s.heap.objs.size ≤ h1.objs.size := by rw [hh1, Heap.size_update, size_push']; omega
  have k1 : ∀ b ob, s.heap.get? b = some ob → h1.get? b = some ob := fun b ob q => by
    rw [hh1, Heap.get?_update_other _ _ (Nat.ne_of_gt (Heap.lt_size q))]
    exact Heap.get?_push_of_some _ q
  rw [← hh1]
  refine wpAny_bind (wpAny_newList ?_ (by simpa using hL))
  have at1 : (h1.push { cls := .type "list", data := .seq its.toArray }).get? h1.objs.size = some (seqObj "list" its.toArray 0) := Heap.get?_push_size _ rfl
  have k2 : ∀ b ob, s.heap.get? b = some ob → (h1.push { cls := .type "list", data := .seq its.toArray }).get? b = some ob := fun b ob q => Heap.get?_push_of_some _ (k1 b ob q)
  have er2 : PySem.W.EachIs (fun v b => ∃ as, Reads (PySem.W.sortingHeap (h1.push { cls := .type "list", data := .seq its.toArray }) h1.objs.size its) v (enc b) as) its bs := er.mono fun _ _ ⟨as, r⟩ => ⟨as, PyProof.Rows.Reads.keeps (fun b ob q => PySem.W.sortingHeap_old (fun z => by subst z; exact (Nat.lt_irrefl _ (Heap.lt_size (k1 _ _ q))).elim) (k2 b ob q)) r⟩
  have S : PySem.W.SortsAt prog w A.in1.in1 { heap := PySem.W.sortingHeap (h1.push { cls := .type "list", data := .seq its.toArray }) h1.objs.size its, gens := s.gens, drawn := s.drawn, toks := s.toks, os := s.os } (PySem.W.dataKind (PySem.W.sortingHeap (h1.push { cls := .type "list", data := .seq its.toArray }) h1.objs.size its) (bs.map enc)) its :=
    PySem.W.SortsAt.data (PySem.W.each_map (R := fun v d => ∃ as, Reads (PySem.W.sortingHeap (h1.push { cls := .type "list", data := .seq its.toArray }) h1.objs.size its) v d as) enc er2) hal hk (PySem.W.bound_map hu)
  have hs := PySem.W.sortVals_data false e er2 hal
  have hsl := (PySem.W.sortVals_length (κ := PySem.W.dataKind (PySem.W.sortingHeap (h1.push { cls := .type "list", data := .seq its.toArray }) h1.objs.size its) (bs.map enc)) (ks := its) (vs := its) false rfl)
  refine wpAny_bind (wpAny_holding (PyProof.Rows.wpAny_call_entry_kw PyProof.Rows.slot_list_sort ⟨_, at1, rfl⟩ PyProof.Rows.entry_list_sort ?srt (PyProof.Rows.args_list_sort _)))
  case srt =>
    refine PySem.W.list_sort_vals at1 S hL ?_
    obtain ⟨ep, hat⟩ := PyProof.Rows.sortedHeap_at (out := (PySem.W.sortVals (PySem.W.dataKind (PySem.W.sortingHeap (h1.push { cls := .type "list", data := .seq its.toArray }) h1.objs.size its) (bs.map enc)) false its its).toArray) at1
    refine ⟨_, rfl, wpAny_pure ⟨_, rfl, ?_⟩⟩
    refine h _ _ _ ep hsl hs (fun b ob q => ?_) hz hat
    rw [PyProof.Rows.sortedHeap_old (fun z => by subst z; exact (Nat.lt_irrefl _ (Heap.lt_size (k1 _ _ q))).elim) (Heap.lt_size (k2 b ob q))]
    exact k2 b ob q
end
theorem cr_sortedD {X : Cx} (hu : X.A.units + 64 < cLine) : CallR X (.builtin "sorted") (rSortedD X.K) := by
  intro pins s σ H vs us Q I r h
  obtain ⟨a, ws, ds, rfl, hs, hd, hb, q⟩ := h
  rw [Vals.ref1 r]
  unfold sortB at hb
  simp only [Bool.and_eq_true, Bool.or_eq_true, List.all_eq_true] at hb
  obtain ⟨⟨⟨h1, h2⟩, h3⟩, h4⟩ := hb
  have hmap : (ws.zip ds).map (fun q : V × D => q.2) = ds := zip_snd (dpLen hd)
  have hlen : (ws.zip ds).length = ws.length := by rw [List.length_zip, ← (dpLen hd), Nat.min_self]
  have key : ∀ (T : String) (ob : Obj) (its : List Value) (n : Nat), (T = "list" ∨ T = "tuple") → s.heap.get? a = some ob → ob.cls = .type T → ob.data = .seq its.toArray n → Vals ws its → ws.length ≤ sizeLine → wpAny (model X.prog X.w) X.A (call (.builtin "sorted") [.ref a]) (EP X pins σ Q) X.xe s := by
    intro T ob its n hT ho hc hdt rv hz
    obtain ⟨e1, e2⟩ := each_of I rv hd
    refine sorted_any (enc := fun q : V × D => q.2) hT ho hc hdt e1 e2 (by rw [hmap]; exact fun d hd d' hd' => h1 d hd d' hd') (by
      rw [hmap]
      rcases h2 with h2 | h2
      · refine .inl fun d hd => ?_
        have := h2 d hd
        unfold tup1 at this
        split at this
        · exact ⟨_, _, rfl⟩
        · cases this
      · refine .inr fun d hd => ?_
        have := h2 d hd
        constructor
        · rintro rfl; cases this
        · rintro xs rfl; cases this) (by rw [← rv.length]; exact hz) (fun b hb => by
        have hm : b.2 ∈ ds := (List.of_mem_zip (show (b.1, b.2) ∈ ws.zip ds from hb)).2
        have := (dep_ok _ _ (h3 _ hm)).2
        show X.A.units + 2 + b.2.depth < cLine
        omega) fun out h' p ep hlo ho hk hp hat => ?_
    have rv' := vals_of ho
    have hl2 : (((ws.zip ds).mergeSort (PySem.W.dataLe false fun q : V × D => q.2)).map (·.1)).length ≤ sizeLine := by
      rw [List.length_map, List.length_mergeSort, hlen]; exact hz
    exact ⟨.ref _, upd H p (.lst (((ws.zip ds).mergeSort (PySem.W.dataLe false fun q : V × D => q.2)).map (·.1))), I.laid (t' := s.toks) hk hp ⟨hl2, out, ep, rv', hat⟩, rfl, q _ (I.hok.fresh hp)⟩
  rcases hs with hs | hs
  · obtain ⟨its, rv, pl, hz⟩ := I.list hs
    obtain ⟨ob, ho, hc, n, hdt⟩ := pl.isList
    exact key "list" ob its n (.inl rfl) ho hc hdt rv hz
  · obtain ⟨its, rv, pl, hz⟩ := I.tuple hs
    obtain ⟨ob, ho, hc, n, hdt⟩ := pl
    exact key "tuple" ob its n (.inr rfl) ho hc hdt rv hz
end L2.DL

set_option Elab.async false
set_option linter.all false
set_option maxRecDepth 100000
set_option maxHeartbeats 3200000
/-! D layer 14i: sorted(set(xs)), xs a list of ints. -/
namespace L2.DL
open PySem PySem.Spec PyProof.Rows
/-- the first meetings of the first i items -/
def fmt (ns : List Int) (i : Nat) : List Int := firstMet (fun j => ns.getD j 0) i
section
variable {prog : Program} {w : World} {A : Around} {R : Result → Shared → Prop} {it : Addr} {fp wr : List Addr} {G : Array GenState → Array GenState → Prop} {m : Nat} {Pv : Nat → Value → Prop} {St : Nat → Shared → Prop}
def SAt (w : World) (ns : List Int) (i : Nat) (a : Addr) (h : Heap) : Prop := SetR w h a (fun z => (fmt ns i).any (· == z)) (fmt ns i).length
theorem sLoop (W : WalksS prog w A.in1 it fp wr G m Pv St) (b : Addr) (hb : b ∉ fp) (ns : List Int) (hv : ∀ i v, Pv i v → ∃ t, v = .int (ns.getD i 0) t) (hr : m + 1 < scanBound) (fin : Shared → Prop) (hf : ∀ z, fin z → R (.ok (.ret .none)) z) (z0 : Shared)
    (hfin : ∀ z, Moved (b :: wr) G z0 z → SAt w ns m b z.heap → fin z) : ∀ (k i : Nat) (z : Shared), m - i = k → i ≤ m → St i z → SAt w ns i b z.heap → (z = z0 ∨ Moved (b :: wr) G z0 z) → codeAny (model prog w) A (.builtin "set.update.loop" ⟨[.ref b, .ref it], []⟩) R z := by
  have hbw : b ∉ wr := fun q => hb (W.sub _ q)
  have mono : ∀ c ∈ wr, c ∈ b :: wr := fun c q => List.mem_cons_of_mem _ q
  have keep : ∀ {i : Nat} {z z' : Shared}, SAt w ns i b z.heap → Moved wr G z z' → SAt w ns i b z'.heap := fun r q => SetR.at r fun o e => q.heap b o hbw e
  have chain : ∀ {z z' : Shared}, (z = z0 ∨ Moved (b :: wr) G z0 z) → Moved (b :: wr) G z z' → Moved (b :: wr) G z0 z' := fun q q2 => by
    rcases q with rfl | q
    · exact q2
    · exact Moved.trans W.gtrans q q2
  intro k
  induction k with
  | zero =>
    intro i z e hi st r mv
    obtain rfl : i = m := by omega
    refine codeAny_builtin PyProof.Rows.F.entry_set_update_loop ?_
    rw [Around.under_plainId PyProof.Rows.F.plain_set_update_loop _]
    show wpAny _ A.in1 (pyNext (.ref it) >>= _) _ _ z
    exact wpAny_bind (W.done z _ _ st fun z' q => wpAny_pure (hf _ (hfin z' (chain mv (q.mono mono)) (keep r q))))
  | succ k ih =>
    intro i z e hi st r mv
    have lt : i < m := by omega
    refine codeAny_builtin PyProof.Rows.F.entry_set_update_loop ?_
    rw [Around.under_plainId PyProof.Rows.F.plain_set_update_loop _]
    show wpAny _ A.in1 (pyNext (.ref it) >>= _) _ _ z
    refine wpAny_bind (W.item i z _ _ lt st fun v z1 hp st1 q => ?_)
    obtain ⟨t, rfl⟩ := hv i v hp
    have r1 := keep r q
    show wpAny _ A.in1 (holding [Value.int (ns.getD i 0) t] (setAdd b (.int (ns.getD i 0) t)) >>= _) _ _ z1
    refine wpAny_bind (wpAny_holding ?_)
    unfold setAdd
    refine wpAny_holding ?_
    refine wpAny_bind ((intKind prog w).pyHash (k := ns.getD i 0) (intKind_is _ _ _ _) ?_)
    have le := firstMet_length_le (fun j => ns.getD j 0) i
    refine setR_add_hashed (s := { z1 with toks := z1.toks + 1 }) (a := b) (n := (fmt ns i).length) r1 (by unfold fmt; omega) fun h2 sb r2 => ?_
    have r3 : SAt w ns (i + 1) b h2 := by
      unfold SAt fmt
      rw [firstMet_succ, step_length]
      refine SetR.congr r2 fun z => ?_
      rw [step_any]
      rfl
    have m1 : Moved (b :: wr) G z1 { z1 with heap := h2, toks := z1.toks + 1 } := ⟨fun c o nc ec => by
      show h2.get? c = _
      rw [sb.2 c (fun q => nc (by rw [q]; exact List.mem_cons_self ..))]
      exact ec, W.grefl _, rfl, rfl, Nat.le_succ _⟩
    refine wpAny_pure ⟨plainId_quiet PyProof.Rows.F.plain_set_update_loop _, ih (i + 1) _ (by omega) lt (W.frame _ z1 _ _ st1 (Nat.le_succ _) fun c hc o ec => ?_) r3 (.inr (Moved.trans W.gtrans (chain mv (q.mono mono)) m1))⟩
    rw [sb.2 c (fun q => hb (by rw [← q]; exact hc))]
    exact ec
end
section
variable {P : Program} {w : World} {A : Around} {E : Value → Shared → Prop} {s : Shared}
/-- the empty set that set() begins with -/
def noSet (w : World) : Obj := { cls := .type "set", dict := none, data := .set #[] 0 (.fresh 0 0 (!w.params.followText "set-order")) }
theorem newS1 (v : Value) {Z : Value → Shared → Prop} (hz : Z (.ref s.heap.objs.size) { s with heap := s.heap.push (noSet w) }) : codeAny (model P w) A (.call (.builtin "set.__new__") ⟨[.type "set", v], []⟩) (wants Z E) s := by
  refine codeAny_of_tree ?_
  show wpAny _ A.in1 (checkBuiltinCall "set.__new__" ⟨[.type "set", v], []⟩ >>= fun _ => again (.builtin "set.__new__" ⟨[.type "set", v], []⟩)) _ _ s
  refine wpAny_bind (wpAny_of_eq (PySem.F.newCall_set_1 v) (wpAny_pure ⟨plainId_quiet PySem.F.plain_set_new _, codeAny_builtin PySem.F.entry_set_new ?_⟩))
  rw [Around.under_plainId PySem.F.plain_set_new _]
  unfold Builtin.«set.__new__» Builtin.Frozenset.newClass
  have sb := sub_set_self
  obtain ⟨hp, g, dr, tk, os⟩ := s
  dsimp only
  wp_walk
  refine wpAny_askSetting (wpAny_pure ?_)
  dsimp only
  simp only [newObj]
  exact wpAny_bind (wpAny_alloc (wpAny_pure (wpAny_pure hz)))
theorem setList {l : Addr} {items : Array Value} {ns : List Int} {Q : Value → Shared → Prop} (hh : A.handled = none) (hl : s.heap.IsList l items) (hi : IntsAre items.toList ns) (hb : items.size + 1 < scanBound)
    (hq : ∀ (h2 : Heap) (tk : Nat), SAt w ns items.size s.heap.objs.size h2 → (∀ c o, s.heap.get? c = some o → h2.get? c = some o) → Q (.ref s.heap.objs.size) { s with heap := h2, toks := tk }) : wpAny (model P w) A (call (.type "set") [.ref l]) Q E s := by
  obtain ⟨c, tl, x1⟩ := PySem.F.called_set.mro
  have x2 := PySem.F.called_set.made
  have x3 := PySem.F.called_set.sub
  have x4 := PySem.F.called_set.notType
  have x5 := PySem.F.called_set.canCreate
  have x6 := PySem.F.typeCall_set_1 (.ref l)
  refine wpAny_call (codeAny_of_tree ?_)
  show wpAny _ _ (callAny (.type "set") _) _ _ _
  refine wpAny_pure ⟨Code.quiet_builtin _ (by decide +kernel), codeAny_builtin PySem.F.entry_type_call ?_⟩
  rw [Around.under_plain (weight_type_call_type "set" [.ref l] []) rfl]
  repeat (any_goals (first | assumption | wp_step))
  refine codeAny_mono (newS1 (.ref l) (E := E) (Z := fun v z => v = .ref s.heap.objs.size ∧ z = { s with heap := s.heap.push (noSet w) }) ⟨rfl, rfl⟩) fun r z hr => ?_
  cases r with
  | error e => exact hr
  | ok fl =>
    cases fl with
    | ret v =>
      obtain ⟨rfl, rfl⟩ := hr
      have at0 : (s.heap.push (noSet w)).get? s.heap.objs.size = some (noSet w) := Heap.get?_push_size _ rfl
      have ty : Shared.TypeIs { s with heap := s.heap.push (noSet w) } (.ref s.heap.objs.size) "set" := ⟨_, at0, rfl⟩
      have y1 := PySem.F.called_set.init.lookup
      have y2 := PySem.F.called_set.init.bind (.ref s.heap.objs.size)
      repeat (any_goals (first | assumption | wp_step))
      refine codeAny_mono (codeAny_call_builtin (R := wants (fun r z => r = .none ∧ ∃ h2 tk, z = { s with heap := h2, toks := tk } ∧ SAt w ns items.size s.heap.objs.size h2 ∧ ∀ c o, s.heap.get? c = some o → h2.get? c = some o) E) PySem.F.called_set.init.plain PySem.F.entry_set_init (check_set_init_1 ty ?_)) fun r2 z2 hr2 => ?_
      · have hd := hl
        obtain ⟨⟨oc, od, ot, os⟩, ho, q1, nl, q2⟩ := hl
        simp only at q1 q2
        subst q1
        subst q2
        have ho2 : (s.heap.push (noSet w)).get? l = some { cls := .type "list", dict := od, data := .seq items nl, slots := os } := Heap.get?_push_of_some _ ho
        have y3 := PySem.F.sub_list_set
        have y4 := PySem.F.sub_list_frozenset
        have y5 : (Value.type "list" == Value.type "dict") = false := by decide
        have isl : (s.heap.push (noSet w)).IsList l items := ⟨_, ho2, rfl, nl, rfl⟩
        unfold Builtin.«set.__init__» noKeywords Builtin.Frozenset.updateFrom
        generalize hIt : pyIter = IT
        wp_walk
        subst hIt
        refine wpAny_pyIter_list isl (wpAny_bind (wpAny_runValue ?_))
        have ls : l < s.heap.objs.size := Heap.lt_size ho
        have sz : (s.heap.push (noSet w)).objs.size = s.heap.objs.size + 1 := Heap.size_push ..
        have hne : l ≠ (s.heap.push (noSet w)).objs.size := by
          rw [sz]
          exact Nat.ne_of_lt (Nat.lt_trans ls (Nat.lt_succ_self _))
        have hnf : s.heap.objs.size ∉ [(s.heap.push (noSet w)).objs.size, l] := by
          rw [sz]
          simp only [List.mem_cons, List.not_mem_nil, or_false, not_or]
          exact ⟨Nat.ne_of_lt (Nat.lt_succ_self _), Nat.ne_of_gt ls⟩
        refine sLoop ((Walks.list (by simp [hh]) _ l hne items).toS) s.heap.objs.size hnf ns (fun i v hv => IntsAre.int_at hi i v (by rw [Array.getElem?_toList]; exact hv)) hb
          (fun z => ∃ h2 tk, z = { s with heap := h2, toks := tk } ∧ SAt w ns items.size s.heap.objs.size h2 ∧ ∀ c o, s.heap.get? c = some o → h2.get? c = some o) (fun z hz => ?_) _ (fun z hm hS => ?_) (items.size - 0) 0 _ rfl (Nat.zero_le _) ⟨⟨_, Heap.get?_push_size _ rfl, rfl, rfl⟩, isl.push _⟩ ?_ (.inl rfl)
        · obtain ⟨h2, tk, rfl, a1, a2⟩ := hz
          show wpAny _ _ _ _ _ _
          refine wpAny_pure ?_
          show wpAny _ _ (ret Value.none) _ _ _
          exact wpAny_pure ⟨rfl, h2, tk, rfl, a1, a2⟩
        · obtain ⟨h2, g2, d2, tk, o2⟩ := z
          obtain rfl : g2 = s.gens := hm.gens
          obtain rfl : d2 = s.drawn := hm.drawn
          obtain rfl : o2 = s.os := hm.os
          refine ⟨h2, tk, rfl, hS, fun c o e => hm.heap c o ?_ (Heap.get?_push_of_some _ (Heap.get?_push_of_some _ e))⟩
          have := Heap.lt_size e
          rw [sz]
          simp only [List.mem_cons, List.not_mem_nil, or_false, not_or]
          exact ⟨Nat.ne_of_lt this, Nat.ne_of_lt (Nat.lt_trans this (Nat.lt_succ_self _))⟩
        · exact SetR.at (setR_fresh (h := s.heap) w) fun o e => Heap.get?_push_of_some _ e
      · cases r2 with
        | error e => exact hr2
        | ok fl2 =>
          cases fl2 with
          | ret r =>
            obtain ⟨rfl, h2, tk, rfl, hS, hk⟩ := hr2
            repeat (any_goals (first | assumption | wp_step))
            exact hq _ _ hS hk
          | _ => exact hr2.elim
    | _ => exact hr.elim
end
end L2.DL

set_option Elab.async false
set_option linter.all false
set_option maxRecDepth 100000
set_option maxHeartbeats 2000000
/-! D layer 14j: sorted(set(xs)) in the D layer. -/
namespace L2.DL
open PySem PySem.Spec PyProof.Rows
variable [TabL]
def insU (x : Int) : List Int → List Int
  | [] => [x]
  | y :: l => if x < y then x :: y :: l else if x = y then y :: l else y :: insU x l
/-- the ints that stand in a list, each once, rising -/
def sortU (ns : List Int) : List Int := ns.foldr insU []
theorem mem_insU {x k : Int} : ∀ {l : List Int}, k ∈ insU x l ↔ k = x ∨ k ∈ l
  | [] => by simp [insU]
  | y :: l => by
    rw [insU]
    split
    · simp
    · split
      · rename_i h; subst h; simp
      · rw [List.mem_cons, mem_insU, List.mem_cons]
        constructor
        · rintro (h | h | h)
          · exact .inr (.inl h)
          · exact .inl h
          · exact .inr (.inr h)
        · rintro (h | h | h)
          · exact .inr (.inl h)
          · exact .inl h
          · exact .inr (.inr h)
theorem pw_insU {x : Int} : ∀ {l : List Int}, l.Pairwise (· < ·) → (insU x l).Pairwise (· < ·)
  | [], _ => List.pairwise_singleton ..
  | y :: l, h => by
    obtain ⟨h1, h2⟩ := List.pairwise_cons.mp h
    rw [insU]
    split
    · rename_i hlt
      refine List.pairwise_cons.mpr ⟨fun z hz => ?_, h⟩
      rcases List.mem_cons.mp hz with rfl | hz
      · exact hlt
      · exact Int.lt_trans hlt (h1 z hz)
    · split
      · exact h
      · rename_i n1 n2
        refine List.pairwise_cons.mpr ⟨fun z hz => ?_, pw_insU h2⟩
        rcases mem_insU.mp hz with rfl | hz
        · omega
        · exact h1 z hz
theorem mem_sortU {k : Int} : ∀ {ns : List Int}, k ∈ sortU ns ↔ k ∈ ns
  | [] => Iff.rfl
  | n :: ns => by
    show k ∈ insU n (sortU ns) ↔ _
    rw [mem_insU, mem_sortU, List.mem_cons]
theorem pw_sortU : ∀ {ns : List Int}, (sortU ns).Pairwise (· < ·)
  | [] => List.Pairwise.nil
  | n :: ns => pw_insU (pw_sortU (ns := ns))
theorem pw_eq : ∀ {l m : List Int}, l.Pairwise (· < ·) → m.Pairwise (· < ·) → (∀ k, k ∈ l ↔ k ∈ m) → l = m
  | [], [], _, _, _ => rfl
  | [], b :: m, _, _, h => absurd ((h b).mpr (List.mem_cons_self ..)) (fun z => nomatch z)
  | a :: l, [], _, _, h => absurd ((h a).mp (List.mem_cons_self ..)) (fun z => nomatch z)
  | a :: l, b :: m, h1, h2, h => by
    obtain ⟨p1, p2⟩ := List.pairwise_cons.mp h1
    obtain ⟨q1, q2⟩ := List.pairwise_cons.mp h2
    have e : a = b := by
      have x := (h a).mp (List.mem_cons_self ..)
      have y := (h b).mpr (List.mem_cons_self ..)
      rcases List.mem_cons.mp x with x | x
      · exact x
      · rcases List.mem_cons.mp y with y | y
        · exact y.symm
        · have := q1 a x
          have := p1 b y
          omega
    subst e
    rw [pw_eq p2 q2 fun k => ?_]
    have hk := h k
    rw [List.mem_cons, List.mem_cons] at hk
    constructor
    · intro z
      rcases hk.mp (.inr z) with e | e
      · have := p1 k z
        omega
      · exact e
    · intro z
      rcases hk.mpr (.inr z) with e | e
      · have := q1 k z
        omega
      · exact e
theorem sortU_len {ns : List Int} : (sortU ns).length ≤ ns.length := by
  induction ns with
  | nil => exact Nat.le_refl _
  | cons n ns ih =>
    have : ∀ l : List Int, (insU n l).length ≤ l.length + 1 := fun l => by
      induction l with
      | nil => exact Nat.le_refl _
      | cons y l ih =>
        rw [insU]
        split
        · exact Nat.le_refl _
        · split
          · exact Nat.le_succ _
          · rw [List.length_cons, List.length_cons]; omega
    exact Nat.le_trans (this _) (Nat.succ_le_succ ih)
def gSSet : List D → Option D
  | [.list ds] => (asI ds).bind fun ns => if ns.length < 64 then some (.list ((sortU ns).map .int)) else none
  | [.tuple ds] => (asI ds).bind fun ns => if ns.length < 64 then some (.list ((sortU ns).map .int)) else none
  | _ => none
def rSSet (K : PySem.W.Frag) : List V → Hp → VK → Prop := fun vs H Q => ∃ (a : Addr) (ns : List Int), vs = [V.ref a] ∧ (SqL K H a (ns.map V.int) ∨ SqT K H a (ns.map V.int)) ∧ ns.length < 64 ∧ ∀ p : Addr, H p = none → Q (.ref p) (upd H p (.lst ((sortU ns).map V.int)))
section
variable {X : Cx} {b : Expr} {t : TA} {p p2 q pos : Pos}
theorem sset_end {pins : List (Addr × Obj)} {σ : St} {H : Hp} {s : Shared} {a : Addr} {ns : List Int} {n : Nat} {Q : VK} (hc : X.calm = true) (I : Inv X pins σ H s) (R : SetR X.w s.heap a (fun j => decide (j ∈ ns)) n) (h64 : n < 64)
    (hq : ∀ p : Addr, H p = none → Q (.ref p) (upd H p (.lst ((sortU ns).map V.int)))) : wpAny (model X.prog X.w) X.A (call (.builtin "sorted") [.ref a]) (EP X pins σ Q) X.xe s := by
  refine sorted_set R (I.ok.hd hc) h64 fun z p out c ms k g o hp hg hi hs hm hl => ?_
  have e : ms = sortU ns := pw_eq hs pw_sortU fun k => by rw [hm, mem_sortU, decide_eq_true_eq]
  subst e
  have hn : H p = none := I.hok.fresh hp
  have sz : ((sortU ns).map V.int).length ≤ sizeLine := by
    rw [List.length_map, hl, sizeLine_eq]; omega
  obtain ⟨zh, zg, zd, zt, zo⟩ := z
  obtain rfl : zo = s.os := o
  obtain rfl : zg = s.gens := g
  have J2 : Inv X pins σ (upd H p (.lst ((sortU ns).map V.int))) { s with heap := zh, drawn := zd, toks := zt } := I.call (ch := []) (Un.laid k hp hn) (I.hok.laid k hp ⟨sz, out.toList, c, vals_of_ints hi, hg⟩) I.bare fun _ z => nomatch z
  exact ⟨.ref p, _, J2, rfl, hq p hn⟩
theorem fmt_any {ns : List Int} {k : Int} : ((fmt ns ns.length).any (· == k)) = decide (k ∈ ns) := by
  unfold fmt
  rw [firstMet_any]
  have e : (List.range ns.length).map (fun j => ns.getD j 0) = ns := by
    refine List.ext_getElem (by simp) fun i h1 h2 => ?_
    simp [List.getD, h2]
  rw [e, Bool.eq_iff_iff, List.any_eq_true, decide_eq_true_eq]
  constructor
  · rintro ⟨x, hx, e⟩
    rw [← beq_iff_eq.mp e]; exact hx
  · exact fun h => ⟨k, h, beq_iff_eq.mpr rfl⟩
/-- sorted(set(e)) -/
theorem pe_sset (hc : X.calm = true) (hg : Gl X "sorted") (hm : X.mg "sorted" = none) (hg2 : Gl X "set") (hm2 : X.mg "set" = none) (ha : PA X [b] t) (hs : starEach [b] X.env = [(false, eval b X.env)]) (hs2 : starEach [.Call (.Name "set" p2) [b] [] q] X.env = [(false, eval (.Call (.Name "set" p2) [b] [] q) X.env)]) :
    PE X (.Call (.Name "sorted" p) [.Call (.Name "set" p2) [b] [] q] [] pos) (fun σ H Q => t σ H fun vs H1 => rSSet X.K vs H1 Q) := by
  refine ⟨fun pins s σ H Q I h => ?_⟩
  refine Call_ (ld_blt I hg hm PyProof.Rows.boot_sorted (PyProof.Rows.callWith_builtin1 (PyProof.Rows.args_cons ?_ hs2) hs2 rfl))
  refine Call_ (ld_blt I hg2 hm2 PyProof.Rows.boot_set (PyProof.Rows.callWith_type1 (thn (ha.run q pins s σ H _ I h) fun us s1 ⟨vs, H1, I1, r1, q1⟩ => ?_) hs rfl))
  obtain ⟨a, ns, rfl, hq, hl, q1⟩ := q1
  cases r1 with
  | cons r rr =>
    cases rr
    cases r
    have fin : ∀ (h2 : Heap) (tk n : Nat), SetR X.w h2 s1.heap.objs.size (fun j => decide (j ∈ ns)) n → n < 64 → (∀ c o, s1.heap.get? c = some o → h2.get? c = some o) → wpAny (model X.prog X.w) X.A (call (.builtin "sorted") [.ref s1.heap.objs.size]) (EP X pins σ Q) X.xe { s1 with heap := h2, toks := tk } := fun h2 tk n R hn k =>
      sset_end hc (I1.kept (h' := h2) (t' := tk) fun c o e => k c o e) R hn q1
    rcases hq with hq | hq
    · obtain ⟨its, rv, pl, hz⟩ := I1.list hq
      have hi : IntsAre its ns := ints_of_vals rv
      have hlen : its.toArray.size = ns.length := by rw [List.size_toArray]; exact IntsAre.length hi
      refine setList (I1.ok.hd hc) pl.isList (ns := ns) (by simpa using hi) (by rw [hlen]; unfold scanBound; omega) fun h2 tk hS k => PyProof.Rows.args_nil ?_
      rw [hlen] at hS
      have R : SetR X.w h2 s1.heap.objs.size (fun j => decide (j ∈ ns)) (fmt ns ns.length).length := SetR.congr hS fun z => fmt_any.symm
      have le : (fmt ns ns.length).length ≤ ns.length := firstMet_length_le _ _
      exact fin h2 tk _ R (by omega) k
    · obtain ⟨its, rv, pt, hz⟩ := I1.tuple hq
      have hi : IntsAre its.toArray.toList ns := ints_of_vals rv
      exact call_set_tupI ns (I1.ok.hd hc) (show s1.heap.IsTuple a its.toArray from pt) hi (by unfold scanBound; omega) fun h2 tk c R hcn k => PyProof.Rows.args_nil (fin h2 tk c R (by omega) k)
variable {E : XK} {C : Addr}
theorem d_sset {K : PySem.W.Frag} : CallD K (rSSet K) gSSet := by
  intro Hc H vs ds z Q s hx hz q
  unfold gSSet at hz
  split at hz
  · obtain ⟨v, rfl, hp⟩ := hx.one
    rename_i xs
    obtain ⟨ns, hb, hz⟩ := Option.bind_eq_some_iff.mp hz
    split at hz
    · rename_i hl
      cases hz
      obtain ⟨a, ws, rfl, h1, h2⟩ := hp.list s
      rw [asI_ok hb] at h2
      rw [h2.map_int] at h1
      exact ⟨a, ns, rfl, .inl (SqL.of h1), hl, fun p hp => q _ _ _ (.new s hp) (.lst upd_same (DvAll.ints _))⟩
    · cases hz
  · obtain ⟨v, rfl, hp⟩ := hx.one
    rename_i xs
    obtain ⟨ns, hb, hz⟩ := Option.bind_eq_some_iff.mp hz
    split at hz
    · rename_i hl
      cases hz
      obtain ⟨a, ws, rfl, h1, h2⟩ := hp.tuple s
      rw [asI_ok hb] at h2
      rw [h2.map_int] at h1
      exact ⟨a, ns, rfl, .inr h1, hl, fun p hp => q _ _ _ (.new s hp) (.lst upd_same (DvAll.ints _))⟩
    · cases hz
  · cases hz
theorem de_sset {f : Ev (List D)} (hc : X.calm = true) (hg : Gl X "sorted") (hm : X.mg "sorted" = none) (hg2 : Gl X "set") (hm2 : X.mg "set" = none) (ha : DAK X E C [b] f) (hs : starEach [b] X.env = [(false, eval b X.env)]) (hs2 : starEach [.Call (.Name "set" p2) [b] [] q] X.env = [(false, eval (.Call (.Name "set" p2) [b] [] q) X.env)]) :
    DE X E C (.Call (.Name "sorted" p) [.Call (.Name "set" p2) [b] [] q] [] pos) (evB1 gSSet f) := by
  obtain ⟨t, pa, ra⟩ := ha
  exact ⟨_, pe_sset hc hg hm hg2 hm2 pa hs hs2, CallD.read d_sset ra⟩
end
end L2.DL

set_option Elab.async false
set_option linter.all false
set_option maxRecDepth 100000
set_option maxHeartbeats 2000000
/-! D layer 14k: dicts of one's own: what a key finds, what a store leaves. -/
namespace L2.DL
open PySem PySem.Spec PyProof.Rows
variable [TabL]

/-! ### the pure side -/
def keyOf : D → Option Key
  | .int i => some (.inl i)
  | .str x => some (.inr x)
  | _ => none
def scal (d : D) : Bool := (keyOf d).isSome
def isTup : D → Bool
  | .tuple _ => true
  | _ => false
def nkOk (d : D) : Bool := match nkD d with
  | some k => isTup d && decide (k.depth ≤ 8)
  | none => false
def keyOk (kvs : List (D × D)) (k : D) : Bool := (scal k && kvs.all fun p => scal p.1) || (nkOk k && kvs.all fun p => isTup p.1)
def dAt (kvs : List (D × D)) (k : D) : Option D := (kvs.find? fun p => PyData.eqv p.1 k).map (·.2)
def dPut (kvs : List (D × D)) (k v : D) : List (D × D) := if (kvs.any fun p => PyData.eqv p.1 k) = true then kvs.map (fun p => if PyData.eqv p.1 k = true then (p.1, v) else p) else kvs ++ [(k, v)]
theorem keyD_of {d : D} {q : Key} (h : keyOf d = some q) : d = keyD q := by
  unfold keyOf at h
  split at h
  · cases h; rfl
  · cases h; rfl
  · cases h
theorem keyOf_D {q : Key} : keyOf (keyD q) = some q := by cases q <;> rfl
theorem eqv_keyD {p q : Key} : PyData.eqv (keyD p) (keyD q) = decide (p = q) := by
  cases p with
  | inl i =>
    cases q with
    | inl j =>
      show PyData.eqv (.int i) (.int j) = _
      rw [PyData.eqv, Bool.eq_iff_iff, beq_iff_eq, decide_eq_true_eq]
      exact ⟨fun h => by rw [h], fun h => Sum.inl.inj h⟩
    | inr y =>
      show PyData.eqv (.int i) (.str y) = _
      rw [PyData.eqv]; rfl
  | inr x =>
    cases q with
    | inl j =>
      show PyData.eqv (.str x) (.int j) = _
      rw [PyData.eqv]; rfl
    | inr y =>
      show PyData.eqv (.str x) (.str y) = _
      rw [PyData.eqv, Bool.eq_iff_iff, beq_iff_eq, decide_eq_true_eq]
      exact ⟨fun h => by rw [h], fun h => Sum.inr.inj h⟩
mutual
theorem eqv_nk : ∀ {d e : D} {a b : NestedKey}, nkD d = some a → nkD e = some b → PyData.eqv d e = NestedKey.beq a b
  | d, e, a, b, hd, he => by
    cases d with
    | none =>
      rw [nkD] at hd; cases hd
      cases e with
      | none => rw [nkD] at he; cases he; rw [PyData.eqv]; rfl
      | int j => rw [nkD] at he; cases he; rw [PyData.eqv]; rfl
      | str y => rw [nkD] at he; cases he; rw [PyData.eqv]; rfl
      | tuple ys => rw [nkD] at he; obtain ⟨ks, _, rfl⟩ := Option.map_eq_some_iff.mp he; rw [PyData.eqv]; rfl
      | bool _ => rw [nkD] at he; cases he
      | list _ => rw [nkD] at he; cases he
      | dict _ => rw [nkD] at he; cases he
    | int i =>
      rw [nkD] at hd; cases hd
      cases e with
      | none => rw [nkD] at he; cases he; rw [PyData.eqv]; rfl
      | int j => rw [nkD] at he; cases he; rw [PyData.eqv]; rfl
      | str y => rw [nkD] at he; cases he; rw [PyData.eqv]; rfl
      | tuple ys => rw [nkD] at he; obtain ⟨ks, _, rfl⟩ := Option.map_eq_some_iff.mp he; rw [PyData.eqv]; rfl
      | bool _ => rw [nkD] at he; cases he
      | list _ => rw [nkD] at he; cases he
      | dict _ => rw [nkD] at he; cases he
    | str x =>
      rw [nkD] at hd; cases hd
      cases e with
      | none => rw [nkD] at he; cases he; rw [PyData.eqv]; rfl
      | int j => rw [nkD] at he; cases he; rw [PyData.eqv]; rfl
      | str y =>
        rw [nkD] at he; cases he; rw [PyData.eqv]
        show (x == y) = decide (x = y)
        rw [Bool.eq_iff_iff, beq_iff_eq, decide_eq_true_eq]
      | tuple ys => rw [nkD] at he; obtain ⟨ks, _, rfl⟩ := Option.map_eq_some_iff.mp he; rw [PyData.eqv]; rfl
      | bool _ => rw [nkD] at he; cases he
      | list _ => rw [nkD] at he; cases he
      | dict _ => rw [nkD] at he; cases he
    | tuple xs =>
      rw [nkD] at hd
      obtain ⟨ks, h1, rfl⟩ := Option.map_eq_some_iff.mp hd
      cases e with
      | none => rw [nkD] at he; cases he; rw [PyData.eqv]; rfl
      | int j => rw [nkD] at he; cases he; rw [PyData.eqv]; rfl
      | str y => rw [nkD] at he; cases he; rw [PyData.eqv]; rfl
      | tuple ys =>
        rw [nkD] at he
        obtain ⟨ls, h2, rfl⟩ := Option.map_eq_some_iff.mp he
        rw [PyData.eqv, eqv_nkA h1 h2]
        rfl
      | bool _ => rw [nkD] at he; cases he
      | list _ => rw [nkD] at he; cases he
      | dict _ => rw [nkD] at he; cases he
    | bool _ => rw [nkD] at hd; cases hd
    | list _ => rw [nkD] at hd; cases hd
    | dict _ => rw [nkD] at hd; cases hd
theorem eqv_nkA : ∀ {ds es : List D} {as bs : List NestedKey}, nkA ds = some as → nkA es = some bs → PyData.eqvAll ds es = NestedKey.beqAll as bs
  | [], [], as, bs, h1, h2 => by rw [nkA] at h1 h2; cases h1; cases h2; rw [PyData.eqvAll]; rfl
  | [], e :: es, as, bs, h1, h2 => by
    simp only [nkA] at h1 h2; cases h1
    obtain ⟨k, _, h4⟩ := Option.bind_eq_some_iff.mp h2
    obtain ⟨ks, _, rfl⟩ := Option.map_eq_some_iff.mp h4
    rw [PyData.eqvAll]; rfl
  | d :: ds, [], as, bs, h1, h2 => by
    simp only [nkA] at h1 h2; cases h2
    obtain ⟨k, _, h4⟩ := Option.bind_eq_some_iff.mp h1
    obtain ⟨ks, _, rfl⟩ := Option.map_eq_some_iff.mp h4
    rw [PyData.eqvAll]; rfl
  | d :: ds, e :: es, as, bs, h1, h2 => by
    rw [nkA] at h1 h2
    obtain ⟨k, g1, h4⟩ := Option.bind_eq_some_iff.mp h1
    obtain ⟨ks, g2, rfl⟩ := Option.map_eq_some_iff.mp h4
    obtain ⟨l, g3, h5⟩ := Option.bind_eq_some_iff.mp h2
    obtain ⟨ls, g4, rfl⟩ := Option.map_eq_some_iff.mp h5
    rw [PyData.eqvAll, eqv_nk g1 g3, eqv_nkA g2 g4]
    rfl
end
theorem eqv_nkd {d e : D} {a b : NestedKey} (hd : nkD d = some a) (he : nkD e = some b) : PyData.eqv d e = decide (a = b) := by
  rw [eqv_nk hd he, NestedKey.decide_eq]

/-! ### tables and their entries -/
section
variable {K : PySem.W.Frag} {Hc H : Hp}
abbrev Rmix (K : PySem.W.Frag) (Hc : Hp) : D × D → Key × Value → Prop := fun p q => p.1 = keyD q.1 ∧ ∃ v, RelV v q.2 ∧ Dv K Hc v p.2
abbrev Rnst (K : PySem.W.Frag) (Hc : Hp) : D × D → NestedKey × Addr × Value → Prop := fun p q => nkD p.1 = some q.1 ∧ q.1.depth ≤ 8 ∧ Dv K Hc (.ref q.2.1) p.1 ∧ ∃ v, RelV v q.2.2 ∧ Dv K Hc v p.2
/-- what is found -/
def OptV (K : PySem.W.Frag) (Hc : Hp) : Option D → Option Value → Prop
  | some d, some w => ∃ v, RelV v w ∧ Dv K Hc v d
  | none, none => True
  | _, _ => False
theorem OptV.isSome {o : Option D} {u : Option Value} (h : OptV K Hc o u) : o.isSome = u.isSome := by
  cases o <;> cases u <;> first | rfl | exact h.elim
theorem OptV.getD {o : Option D} {u : Option Value} {d : D} {r : Value} {v : V} (h : OptV K Hc o u) (hr : RelV v r) (hd : Dv K Hc v d) : ∃ v, RelV v (u.getD r) ∧ Dv K Hc v (o.getD d) := by
  cases o with
  | none =>
    cases u with
    | none => exact ⟨v, hr, hd⟩
    | some _ => exact h.elim
  | some _ =>
    cases u with
    | none => exact h.elim
    | some _ => exact h
theorem mix_at {k : D} {q : Key} (hk : keyOf k = some q) {kvs : List (D × D)} {vs : List (Key × Value)} (r : Paired (Rmix K Hc) kvs vs) : OptV K Hc (dAt kvs k) (valueAt vs q) := by
  have ek := keyD_of hk
  subst ek
  induction r with
  | nil => exact True.intro
  | @cons p x ps xs h t ih =>
    obtain ⟨h1, h2⟩ := h
    unfold dAt valueAt at ih ⊢
    rw [List.find?_cons, List.find?_cons, h1, eqv_keyD]
    by_cases e : x.1 = q
    · rw [decide_eq_true e]
      exact h2
    · rw [decide_eq_false e]
      exact ih
theorem mix_any {k : D} {q : Key} (hk : keyOf k = some q) {kvs : List (D × D)} {vs : List (Key × Value)} (r : Paired (Rmix K Hc) kvs vs) : (kvs.any fun p => PyData.eqv p.1 k) = vs.any fun kv => decide (kv.1 = q) := by
  have ek := keyD_of hk
  subst ek
  induction r with
  | nil => rfl
  | cons h t ih => rw [List.any_cons, List.any_cons, ih, h.1, eqv_keyD]
theorem mix_put {k d : D} {q : Key} {v : V} {w : Value} (hk : keyOf k = some q) (hr : RelV v w) (hd : Dv K Hc v d) {kvs : List (D × D)} {vs : List (Key × Value)} (r : Paired (Rmix K Hc) kvs vs) : Paired (Rmix K Hc) (dPut kvs k d) (stored vs q w) := by
  have e := mix_any hk r
  unfold dPut stored
  rw [e]
  have ek := keyD_of hk
  subst ek
  split
  · clear e
    rename_i hany
    clear hany
    induction r with
    | nil => exact .nil
    | @cons p x ps xs h t ih =>
      rw [List.map_cons, List.map_cons]
      refine .cons ?_ ih
      obtain ⟨h1, h2⟩ := h
      rw [h1, eqv_keyD]
      by_cases e : x.1 = q
      · rw [decide_eq_true e, if_pos rfl, if_pos e]
        exact ⟨rfl, v, hr, hd⟩
      · rw [decide_eq_false e, if_neg Bool.false_ne_true, if_neg e]
        exact ⟨h1, h2⟩
  · exact Paired.snoc r ⟨rfl, v, hr, hd⟩
theorem nst_at {k : D} {q : NestedKey} (hk : nkD k = some q) {kvs : List (D × D)} {xs : List (NestedKey × Addr × Value)} (r : Paired (Rnst K Hc) kvs xs) : OptV K Hc (dAt kvs k) ((atKey xs q).map (·.2)) := by
  induction r with
  | nil => exact True.intro
  | @cons p x ps xs h t ih =>
    obtain ⟨h1, h0, h2, h3⟩ := h
    unfold dAt atKey at ih ⊢
    rw [List.find?_cons, List.find?_cons, eqv_nkd h1 hk]
    by_cases e : x.1 = q
    · rw [decide_eq_true e]
      exact h3
    · rw [decide_eq_false e]
      exact ih
theorem nst_any {k : D} {q : NestedKey} (hk : nkD k = some q) {kvs : List (D × D)} {xs : List (NestedKey × Addr × Value)} (r : Paired (Rnst K Hc) kvs xs) : (kvs.any fun p => PyData.eqv p.1 k) = (atKey xs q).isSome := by
  induction r with
  | nil => rfl
  | @cons p x ps xs h t ih =>
    obtain ⟨h1, h0, h2, h3⟩ := h
    unfold atKey at ih ⊢
    rw [List.any_cons, List.find?_cons, eqv_nkd h1 hk, ih]
    by_cases e : x.1 = q
    · rw [decide_eq_true e]; rfl
    · rw [decide_eq_false e]; rfl
theorem nst_put {k d : D} {q : NestedKey} {b : Addr} {v : V} {w : Value} (hk : nkD k = some q) (h8 : q.depth ≤ 8) (hb : Dv K Hc (.ref b) k) (hr : RelV v w) (hd : Dv K Hc v d) {kvs : List (D × D)} {xs : List (NestedKey × Addr × Value)} (r : Paired (Rnst K Hc) kvs xs) : Paired (Rnst K Hc) (dPut kvs k d) (storedH xs q b w) := by
  have e := nst_any hk r
  unfold dPut storedH
  rw [e]
  split
  · clear e
    rename_i hany
    clear hany
    induction r with
    | nil => exact .nil
    | @cons p x ps xs h t ih =>
      rw [List.map_cons, List.map_cons]
      refine .cons ?_ ih
      obtain ⟨h1, h0, h2, h3⟩ := h
      unfold putAt
      rw [eqv_nkd h1 hk]
      by_cases e : x.1 = q
      · rw [decide_eq_true e, if_pos rfl, if_pos e]
        exact ⟨h1, h0, h2, v, hr, hd⟩
      · rw [decide_eq_false e, if_neg Bool.false_ne_true, if_neg e]
        exact ⟨h1, h0, h2, h3⟩
  · exact Paired.snoc r ⟨hk, h8, hb, v, hr, hd⟩
end
/-- the object of a dict with scalar keys; of one with tuple keys -/
def φm (a : Addr) (vs : List (Key × Value)) : Heap → Prop := fun h => (∃ o es ep, h.get? a = some o ∧ o.ExactDict ∧ o.data = .dict es ep) ∧ ∀ P w, TabL.PW = some (P, w) → h.DictOf (mixKind P w) a vs
def φn (a : Addr) (xs : List (NestedKey × Addr × Value)) : Heap → Prop := fun h => (∃ o es ep, h.get? a = some o ∧ o.ExactDict ∧ o.data = .dict es ep) ∧ ∀ P w, TabL.PW = some (P, w) → RawN P w h a xs
theorem doD_m {a : Addr} {vs : List (Key × Value)} : DoD (φm a vs) a := fun _ h => h.1
theorem doD_n {a : Addr} {xs : List (NestedKey × Addr × Value)} : DoD (φn a xs) a := fun _ h => h.1
theorem φm_ok {P : Program} {w : World} {H : Hp} {h : Heap} {a : Addr} {vs : List (Key × Value)} (hp : TabL.PW = some (P, w)) (d : h.DictOf (mixKind P w) a vs) : ObjOk P w H h a (.ext (φm a vs)) := by
  have d2 := d
  obtain ⟨o, es, ep, ho, hx, hd, _⟩ := d2
  refine ⟨⟨⟨o, es, ep, ho, hx, hd⟩, fun P' w' e => ?_⟩, ⟨o, ho⟩, fun h1 h2 ⟨q1, q2⟩ k => ⟨?_, fun P' w' e => ?_⟩⟩
  · rw [hp] at e; cases e; exact d
  · obtain ⟨o, es, ep, ho, r⟩ := q1
    exact ⟨o, es, ep, k _ ho, r⟩
  · obtain ⟨o, es, ep, ho, r⟩ := q2 P' w' e
    exact ⟨o, es, ep, k _ ho, r⟩
theorem φn_ok {P : Program} {w : World} {H : Hp} {h : Heap} {a : Addr} {xs : List (NestedKey × Addr × Value)} (hp : TabL.PW = some (P, w)) (d : RawN P w h a xs) : ObjOk P w H h a (.ext (φn a xs)) := by
  have d2 := d
  obtain ⟨o, es, ep, ho, hx, hd, _⟩ := d2
  refine ⟨⟨⟨o, es, ep, ho, hx, hd⟩, fun P' w' e => ?_⟩, ⟨o, ho⟩, fun h1 h2 ⟨q1, q2⟩ k => ⟨?_, fun P' w' e => ?_⟩⟩
  · rw [hp] at e; cases e; exact d
  · obtain ⟨o, es, ep, ho, r⟩ := q1
    exact ⟨o, es, ep, k _ ho, r⟩
  · obtain ⟨o, es, ep, ho, r⟩ := q2 P' w' e
    exact ⟨o, es, ep, k _ ho, r⟩

/-! ### at a moment -/
/-- a dict of one's own at a -/
def XD (K : PySem.W.Frag) (Hc H : Hp) (a : Addr) (kvs : List (D × D)) : Prop := ∃ φ, H a = some (.ext φ) ∧ ((a == sysModules) = false ∧ DoD φ a ∧ kvs.length ≤ 16777216) ∧ DctV K Hc a φ kvs
section
variable {X : Cx} {pins : List (Addr × Obj)} {σ : St} {Hc H : Hp} {s : Shared} {a : Addr} {kvs : List (D × D)} {A : Around} {E : Value → Shared → Prop}
theorem XD.obj (I : Inv X pins σ H s) (d : XD X.K Hc H a kvs) : ∃ o es ep, s.heap.get? a = some o ∧ o.ExactDict ∧ o.data = .dict es ep := by
  obtain ⟨φ, h1, ⟨_, h2, _⟩, _⟩ := d
  exact h2 _ (show φ s.heap from (I.hok _ _ h1).1)
theorem XD.mix (I : Inv X pins σ H s) (hp : TabL.PW = some (X.prog, X.w)) (d : XD X.K Hc H a kvs) (hk : (kvs.all fun p => scal p.1) = true) : ∃ vs, s.heap.DictOf (mixKind X.prog X.w) a vs ∧ Paired (Rmix X.K Hc) kvs vs := by
  obtain ⟨φ, h1, _, h2⟩ := d
  have hφ : φ s.heap := (I.hok _ _ h1).1
  cases h2 with
  | mix vs h r => exact ⟨vs, h _ hφ _ _ hp, r⟩
  | nst xs h r =>
    cases r with
    | nil =>
      obtain ⟨o, es, ep, ho, hx, hd, he, hn⟩ := h _ hφ _ _ hp
      have e0 : es = #[] := by
        obtain ⟨l⟩ := es
        simpa using he
      subst e0
      exact ⟨[], ⟨o, #[], ep, ho, hx, hd, (fun _ he => by simp at he), Pairs.nil, List.nodup_nil⟩, .nil⟩
    | @cons p x ps xs hc t =>
      rw [List.all_cons, Bool.and_eq_true] at hk
      obtain ⟨_, _, h3, _⟩ := hc
      generalize hp1 : p.1 = d at h3 hk
      cases h3 with
      | lst _ _ => cases hk.1
      | tup _ _ => cases hk.1
theorem nested_is (I : Inv X pins σ H s) (sub : Sub Hc H) : ∀ (d : D) (v : V) (u : Value) (k : NestedKey), Dv X.K Hc v d → RelV v u → nkD d = some k → NestedIs s.heap k u := by
  have key : ∀ (n : Nat) (d : D) (v : V) (u : Value) (k : NestedKey), sizeOf d < n → Dv X.K Hc v d → RelV v u → nkD d = some k → NestedIs s.heap k u := by
    intro n
    induction n with
    | zero => intro d v u k h; omega
    | succ n ih =>
      intro d v u k hn hd hr hk
      cases hd with
      | non =>
        rw [nkD] at hk; cases hk
        obtain rfl : u = .none := hr
        exact .none
      | bl b => rw [nkD] at hk; cases hk
      | int i =>
        rw [nkD] at hk; cases hk
        obtain ⟨t, rfl⟩ := (show ∃ t, u = Value.int i t from hr)
        exact .int i t
      | str x =>
        rw [nkD] at hk; cases hk
        obtain ⟨t, rfl⟩ := (show ∃ t, u = Value.str x t from hr)
        exact .text x t
      | lst _ _ => rw [nkD] at hk; cases hk
      | @tup b xs ds q r =>
        rw [nkD] at hk
        obtain ⟨ks, h1, rfl⟩ := Option.map_eq_some_iff.mp hk
        obtain rfl : u = .ref b := hr
        obtain ⟨its, rv, ⟨o, ho, hc, m, hdat⟩, hz⟩ := I.tuple (sub.sqT q)
        refine .tup ho hc hdat ?_
        have hs : ∀ e ∈ ds, sizeOf e < n := fun e he => by
          have := List.sizeOf_lt_of_mem he
          simp only [PyData.tuple.sizeOf_spec] at hn
          omega
        have all : ∀ (ds : List D) (vs : List V) (us : List Value) (ks : List NestedKey), (∀ e ∈ ds, sizeOf e < n) → DvAll X.K Hc vs ds → Vals vs us → nkA ds = some ks → NestedAll s.heap ks us := by
          intro ds
          induction ds with
          | nil =>
            intro vs us ks _ ha rv hk
            cases ha
            cases rv
            rw [nkA] at hk; cases hk
            exact .nil
          | cons e ds ihd =>
            intro vs us ks hs ha rv hk
            cases ha with
            | cons a1 a2 =>
              cases rv with
              | cons r1 r2 =>
                rw [nkA] at hk
                obtain ⟨k, g1, h4⟩ := Option.bind_eq_some_iff.mp hk
                obtain ⟨ks2, g2, rfl⟩ := Option.map_eq_some_iff.mp h4
                exact .cons (ih e _ _ _ (hs e (List.mem_cons_self ..)) a1 r1 g1) (ihd _ _ _ (fun e he => hs e (List.mem_cons_of_mem _ he)) a2 r2 g2)
        simpa using all ds xs its ks hs r rv h1
  exact fun d v u k => key (sizeOf d + 1) d v u k (Nat.lt_succ_self _)
theorem XD.nst (I : Inv X pins σ H s) (sub : Sub Hc H) (hp : TabL.PW = some (X.prog, X.w)) (d : XD X.K Hc H a kvs) (hk : (kvs.all fun p => isTup p.1) = true) : ∃ xs, s.heap.DictOfH (nestedKind X.prog X.w) a xs ∧ Paired (Rnst X.K Hc) kvs xs := by
  obtain ⟨φ, h1, _, h2⟩ := d
  have hφ : φ s.heap := (I.hok _ _ h1).1
  cases h2 with
  | nst xs h r =>
    obtain ⟨o, es, ep, ho, hx, hd, he, hn⟩ := h _ hφ _ _ hp
    refine ⟨xs, ⟨o, es, ep, ho, hx, hd, he, fun x hm => ?_, hn⟩, r⟩
    have all : ∀ {l : List (D × D)} {m : List (NestedKey × Addr × Value)}, Paired (Rnst X.K Hc) l m → ∀ x ∈ m, (nestedKind X.prog X.w).is s.heap x.1 x.2.1 := by
      intro l m q
      induction q with
      | nil => intro x hx; exact nomatch hx
      | @cons p q ps qs hq t ih =>
        intro x hx
        rcases List.mem_cons.mp hx with e | hx
        · subst e
          obtain ⟨z1, z2, z3, _⟩ := hq
          exact ⟨nested_is I sub _ _ _ _ z3 rfl z1, z2⟩
        · exact ih x hx
    exact all r x hm
  | mix vs h r =>
    cases r with
    | nil =>
      obtain ⟨o, es, ep, ho, hx, hd, _, hpr, _⟩ := h _ hφ _ _ hp
      have e0 : es = #[] := by
        obtain ⟨l⟩ := es
        cases hpr
        rfl
      subst e0
      exact ⟨[], ⟨o, #[], ep, ho, hx, hd, rfl, (fun _ h => nomatch h), List.nodup_nil⟩, .nil⟩
    | @cons p x ps xs hc t =>
      rw [List.all_cons, Bool.and_eq_true] at hk
      obtain ⟨h3, _⟩ := hc
      rw [h3] at hk
      generalize x.1 = q at hk
      cases q with
      | inl _ => exact absurd hk.1 (by show ¬ false = true; decide)
      | inr _ => exact absurd hk.1 (by show ¬ false = true; decide)
/-- a key's two kinds -/
theorem keyOk_cases {k : D} (h : keyOk kvs k = true) : (∃ q, keyOf k = some q ∧ (kvs.all fun p => scal p.1) = true) ∨ ∃ q, nkD k = some q ∧ q.depth ≤ 8 ∧ isTup k = true ∧ (kvs.all fun p => isTup p.1) = true := by
  unfold keyOk at h
  rw [Bool.or_eq_true, Bool.and_eq_true, Bool.and_eq_true] at h
  rcases h with ⟨h1, h2⟩ | ⟨h1, h2⟩
  · unfold scal at h1
    obtain ⟨q, hq⟩ := Option.isSome_iff_exists.mp h1
    exact .inl ⟨q, hq, h2⟩
  · unfold nkOk at h1
    split at h1
    · rename_i q hq
      rw [Bool.and_eq_true, decide_eq_true_eq] at h1
      exact .inr ⟨q, hq, h1.2, h1.1, h2⟩
    · cases h1
theorem scal_val {k : D} {q : Key} {y : V} {u : Value} (hk : keyOf k = some q) (hd : Dv X.K Hc y k) (hr : RelV y u) : (mixKind X.prog X.w).is q u = true := by
  have e := keyD_of hk
  subst e
  cases q with
  | inl i => cases hd; exact kV_is (k := .inl i) hr
  | inr x => cases hd; exact kV_is (k := .inr x) hr
theorem tup_val {k : D} {y : V} {u : Value} (hk : isTup k = true) (hd : Dv X.K Hc y k) (hr : RelV y u) : ∃ b, y = .ref b ∧ u = .ref b := by
  cases hd with
  | tup q r => exact ⟨_, rfl, hr⟩
  | lst q r => cases hk
  | non => cases hk
  | bl b => cases hk
  | int i => cases hk
  | str x => cases hk
/-- d.get(k, z) -/
theorem xd_get2 {k z : D} {y v : V} {u r : Value} {Q : Value → Shared → Prop} (hu : A.units + 1 + 8 < cLine) (I : Inv X pins σ H s) (sub : Sub Hc H) (hp : TabL.PW = some (X.prog, X.w)) (d : XD X.K Hc H a kvs) (hk : keyOk kvs k = true) (hy : Dv X.K Hc y k) (ry : RelV y u) (hv : Dv X.K Hc v z) (rv : RelV v r)
    (h : ∀ w' s', Inv X pins σ H s' → (∃ v, RelV v w' ∧ Dv X.K Hc v ((dAt kvs k).getD z)) → Q w' s') : wpAny (model X.prog X.w) A (call (.builtin "dict.get") [.ref a, u, r]) Q E s := by
  have hd : (a == sysModules) = false := by obtain ⟨_, _, ⟨q, _⟩, _⟩ := d; exact q
  rcases keyOk_cases hk with ⟨q, hq, hall⟩ | ⟨q, hq, h8, ht, hall⟩
  · obtain ⟨vs, dd, rel⟩ := d.mix I hp hall
    exact call_meetsIn PySem.F.slot_dict_get dd.typeIs PySem.F.entry_dict_get (PySem.F.args_dict_get_3 _ _ _) (meets_dict_get_default (mixKind X.prog X.w) a (scal_val hq hy ry) hd r) ⟨_, dd.mapOf, h _ _ (I.tok _) ((mix_at hq rel).getD rv hv)⟩
  · obtain ⟨xs, dd, rel⟩ := d.nst I sub hp hall
    obtain ⟨b, rfl, rfl⟩ := tup_val ht hy ry
    exact call_meetsIn PySem.F.slot_dict_get dd.typeIs PySem.F.entry_dict_get (PySem.F.args_dict_get_3 _ _ _) (meetsH_dict_get_default (nestedKind X.prog X.w) a b hd r) ⟨hu, q, xs, ⟨nested_is I sub _ _ _ _ hy rfl hq, h8⟩, dd, h _ _ (I.tok _) ((nst_at hq rel).getD rv hv)⟩
/-- d[k], there -/
theorem xd_getItem {k z : D} {y : V} {u : Value} {Q : Value → Shared → Prop} (hu : A.units + 1 + 8 < cLine) (I : Inv X pins σ H s) (sub : Sub Hc H) (hp : TabL.PW = some (X.prog, X.w)) (d : XD X.K Hc H a kvs) (hk : keyOk kvs k = true) (hz : dAt kvs k = some z) (hy : Dv X.K Hc y k) (ry : RelV y u)
    (h : ∀ w' s', Inv X pins σ H s' → (∃ v, RelV v w' ∧ Dv X.K Hc v z) → Q w' s') : wpAny (model X.prog X.w) A (getItem (.ref a) u) Q E s := by
  rcases keyOk_cases hk with ⟨q, hq, hall⟩ | ⟨q, hq, h8, ht, hall⟩
  · obtain ⟨vs, dd, rel⟩ := d.mix I hp hall
    have o := mix_at hq rel
    rw [hz] at o
    cases hw : valueAt vs q with
    | none => rw [hw] at o; exact o.elim
    | some w' => rw [hw] at o; exact wpAny_getItem_of (scal_val hq hy ry) dd.mapOf hw (h w' _ (I.tok _) o)
  · obtain ⟨xs, dd, rel⟩ := d.nst I sub hp hall
    obtain ⟨b, rfl, rfl⟩ := tup_val ht hy ry
    have o := nst_at hq rel
    rw [hz] at o
    cases hw : atKey xs q with
    | none => rw [hw] at o; exact o.elim
    | some w' => rw [hw] at o; exact wpAny_getItem_heap (knd := nestedKind X.prog X.w) hu ⟨nested_is I sub _ _ _ _ hy rfl hq, h8⟩ dd hw (h _ _ (I.tok _) o)
/-- k in d, k not in d -/
theorem xd_in {neg : Bool} {k : D} {y : V} {u : Value} {Q : Value → Shared → Prop} (hu : A.units + 1 + 8 < cLine) (I : Inv X pins σ H s) (sub : Sub Hc H) (hp : TabL.PW = some (X.prog, X.w)) (d : XD X.K Hc H a kvs) (hk : keyOk kvs k = true) (hy : Dv X.K Hc y k) (ry : RelV y u)
    (h : ∀ s', Inv X pins σ H s' → Q (.bool (if neg = true then !(dAt kvs k).isSome else (dAt kvs k).isSome)) s') : wpAny (model X.prog X.w) A (compareOp (if neg = true then .NotIn else .In) u (.ref a)) Q E s := by
  have hd : (a == sysModules) = false := by obtain ⟨_, _, ⟨q, _⟩, _⟩ := d; exact q
  rcases keyOk_cases hk with ⟨q, hq, hall⟩ | ⟨q, hq, h8, ht, hall⟩
  · obtain ⟨vs, dd, rel⟩ := d.mix I hp hall
    have o := (mix_at hq rel).isSome
    rw [o] at h
    cases neg with
    | false => exact wpAny_in_of (scal_val hq hy ry) hd dd.mapOf (h _ (I.tok _))
    | true => exact wpAny_notIn_of (scal_val hq hy ry) hd dd.mapOf (h _ (I.tok _))
  · obtain ⟨xs, dd, rel⟩ := d.nst I sub hp hall
    obtain ⟨b, rfl, rfl⟩ := tup_val ht hy ry
    have o := (nst_at hq rel).isSome
    rw [Option.isSome_map] at o
    rw [o] at h
    cases neg with
    | false => exact wpAny_in_heap (knd := nestedKind X.prog X.w) hu ⟨nested_is I sub _ _ _ _ hy rfl hq, h8⟩ hd dd (h _ (I.tok _))
    | true => exact wpAny_notIn_heap (knd := nestedKind X.prog X.w) hu ⟨nested_is I sub _ _ _ _ hy rfl hq, h8⟩ hd dd (h _ (I.tok _))
/-- d[k] = z -/
theorem xd_setItem {k z : D} {y v : V} {u r : Value} {Q : Unit → Shared → Prop} (hu : A.units + 1 + 8 < cLine) (I : Inv X pins σ H s) (sub : Sub Hc H) (hp : TabL.PW = some (X.prog, X.w)) (d : XD X.K Hc H a kvs) (hk : keyOk kvs k = true) (hl : (dPut kvs k z).length ≤ 16777216) (hy : Dv X.K Hc y k) (ry : RelV y u) (hv : Dv X.K Hc v z) (rv : RelV v r)
    (h : ∀ s' ψ, Inv X pins σ (upd H a (.ext ψ)) s' → ((a == sysModules) = false ∧ DoD ψ a ∧ (dPut kvs k z).length ≤ 16777216) → DctV X.K Hc a ψ (dPut kvs k z) → Q () s') : wpAny (model X.prog X.w) A (setItem (.ref a) u r) Q E s := by
  have hd : (a == sysModules) = false := by obtain ⟨_, _, ⟨q, _⟩, _⟩ := d; exact q
  have hlen : kvs.length ≤ 16777216 := by obtain ⟨_, _, ⟨_, _, q⟩, _⟩ := d; exact q
  have mu : Mut (H a) := by obtain ⟨φ, q, _⟩ := d; rw [q]; exact True.intro
  rcases keyOk_cases hk with ⟨q, hq, hall⟩ | ⟨q, hq, h8, ht, hall⟩
  · obtain ⟨vs, dd, rel⟩ := d.mix I hp hall
    have rel2 := mix_put hq rv hv rel
    refine wpAny_setItem_pairs (hsz := by rw [← Paired.length rel, sizeLine_eq]; exact hlen) (scal_val hq hy ry) dd fun h' dd' hs => h _ (φm a (stored vs q r)) ?_ ⟨hd, doD_m, hl⟩ (.mix _ (fun h z P w e => z.2 P w e) rel2)
    have he : ∃ q, h'.get? a = some q := let ⟨q, _, _, hq, _⟩ := dd'; ⟨q, hq⟩
    exact d_write I mu hs he (φm_ok hp dd')
  · obtain ⟨xs, dd, rel⟩ := d.nst I sub hp hall
    obtain ⟨b, rfl, rfl⟩ := tup_val ht hy ry
    have rel2 := nst_put hq h8 hy rv hv rel
    refine wpAny_setItem_heap (knd := nestedKind X.prog X.w) (hsz := by rw [← Paired.length rel, sizeLine_eq]; exact hlen) hu ⟨nested_is I sub _ _ _ _ hy rfl hq, h8⟩ dd fun h' dd' hs => h _ (φn a (storedH xs q b r)) ?_ ⟨hd, doD_n, hl⟩ (.nst _ (fun h z P w e => z.2 P w e) rel2)
    obtain ⟨o, es, ep, ho, hx, hdat, hes, _, hn⟩ := dd'
    exact d_write I mu hs ⟨o, ho⟩ (φn_ok hp ⟨o, es, ep, ho, hx, hdat, hes, hn⟩)
/-- len(d) -/
theorem xd_len {Q : Value → Shared → Prop} (I : Inv X pins σ H s) (sub : Sub Hc H) (hp : TabL.PW = some (X.prog, X.w)) (d : XD X.K Hc H a kvs) (hk : ((kvs.all fun p => scal p.1) || kvs.all fun p => isTup p.1) = true)
    (h : ∀ t s', Inv X pins σ H s' → Q (.int kvs.length t) s') : wpAny (model X.prog X.w) A (call (.builtin "len") [.ref a]) Q E s := by
  have hd : (a == sysModules) = false := by obtain ⟨_, _, ⟨q, _⟩, _⟩ := d; exact q
  have hlen : kvs.length ≤ 16777216 := by obtain ⟨_, _, ⟨_, _, q⟩, _⟩ := d; exact q
  rw [Bool.or_eq_true] at hk
  rcases hk with hall | hall
  · obtain ⟨vs, dd, rel⟩ := d.mix I hp hall
    have e := Paired.length rel
    refine call_len_dict hd dd (by rw [← e]; omega) ?_
    rw [← e]
    exact h _ _ (I.tok _)
  · obtain ⟨xs, dd, rel⟩ := d.nst I sub hp hall
    have e := Paired.length rel
    refine call_len_dictH hd dd (by rw [← e]; omega) ?_
    rw [← e]
    exact h _ _ (I.tok _)
end
end L2.DL

set_option Elab.async false
set_option linter.all false
set_option maxRecDepth 100000
set_option maxHeartbeats 2000000
/-! D layer 14l: dicts of one's own: expressions and statements. -/
namespace L2.DL
open PySem PySem.Spec PyProof.Rows
variable [TabL]

theorem XD.mono {K : PySem.W.Frag} {Hc Hc' H : Hp} {a : Addr} {kvs : List (D × D)} (d : XD K Hc H a kvs) (s : Sub Hc Hc') : XD K Hc' H a kvs := by
  obtain ⟨φ, h1, h2, h3⟩ := d
  exact ⟨φ, h1, h2, h3.sub s⟩
theorem slot_dct {K : PySem.W.Frag} {ad : Nat → Addr} {da : Option Addr} {Hc H : Hp} {σ : St} {env : En} {s : Dr} {i : Nat} {kvs : List (D × D)} (e : ER K ad da Hc H σ env s) (hx : env[i]? = some (.dct kvs)) : σ[i]? = some (some (.ref (ad i))) ∧ XD K Hc H (ad i) kvs ∧ Hc (ad i) = none := by
  obtain ⟨φ, h1, h2, h3, h5, h6⟩ := e.slot i _ hx
  exact ⟨h1, ⟨φ, h2, h3, h5⟩, h6⟩
/-- with a dict of one's own -/
def onDct {α : Type} (i : Nat) (env : En) (f : List (D × D) → R (α × Dr)) : R (α × Dr) := match env[i]? with
  | some (.dct kvs) => f kvs
  | _ => .stuck
theorem onDct_or {α : Type} (i : Nat) (env : En) (f : List (D × D) → R (α × Dr)) : (∃ kvs, env[i]? = some (.dct kvs) ∧ onDct i env f = f kvs) ∨ onDct i env f = .stuck := by
  unfold onDct
  split
  · rename_i xs hx; exact .inl ⟨xs, hx, rfl⟩
  · exact .inr rfl

/-! ### method calls -/
def tXM (r : V → List V → Hp → VK → Prop) (to : TE) (t : TA) : TE := fun σ H Q => to σ H fun x H1 => (∃ a φ, x = .ref a ∧ H1 a = some (.ext φ) ∧ DoD φ a) ∧ t σ H1 fun xs H2 => r x xs H2 Q
theorem xd_type {X : Cx} {pins : List (Addr × Obj)} {σ : St} {H : Hp} {s : Shared} {x : V} {v : Value} (I : Inv X pins σ H s) (r : RelV x v) (h : ∃ a φ, x = .ref a ∧ H a = some (.ext φ) ∧ DoD φ a) : s.TypeIs v "dict" ∧ ∀ a, v = .ref a → ∃ ob, s.heap.get? a = some ob ∧ ob.dict = none := by
  obtain ⟨a, φ, rfl, h1, h2⟩ := h
  obtain rfl : v = .ref a := r
  obtain ⟨o, es, ep, ho, hx, _⟩ := h2 _ (show φ s.heap from (I.hok _ _ h1).1)
  refine ⟨⟨o, ho, hx.1⟩, fun b e => ?_⟩
  cases e
  exact ⟨o, ho, hx.2.1⟩
section
variable {X : Cx} {o e : Expr} {es : List Expr} {to : TE} {t : TA} {name : Str} {apos cpos : Pos} {id : String} {r : V → List V → Hp → VK → Prop}
theorem pe_xm (slot : Slot "dict" name id) (hty : typeOf (.builtin id) = pure (.type "method_descriptor")) (hm : MtR X id r) (ho : PE X o to) (ha : PA X (e :: es) t)
    (hbase : attributeBase o name X.env (eval o X.env) = eval o X.env)
    (hfew : ((backTo cpos (starEach (e :: es) X.env)).all (fun x => !x.1) && (backToKw cpos (keywordEach [] X.env)).all (fun x => x.1.isSome)
      && decide ((e :: es).length + ([] : List Keyword).length + (if ([] : List Keyword).isEmpty then 0 else 1) < 30)) = true)
    (hline : (apos.endLine == cpos.line) = true) (hs : starEach (e :: es) X.env = (false, eval e X.env) :: starEach es X.env) (hplain : (backTo cpos (starEach es X.env)).any (·.1) = false) :
    PE X (.Call (.Attribute o name apos) (e :: es) [] cpos) (tXM r to t) := by
  refine ⟨fun pins s σ H Q I h => ?_⟩
  refine wpAny_Call_method_late hbase hfew hline rfl (thn (ho.run pins s σ H _ I h) fun v s1 ⟨x, H1, I1, r1, ty, q1⟩ => ?_)
  obtain ⟨h1, h2⟩ := xd_type I1 r1 ty
  refine ⟨"dict", id, F.plainAttrs_dict, slot, hty, h1, h2, ?_⟩
  have hA := ha.run cpos pins s1 σ H1 _ I1 q1
  rw [hs] at hA ⊢
  refine Calls.callWith_builtin (by show (false || (backTo cpos (starEach es X.env)).any (·.1)) = false; rw [hplain] <;> rfl) (Calls.evalArgs_plain ?_)
  exact thn hA fun us s2 ⟨vs, H2, I2, r2, q2⟩ => hm pins s2 σ H2 x vs v us Q I2 r1 r2 q2
end
def rXGet (K : PySem.W.Frag) : V → List V → Hp → VK → Prop := fun x vs H Q => ∃ (a : Addr) (Hc : Hp) (kvs : List (D × D)) (y v : V) (k z : D), x = .ref a ∧ vs = [y, v] ∧ Sub Hc H ∧ XD K Hc H a kvs ∧ keyOk kvs k = true ∧ Dv K Hc y k ∧ Dv K Hc v z ∧ ∀ w, Dv K Hc w ((dAt kvs k).getD z) → Q w H
section
variable {X : Cx} {E : XK} {C : Addr} {e a b c o : Expr} {es : List Expr} {pos apos cpos p0 : Pos} {i : Nat} {x : Str}
theorem mt_xget (hu : X.A.units + 1 + 8 < cLine) (hp : TabL.PW = some (X.prog, X.w)) : MtR X "dict.get" (rXGet X.K) := by
  intro pins s σ H x xs v us Q I rx rxs h
  obtain ⟨a, Hc, kvs, y, v', k, z, rfl, rfl, sub, d, hk, hy, hv, q⟩ := h
  obtain rfl : v = .ref a := rx
  obtain ⟨u1, u2, rfl, r1, r2⟩ := vals2 rxs
  exact xd_get2 hu I sub hp d hk hy r1 hv r2 fun w' s' I' ⟨w, rw', hw⟩ => ⟨w, H, I', rw', q w hw⟩
def gDGet (kvs : List (D × D)) (k z : D) : Option D := if keyOk kvs k = true then some ((dAt kvs k).getD z) else none
def evDGet (i : Nat) (fa fb : Ev D) : Ev D := fun env s => onDct i env fun kvs => (fa env s).bind fun p => (fb env p.2).bind fun q => (R.ofO (gDGet kvs p.1 q.1)).bind fun z => .ok (z, q.2)
/-- the premises of a method's call with two arguments -/
structure MethE2 (X : Cx) (a b : Expr) (o : Expr) (name : Str) (apos cpos : Pos) : Prop where
  hbase : attributeBase o name X.env (eval o X.env) = eval o X.env
  hline : (apos.endLine == cpos.line) = true
  hs : starEach [a, b] X.env = (false, eval a X.env) :: starEach [b] X.env
  hs2 : starEach [b] X.env = (false, eval b X.env) :: starEach [] X.env
theorem de_dget {fa fb : Ev D} (hu : X.A.units + 1 + 8 < cLine) (hp : TabL.PW = some (X.prog, X.w)) (hN : X.N[i]? = some x) (hv : Vis X.env.scope x) (hd : (x == ("__debug__" : Str)) = false) (hcd : (x == ("__classdict__" : Str)) = false) (ha : DE X E C a fa) (hb : DE X E C b fb) (ok : MethE2 X a b (.Name x p0) "get" apos cpos) :
    DE X E C (.Call (.Attribute (.Name x p0) "get" apos) [a, b] [] cpos) (evDGet i fa fb) := by
  obtain ⟨ta, pa, ra⟩ := ha
  obtain ⟨tb, pb, rb⟩ := hb
  refine ⟨_, pe_xm F.slot_dict_get F.type_dict_get (mt_xget hu hp) (pe_var hN hv hd hcd) (pa_cons pa (pa_cons pb pa_nil ok.hs2) ok.hs) ok.hbase (by rw [ok.hs, ok.hs2]; rfl) ok.hline ok.hs (by rw [ok.hs2]; rfl), fun ad da Hc H σ env s Q er q => ?_⟩
  unfold evDGet at q
  rcases onDct_or i env (fun kvs => (fa env s).bind fun p => (fb env p.2).bind fun q => (R.ofO (gDGet kvs p.1 q.1)).bind fun z => R.ok (z, q.2)) with ⟨kvs, hx, e2⟩ | e2
  · rw [e2] at q
    obtain ⟨q1, q2, _⟩ := slot_dct er hx
    have q3 := q2
    obtain ⟨φ, w1, ⟨_, w2, _⟩, _⟩ := q3
    refine ⟨_, q1, ⟨_, φ, rfl, w1, w2⟩, ?_⟩
    refine ra ad da Hc H σ env s _ er (Post.bind q fun d s1 _ v Hc1 H1 n1 e1 p1 h1 => ?_)
    refine rb ad da Hc1 H1 σ env s1 _ e1 (Post.bind h1 fun d2 s2 _ v2 Hc2 H2 n2 e2 p2 h2 => ?_)
    obtain ⟨_, d2', _⟩ := slot_dct e2 hx
    cases hg : gDGet kvs d d2 with
    | none => rw [hg] at h2; exact h2.elim
    | some z =>
      rw [hg] at h2
      unfold gDGet at hg
      split at hg
      · rename_i hk
        cases hg
        exact ⟨ad i, Hc2, kvs, v, v2, d, d2, rfl, rfl, e2.sub, d2', hk, n2.sub.dv p1, p2, fun w hw => h2 w Hc2 H2 Nx.refl e2 hw⟩
      · cases hg
  · rw [e2] at q; exact q.elim

/-! ### x[k] -/
def gDIx (kvs : List (D × D)) (k : D) : Option D := if keyOk kvs k = true then dAt kvs k else none
def evDIx (i : Nat) (fa : Ev D) : Ev D := fun env s => onDct i env fun kvs => (fa env s).bind fun p => (R.ofO (gDIx kvs p.1)).bind fun z => .ok (z, p.2)
def tDIx (K : PySem.W.Frag) (to ta : TE) : TE := fun σ H Q => to σ H fun x H1 => ta σ H1 fun y H2 => ∃ (a : Addr) (Hc : Hp) (kvs : List (D × D)) (k z : D), x = .ref a ∧ Sub Hc H2 ∧ XD K Hc H2 a kvs ∧ keyOk kvs k = true ∧ dAt kvs k = some z ∧ Dv K Hc y k ∧ ∀ w, Dv K Hc w z → Q w H2
theorem pe_dix {to ta : TE} (hu : X.A.units + 1 + 8 < cLine) (hp : TabL.PW = some (X.prog, X.w)) (ho : PE X o to) (hi : PE X a ta) (hs : NoSl a) : PE X (.Subscript o a pos) (tDIx X.K to ta) := by
  refine ⟨fun pins s σ H Q I h => ?_⟩
  refine subD_of PySem.F.slot_dict_getitem.lookup hs (thn (ho.run pins s σ H _ I h) fun u s1 ⟨x, H1, I1, rx, q1⟩ => thn (hi.run pins s1 σ H1 _ I1 q1) fun iv s2 ⟨y, H2, I2, ry, a, Hc, kvs, k, z, ex, sub, d, hk, hz, hy, q2⟩ => ?_)
  subst ex
  obtain rfl : u = Value.ref a := rx
  obtain ⟨o, es, ep, ho, hx, _⟩ := d.obj I2
  exact ⟨⟨o, ho, hx.1⟩, xd_getItem hu I2 sub hp d hk hz hy ry fun w' s3 I3 ⟨w, rw', hw⟩ => ⟨w, H2, I3, rw', q2 w hw⟩⟩
theorem de_dix {fa : Ev D} (hu : X.A.units + 1 + 8 < cLine) (hp : TabL.PW = some (X.prog, X.w)) (hN : X.N[i]? = some x) (hv : Vis X.env.scope x) (hd : (x == ("__debug__" : Str)) = false) (hcd : (x == ("__classdict__" : Str)) = false) (ha : DE X E C a fa) (hs : NoSl a) :
    DE X E C (.Subscript (.Name x p0) a pos) (evDIx i fa) := by
  obtain ⟨ta, pa, ra⟩ := ha
  refine ⟨_, pe_dix hu hp (pe_var hN hv hd hcd) pa hs, fun ad da Hc H σ env s Q er q => ?_⟩
  unfold evDIx at q
  rcases onDct_or i env (fun kvs => (fa env s).bind fun p => (R.ofO (gDIx kvs p.1)).bind fun z => R.ok (z, p.2)) with ⟨kvs, hx, e2⟩ | e2
  · rw [e2] at q
    obtain ⟨q1, q2, _⟩ := slot_dct er hx
    refine ⟨_, q1, ?_⟩
    refine ra ad da Hc H σ env s _ er (Post.bind q fun d s1 _ v Hc1 H1 n1 e1 p1 h1 => ?_)
    obtain ⟨_, d2', _⟩ := slot_dct e1 hx
    cases hg : gDIx kvs d with
    | none => rw [hg] at h1; exact h1.elim
    | some z =>
      rw [hg] at h1
      unfold gDIx at hg
      split at hg
      · rename_i hk
        exact ⟨ad i, Hc1, kvs, d, z, rfl, e1.sub, d2', hk, hg, p1, fun w hw => h1 w Hc1 H1 Nx.refl e1 hw⟩
      · cases hg
  · rw [e2] at q; exact q.elim

/-! ### k in x -/
def gDIn (neg : Bool) (kvs : List (D × D)) (k : D) : Option D := if keyOk kvs k = true then some (.bool (if neg = true then !(dAt kvs k).isSome else (dAt kvs k).isSome)) else none
def evDIn (neg : Bool) (i : Nat) (fa : Ev D) : Ev D := fun env s => onDct i env fun kvs => (fa env s).bind fun p => (R.ofO (gDIn neg kvs p.1)).bind fun z => .ok (z, p.2)
def rDIn (K : PySem.W.Frag) (neg : Bool) : R2 := fun y x H Q => ∃ (a : Addr) (Hc : Hp) (kvs : List (D × D)) (k : D), x = .ref a ∧ Sub Hc H ∧ XD K Hc H a kvs ∧ keyOk kvs k = true ∧ Dv K Hc y k ∧ Q (.bl (if neg = true then !(dAt kvs k).isSome else (dAt kvs k).isSome)) H
theorem op_din (neg : Bool) (hu : X.A.units + 1 + 8 < cLine) (hp : TabL.PW = some (X.prog, X.w)) : OpR X (compareOp (if neg = true then .NotIn else .In)) (rDIn X.K neg) := by
  intro pins s σ H y x u v Q I ry rx h
  obtain ⟨a, Hc, kvs, k, rfl, sub, d, hk, hy, q⟩ := h
  obtain rfl : v = .ref a := rx
  exact xd_in hu I sub hp d hk hy ry fun s' I' => ⟨.bl _, H, I', rfl, q⟩
theorem din_read (neg : Bool) {fa : Ev D} {ta : TE} (ra : RE X E C ta fa) : RE X E C (tOp (rDIn X.K neg) ta (tVar i)) (evDIn neg i fa) := fun ad da Hc H σ env s Q er q => by
  unfold evDIn at q
  rcases onDct_or i env (fun kvs => (fa env s).bind fun p => (R.ofO (gDIn neg kvs p.1)).bind fun z => R.ok (z, p.2)) with ⟨kvs, hx, e2⟩ | e2
  · rw [e2] at q
    refine ra ad da Hc H σ env s _ er (Post.bind q fun d s1 _ v Hc1 H1 n1 e1 p1 h1 => ?_)
    obtain ⟨q1, d2', _⟩ := slot_dct e1 hx
    refine ⟨_, q1, ?_⟩
    cases hg : gDIn neg kvs d with
    | none => rw [hg] at h1; exact h1.elim
    | some z =>
      rw [hg] at h1
      unfold gDIn at hg
      split at hg
      · rename_i hk
        cases hg
        exact ⟨ad i, Hc1, kvs, d, rfl, e1.sub, d2', hk, p1, h1 _ Hc1 H1 Nx.refl e1 (.bl _)⟩
      · cases hg
  · rw [e2] at q; exact q.elim
theorem de_din (neg : Bool) {fa : Ev D} (hu : X.A.units + 1 + 8 < cLine) (hp : TabL.PW = some (X.prog, X.w)) (hN : X.N[i]? = some x) (hv : Vis X.env.scope x) (hd : (x == ("__debug__" : Str)) = false) (hcd : (x == ("__classdict__" : Str)) = false) (ha : DE X E C a fa)
    (hm : behindInMarks (if neg = true then .NotIn else .In) (.Name x p0) = false) : DE X E C (.Compare a [if neg = true then .NotIn else .In] [.Name x p0] pos) (evDIn neg i fa) := by
  obtain ⟨ta, pa, ra⟩ := ha
  exact ⟨_, pe_cmpR (op_din neg hu hp) pa (pe_var hN hv hd hcd) hm, din_read neg ra⟩
theorem dt_din (neg : Bool) {fa : Ev D} (hu : X.A.units + 1 + 8 < cLine) (hp : TabL.PW = some (X.prog, X.w)) (hN : X.N[i]? = some x) (hv : Vis X.env.scope x) (hd : (x == ("__debug__" : Str)) = false) (hcd : (x == ("__classdict__" : Str)) = false) (ha : DE X E C a fa)
    (hm : behindInMarks (if neg = true then .NotIn else .In) (.Name x p0) = false) : DT X E C (.Compare a [if neg = true then .NotIn else .In] [.Name x p0] pos) (evB (evDIn neg i fa)) := by
  obtain ⟨ta, pa, ra⟩ := ha
  refine ⟨_, pt_cmpR (op_din neg hu hp) pa (pe_var hN hv hd hcd) hm, fun ad da Hc H σ env s Q er q => ?_⟩
  refine din_read neg ra ad da Hc H σ env s _ er (Post.bind q fun d s1 _ v Hc1 H1 n1 e1 p1 q1 => ?_)
  cases d with
  | bool k =>
    cases p1
    exact ⟨k, rfl, q1 k Hc1 H1 Nx.refl e1 rfl⟩
  | none => exact q1.elim
  | int _ => exact q1.elim
  | str _ => exact q1.elim
  | list _ => exact q1.elim
  | tuple _ => exact q1.elim
  | dict _ => exact q1.elim

/-! ### len(x) -/
def flv (kvs : List (D × D)) : Bool := (kvs.all fun p => scal p.1) || kvs.all fun p => isTup p.1
def evDLen (i : Nat) : Ev D := fun env s => onDct i env fun kvs => if flv kvs = true then .ok (.int kvs.length, s) else .stuck
def rDLen (K : PySem.W.Frag) : List V → Hp → VK → Prop := fun vs H Q => ∃ (a : Addr) (Hc : Hp) (kvs : List (D × D)), vs = [.ref a] ∧ Sub Hc H ∧ XD K Hc H a kvs ∧ flv kvs = true ∧ Q (.int kvs.length) H
theorem cr_dlen (hp : TabL.PW = some (X.prog, X.w)) : CallR X (.builtin "len") (rDLen X.K) := by
  intro pins s σ H xs us Q I r h
  obtain ⟨a, Hc, kvs, rfl, sub, d, hk, q⟩ := h
  obtain rfl := Vals.ref1 r
  exact xd_len I sub hp d hk fun t s' I' => ⟨.int (kvs.length : Int), H, I', ⟨t, rfl⟩, q⟩
theorem de_dlen {p : Pos} (hp : TabL.PW = some (X.prog, X.w)) (hN : X.N[i]? = some x) (hv : Vis X.env.scope x) (hd : (x == ("__debug__" : Str)) = false) (hcd : (x == ("__classdict__" : Str)) = false) (hg : Gl X "len") (hm : X.mg "len" = none) (hs : starEach [.Name x p0] X.env = (false, eval (.Name x p0) X.env) :: starEach [] X.env) :
    DE X E C (.Call (.Name "len" p) [.Name x p0] [] pos) (evDLen i) := by
  refine ⟨_, pe_callB (cr_dlen hp) hg hm PySem.boot_len (pa_cons (pe_var hN hv hd hcd) pa_nil hs) (by decide +kernel) (by decide +kernel) hs rfl, fun ad da Hc H σ env s Q er q => ?_⟩
  unfold evDLen at q
  rcases onDct_or i env (fun kvs => if flv kvs = true then R.ok (PyData.int kvs.length, s) else .stuck) with ⟨kvs, hx, e2⟩ | e2
  · rw [e2] at q
    obtain ⟨q1, d2', _⟩ := slot_dct er hx
    split at q
    · rename_i hk
      exact ⟨_, q1, ad i, Hc, kvs, rfl, er.sub, d2', hk, q _ Hc H Nx.refl er (.int _)⟩
    · exact q.elim
  · rw [e2] at q; exact q.elim

/-! ### x = {} -/
theorem ER.putX {K : PySem.W.Frag} {ad : Nat → Addr} {da : Option Addr} {Hc H : Hp} {σ : St} {env : En} {s : Dr} {i : Nat} {a : Addr} {kvs : List (DL.D × DL.D)} (e : ER K ad da Hc H σ env s) (hi : i < env.length) (h2 : XD K Hc H a kvs) (h3 : Hc a = none)
    (hn : ∀ j x, env[j]? = some x → own x = true → j ≠ i → ad j ≠ a) (hd : da ≠ some a) : ER K (fun j => if j = i then a else ad j) da Hc H (σ.set i (some (.ref a))) (env.set i (.dct kvs)) s := by
  have old : ∀ j x, (env.set i (.dct kvs))[j]? = some x → j ≠ i → env[j]? = some x := fun j x hj hne => by rwa [List.getElem?_set_ne (Ne.symm hne)] at hj
  have new : ∀ x, (env.set i (.dct kvs))[i]? = some x → x = .dct kvs := fun x hj => by rw [List.getElem?_set_self hi] at hj; exact (Option.some.inj hj).symm
  refine ⟨e.sub, by rw [List.length_set, List.length_set]; exact e.len, fun j x hj => ?_, fun j k x y hj hk ox oy ha => ?_, fun j hj => ?_, e.drA, fun j x hj ho => ?_, e.tabs, e.noT⟩
  · by_cases hji : j = i
    · subst hji
      rw [new x hj]
      simp only [if_pos]
      obtain ⟨φ, w1, w2, w3⟩ := h2
      exact ⟨φ, List.getElem?_set_self (by rw [e.len]; exact hi), w1, w2, w3, h3⟩
    · simp only [if_neg hji]
      rw [List.getElem?_set_ne (Ne.symm hji)]
      exact e.slot j x (old j x hj hji)
  · by_cases hji : j = i
    · by_cases hki : k = i
      · rw [hji, hki]
      · subst hji
        simp only [if_pos, if_neg hki] at ha
        exact absurd ha.symm (hn k y (old k y hk hki) oy hki)
    · by_cases hki : k = i
      · subst hki
        simp only [if_pos, if_neg hji] at ha
        exact absurd ha (hn j x (old j x hj hji) ox hji)
      · simp only [if_neg hji, if_neg hki] at ha
        exact e.apart j k x y (old j x hj hji) (old k y hk hki) ox oy ha
  · have hji : j ≠ i := fun z => by subst z; have := new _ hj; cases this
    simp only [if_neg hji]
    exact e.drs j (old j _ hj hji)
  · by_cases hji : j = i
    · simp only [if_pos hji]; exact hd
    · simp only [if_neg hji]; exact e.lstNe j x (old j x hj hji) ho
def tDNew : TE := fun _ H Q => ∀ p, H p = none → (p == sysModules) = false → Q (.ref p) (upd H p (.ext (φm p [])))
theorem pe_dnew (hp : TabL.PW = some (X.prog, X.w)) : PE X (.Dict [] [] pos) tDNew := ⟨fun pins s σ H Q I h =>
  wpAny_Dict_empty ⟨.ref s.heap.objs.size, _, I.laid (a := s.heap.objs.size) (o := .ext (φm s.heap.objs.size [])) (t' := s.toks) (fun _ _ q => Heap.get?_push_of_some _ q) (Nat.le_refl _) (φm_ok hp (Heap.DictOf.new s.heap)), rfl, h _ (I.hok.fresh (Nat.le_refl _)) (beq_eq_false_iff_ne.mpr (Ne.symm (Nat.ne_of_lt I.big)))⟩⟩
def sDNew (i : Nat) : Sf := fun k _ _ env s => (R.ofO (setE i (.dct []) env)).bind fun env' => k env' s
theorem ds_dnew {y : Str} {py dp : Pos} (hp : TabL.PW = some (X.prog, X.w)) (hN : X.N.Nodup) (hy : X.N[i]? = some y) (hx : Loc X.env.scope y) (hf : X.fn y = true ∨ X.env.scope.names.lookup y = some .local) (hs : swapsWithSole [.Name y py] (.Dict [] [] dp) pos.line X.env = pure false) (hw : swappedStores [.Name y py] (.Dict [] [] dp) X.env = pure none)
    (h1 : (assignEach [.Name y py] X.env).map (·.2) = [assign (.Name y py) X.env]) : DS X E C (.Assign [.Name y py] (.Dict [] [] dp) pos) (sDNew i) := by
  refine ⟨_, ps_asg (pe_dnew hp) (pg_name hN hy hx hf) hs hw h1, fun en Lk k kb kc r D σ H env s sr e G => ?_⟩
  obtain ⟨ad, Hc, x⟩ := sr
  have er := x.er
  intro a ha hsm
  unfold sDNew at e
  cases hb : setE i (.dct []) env with
  | none => rw [hb] at e; exact (G.ns e.symm).elim
  | some env' =>
    rw [hb] at e
    obtain ⟨rfl, hi, hnl⟩ := setE_eq hb
    have hn : ∀ j x, env[j]? = some x → own x = true → j ≠ i → ad j ≠ a := fun j x hj ho _ z => by
      obtain ⟨o, h5, _⟩ := er.there hj ho
      rw [z, ha] at h5
      cases h5
    have hd : en.da ≠ some a := fun z => by
      obtain ⟨⟨b, h5, _⟩, _⟩ := er.drA a z
      rw [ha] at h5; cases h5
    have h0 : NL en.H0 a := fun o z t => by
      obtain ⟨o2, z2, t2⟩ := x.nx.there a o z t
      rw [ha] at z2; cases z2
    have er2 := er.lay (o := .ext (φm a [])) ha
    have hc : Hc a = none := er.sub.none ha
    have hxd : XD X.K Hc (upd H a (.ext (φm a []))) a [] := ⟨_, upd_same, ⟨hsm, doD_m, Nat.zero_le _⟩, .mix [] (fun h z P w e => z.2 P w e) .nil⟩
    refine G.nx _ s _ (upd H a (.ext (φm a []))) ⟨_, Hc, ⟨er2.putX hi hxd hc hn hd, x.nx.trans (Nx.lay ha), fun j y hj ho => ?_, fun p hp => ?_, x.fl⟩⟩ e
    · by_cases hji : j = i
      · simp only [if_pos hji]; exact h0
      · simp only [if_neg hji]
        rw [List.getElem?_set_ne (Ne.symm hji)] at hj
        exact x.own0 j y hj ho
    · obtain ⟨h5, h6, h7⟩ := x.pins p hp
      have hne : p.i ≠ i := fun z => hnl p.xs (by rw [← z]; exact h6)
      exact ⟨by simp only [if_neg hne]; exact h5, by rw [List.getElem?_set_ne (Ne.symm hne)]; exact h6, by rw [upd_ne (ne_of_none h7 ha)]; exact h7⟩

/-! ### x[k] = e -/
theorem SRx.redct {K : PySem.W.Frag} {en : Ent} {Lk : Lks} {ad : Nat → Addr} {Hc H : Hp} {σ : St} {env : En} {s : Dr} {i : Nat} {kvs kvs' : List (DL.D × DL.D)} {ψ : Heap → Prop} (x : SRx K en Lk ad Hc env s σ H) (hx : env[i]? = some (.dct kvs)) (h3 : (ad i == sysModules) = false ∧ DoD ψ (ad i) ∧ kvs'.length ≤ 16777216) (hd : DctV K Hc (ad i) ψ kvs') :
    SRx K en Lk ad Hc (env.set i (.dct kvs')) s σ (upd H (ad i) (.ext ψ)) := by
  have e := x.er
  have hi : i < env.length := (List.getElem?_eq_some_iff.mp hx).1
  obtain ⟨φ, h1, h2, ⟨g1, g2, g3⟩, g4, h4⟩ := e.slot i _ hx
  have old : ∀ j y, (env.set i (.dct kvs'))[j]? = some y → j ≠ i → env[j]? = some y := fun j y hj hne => by rwa [List.getElem?_set_ne (Ne.symm hne)] at hj
  have new : ∀ y, (env.set i (.dct kvs'))[i]? = some y → y = .dct kvs' := fun y hj => by rw [List.getElem?_set_self hi] at hj; exact (Option.some.inj hj).symm
  have back : ∀ j y, (env.set i (.dct kvs'))[j]? = some y → ∃ z, env[j]? = some z ∧ (own y = true → own z = true) ∧ (y = .drw → z = .drw) := fun j y hj => by
    by_cases hji : j = i
    · subst hji
      rw [new y hj]
      exact ⟨_, hx, fun _ => rfl, fun z => nomatch z⟩
    · exact ⟨y, old j y hj hji, id, id⟩
  refine ⟨⟨fun b o h => ?_, by rw [List.length_set]; exact e.len, fun j y hj => ?_, fun j k y z hj hk oy oz ha => ?_, fun j hj => ?_, fun a ha => ?_, fun j y hj ho => ?_, tbs_ext g2 e.tabs h2, e.noT⟩, x.nx.writeX g2 (x.own0 i _ hx rfl) h2, fun j y hj ho => ?_, fun p hp => ?_, x.fl⟩
  · rw [upd_ne (fun z => by subst z; rw [h4] at h; cases h)]
    exact e.sub _ _ h
  · by_cases hji : j = i
    · subst hji
      rw [new y hj]
      exact ⟨ψ, h1, upd_same, h3, hd, h4⟩
    · have h := e.slot j y (old j y hj hji)
      have hne : own y = true → ad j ≠ ad i := fun oy z => hji (e.apart j i _ _ (old j _ hj hji) hx oy rfl z)
      cases y with
      | lst lk2 ys =>
        obtain ⟨ws, q1, q2, q3, q4⟩ := h
        refine ⟨ws, q1, ?_, q3, q4⟩
        rw [upd_ne (hne rfl)]
        exact q2
      | no => trivial
      | val d => exact h
      | drw => exact h
      | scr ns => exact h
      | dct _ =>
        obtain ⟨φ2, q1, q2, q3⟩ := h
        refine ⟨φ2, q1, ?_, q3⟩
        rw [upd_ne (hne rfl)]
        exact q2
  · obtain ⟨y', hy', o1, _⟩ := back j y hj
    obtain ⟨z', hz', o2, _⟩ := back k z hk
    exact e.apart j k y' z' hy' hz' (o1 oy) (o2 oz) ha
  · obtain ⟨y', hy', _, d⟩ := back j _ hj
    have := d rfl
    subst this
    exact e.drs j hy'
  · obtain ⟨⟨b, q1, q2, q3⟩, q4⟩ := e.drA a ha
    refine ⟨⟨b, ?_, q2, q3⟩, q4⟩
    rw [upd_ne (fun z => e.lstNe i _ hx rfl (by rw [ha, z]))]
    exact q1
  · obtain ⟨y', hy', o1, _⟩ := back j y hj
    exact e.lstNe j y' hy' (o1 ho)
  · by_cases hji : j = i
    · subst hji; exact x.own0 j _ hx rfl
    · exact x.own0 j y (old j y hj hji) ho
  · obtain ⟨q1, q2, q3⟩ := x.pins p hp
    have hne : p.i ≠ i := fun z => by rw [z, hx] at q2; cases q2
    refine ⟨q1, by rw [List.getElem?_set_ne (Ne.symm hne)]; exact q2, ?_⟩
    rw [upd_ne (fun z => hne (x.er.apart p.i i _ _ q2 hx rfl rfl (by rw [q1, z])))]
    exact q3
def gDPut (kvs : List (DL.D × DL.D)) (k z : DL.D) : Option (List (DL.D × DL.D)) := if (keyOk kvs k && fitB (dPut kvs k z).length) = true then some (dPut kvs k z) else none
def sDPut (i : Nat) (fa fe : Ev DL.D) : Sf := fun k _ _ env s => onDct i env fun kvs => (fe env s).bind fun p => (fa env p.2).bind fun q => (R.ofO (gDPut kvs q.1 p.1)).bind fun ys => k (env.set i (.dct ys)) q.2
def rXSet (K : PySem.W.Frag) : TSet := fun o i v H Q => ∃ (a : Addr) (Hc : Hp) (kvs : List (DL.D × DL.D)) (k z : DL.D), o = .ref a ∧ Sub Hc H ∧ XD K Hc H a kvs ∧ keyOk kvs k = true ∧ (dPut kvs k z).length ≤ 16777216 ∧ Dv K Hc i k ∧ Dv K Hc v z ∧ ∀ ψ, ((a == sysModules) = false ∧ DoD ψ a ∧ (dPut kvs k z).length ≤ 16777216) → DctV K Hc a ψ (dPut kvs k z) → Q (upd H a (.ext ψ))
theorem set_dct (hu : X.A.units + 1 + 8 < cLine) (hp : TabL.PW = some (X.prog, X.w)) : PSet X (rXSet X.K) := by
  intro pins s σ H o i v ov iv u Q I ro ri rv h
  obtain ⟨a, Hc, kvs, k, z, rfl, sub, d, hk, hl, hi, hv, q⟩ := h
  obtain rfl : ov = .ref a := ro
  exact xd_setItem hu I sub hp d hk hl hi ri hv rv fun s' ψ I' h1 h2 => ⟨_, I', q ψ h1 h2⟩
theorem ds_dput {fa fe : Ev DL.D} {pos' : Pos} (hu : X.A.units + 1 + 8 < cLine) (hp : TabL.PW = some (X.prog, X.w)) (hN : X.N[i]? = some x) (hv : Vis X.env.scope x) (hd : (x == ("__debug__" : Str)) = false) (hcd : (x == ("__classdict__" : Str)) = false) (ha : DE X E C a fa) (he : DE X E C e fe)
    (hasg : ∀ v, assign (.Subscript (.Name x p0) a pos') X.env v = (do
      let ov ← holding [v] (eval (.Name x p0) X.env)
      let iv ← holding [v, ov] (eval a X.env)
      standAt pos'
      holding [v, ov, iv] (setItem ov iv v)
      release [v, ov, iv] []))
    (hs : swapsWithSole [.Subscript (.Name x p0) a pos'] e pos.line X.env = pure false) (hw : swappedStores [.Subscript (.Name x p0) a pos'] e X.env = pure none)
    (h1 : (assignEach [.Subscript (.Name x p0) a pos'] X.env).map (·.2) = [assign (.Subscript (.Name x p0) a pos') X.env]) : DS X E C (.Assign [.Subscript (.Name x p0) a pos'] e pos) (sDPut i fa fe) := by
  obtain ⟨ta, pa, ra⟩ := ha
  obtain ⟨te, pe, re⟩ := he
  refine ⟨_, ps_asg pe (pg_sub (pe_var hN hv hd hcd) pa (set_dct hu hp) hasg) hs hw h1, fun en Lk k kb kc rr D σ H env s sr e G => ?_⟩
  obtain ⟨ad, Hc, x0⟩ := sr
  rcases onDct_or i env (fun kvs => (fe env s).bind fun p => (fa env p.2).bind fun q => (R.ofO (gDPut kvs q.1 p.1)).bind fun ys => k (env.set i (.dct ys)) q.2) with ⟨kvs, hx, e2⟩ | e2
  · have e' := e2.symm.trans e
    refine G.ev re x0 e' fun d s1 v Hc1 H1 x1 n1 p1 h => ?_
    obtain ⟨q1, _, _⟩ := slot_dct x1.er hx
    refine ⟨_, q1, ?_⟩
    refine G.ev ra x1 h fun d2 s2 v2 Hc2 H2 x2 n2 p2 h2 => ?_
    obtain ⟨_, d2', _⟩ := slot_dct x2.er hx
    have h' : (R.ofO (gDPut kvs d2 d)).bind (fun ys => k (env.set i (.dct ys)) s2) = rr := h2
    cases ho : gDPut kvs d2 d with
    | none => rw [ho] at h'; exact (G.ns h'.symm).elim
    | some ys =>
      rw [ho] at h'
      unfold gDPut at ho
      split at ho
      · rename_i hk
        rw [Bool.and_eq_true] at hk
        cases ho
        exact ⟨ad i, Hc2, kvs, d2, d, rfl, x2.er.sub, d2', hk.1, fitB_le hk.2, p2, n2.sub.dv p1, fun ψ w1 w2 => G.nx _ s2 σ _ ⟨_, _, x2.redct hx w1 w2⟩ h'⟩
      · cases ho
  · exact (G.ns (e.symm.trans e2)).elim
end
end L2.DL

set_option Elab.async false
set_option linter.all false
set_option maxRecDepth 100000
set_option maxHeartbeats 2000000
/-! D layer 14m: sorted(x.items()), x a dict of one's own. -/
namespace L2.DL
open PySem PySem.Spec PyProof.Rows PySem.Calls
variable [TabL]

def EntR (K : PySem.W.Frag) (Hc : Hp) : D × D → DictEntry → Prop := fun p e => ∃ kv vv, RelV kv e.key ∧ Dv K Hc kv p.1 ∧ RelV vv e.val ∧ Dv K Hc vv p.2
theorem keyD_dv {K : PySem.W.Frag} {Hc : Hp} {q : Key} {u : Value} (h : keyIs q u = true) : ∃ kv, RelV kv u ∧ Dv K Hc kv (keyD q) := by
  rcases keyIs_shape h with ⟨i, t, rfl, rfl⟩ | ⟨x, t, rfl, rfl⟩
  · exact ⟨.int i, ⟨t, rfl⟩, .int i⟩
  · exact ⟨.str x, ⟨t, rfl⟩, .str x⟩
theorem ents_mix {P : Program} {w : World} {K : PySem.W.Frag} {Hc : Hp} {es : List DictEntry} {vs : List (Key × Value)} (hpr : Pairs (mixKind P w) es vs) : ∀ {kvs : List (D × D)}, Paired (Rmix K Hc) kvs vs → Paired (EntR K Hc) kvs es := by
  induction hpr with
  | nil => intro kvs r; cases r; exact .nil
  | @cons e kv es vs h1 h2 _ ih =>
    intro kvs r
    cases r with
    | cons hc t =>
      obtain ⟨g1, v, g2, g3⟩ := hc
      refine .cons ?_ (ih t)
      obtain ⟨kv', w1, w2⟩ := keyD_dv (K := K) (Hc := Hc) h1
      exact ⟨kv', v, w1, by rw [g1]; exact w2, by rw [h2]; exact g2, g3⟩
theorem ents_nst {P : Program} {w : World} {K : PySem.W.Frag} {Hc : Hp} : ∀ {kvs : List (D × D)} {xs : List (NestedKey × Addr × Value)}, Paired (Rnst K Hc) kvs xs → Paired (EntR K Hc) kvs (xs.map (entryOfKey (nestedKind P w)))
  | _, _, .nil => .nil
  | _, _, .cons hc t => by
    obtain ⟨_, _, g1, v, g2, g3⟩ := hc
    exact .cons ⟨.ref _, v, rfl, g1, g2, g3⟩ (ents_nst t)
section
variable {X : Cx} {pins : List (Addr × Obj)} {σ : St} {Hc H : Hp} {s : Shared} {a : Addr} {kvs : List (D × D)}
theorem XD.ents (I : Inv X pins σ H s) (sub : Sub Hc H) (hp : TabL.PW = some (X.prog, X.w)) (d : XD X.K Hc H a kvs) (hk : flv kvs = true) : ∃ o es ep, s.heap.get? a = some o ∧ o.ExactDict ∧ o.data = .dict es ep ∧ Paired (EntR X.K Hc) kvs es.toList := by
  unfold flv at hk
  rw [Bool.or_eq_true] at hk
  rcases hk with hall | hall
  · obtain ⟨vs, ⟨o, es, ep, ho, hx, hd, _, hpr, _⟩, rel⟩ := d.mix I hp hall
    exact ⟨o, es, ep, ho, hx, hd, ents_mix hpr rel⟩
  · obtain ⟨xs, ⟨o, es, ep, ho, hx, hd, he, _, _⟩, rel⟩ := d.nst I sub hp hall
    exact ⟨o, es, ep, ho, hx, hd, by rw [he]; exact ents_nst rel⟩
end
theorem paired_get {α β : Type} {R : α → β → Prop} : ∀ {l : List α} {m : List β} {j : Nat} {b : β}, Paired R l m → m[j]? = some b → ∃ a, l[j]? = some a ∧ R a b
  | _, _, j, b, .nil, e => by simp at e
  | _, _, 0, b, .cons h _, e => by simp at e; subst e; exact ⟨_, rfl, h⟩
  | _, _, j + 1, b, .cons _ t, e => by
    obtain ⟨a, h1, h2⟩ := paired_get (j := j) t (by simpa using e)
    exact ⟨a, by simpa using h1, h2⟩
def itemsD (kvs : List (D × D)) : List D := kvs.map fun p => .tuple [p.1, p.2]
theorem dv_items {K : PySem.W.Frag} {Hc : Hp} : ∀ {as : List Addr} {kvs : List (D × D)}, as.length = kvs.length → (∀ (j : Nat) (a : Addr) (p : D × D), as[j]? = some a → kvs[j]? = some p → Dv K Hc (.ref a) (.tuple [p.1, p.2])) → DvAll K Hc (as.map V.ref) (itemsD kvs)
  | [], [], _, _ => .nil
  | [], _ :: _, h, _ => by simp at h
  | _ :: _, [], h, _ => by simp at h
  | a :: as, p :: kvs, h, f => .cons (f 0 a p rfl rfl) (dv_items (by simpa using h) fun j a p h1 h2 => f (j + 1) a p (by simpa using h1) (by simpa using h2))
/-- what stands, with the lists and tuples that are new -/
def newC (Hc H H' : Hp) : Hp := fun b => match Hc b with
  | some o => some o
  | none => match H b with
    | some _ => none
    | none => match H' b with
      | some (.lst xs) => some (.lst xs)
      | some (.tup xs) => some (.tup xs)
      | _ => none
theorem newC_old {Hc H H' : Hp} {b : Addr} {o : HO} (h : Hc b = some o) : newC Hc H H' b = some o := by
  unfold newC
  rw [h]
theorem newC_lst {Hc H H' : Hp} {b : Addr} {xs : List V} (h : Hc b = none) (h2 : H b = none) (h3 : H' b = some (.lst xs)) : newC Hc H H' b = some (.lst xs) := by
  unfold newC
  rw [h, h2, h3]
theorem newC_tup {Hc H H' : Hp} {b : Addr} {xs : List V} (h : Hc b = none) (h2 : H b = none) (h3 : H' b = some (.tup xs)) : newC Hc H H' b = some (.tup xs) := by
  unfold newC
  rw [h, h2, h3]
theorem newC_inv {Hc H H' : Hp} {b : Addr} {o : HO} (h : newC Hc H H' b = some o) : Hc b = some o ∨ (Hc b = none ∧ H b = none ∧ H' b = some o ∧ nT o) := by
  unfold newC at h
  split at h
  · rename_i o' e; cases h; exact .inl e
  · rename_i e
    split at h
    · cases h
    · rename_i e2
      split at h
      · rename_i xs e3; cases h; exact .inr ⟨e, e2, e3, nT_lst⟩
      · rename_i xs e3; cases h; exact .inr ⟨e, e2, e3, nT_tup⟩
      · cases h
theorem newC_al {Hc H H' : Hp} (s : Sub Hc H) (g : Sub H H') : Al Hc H (newC Hc H H') H' where
  sub := fun _ _ e => newC_old e
  subH := g
  sc := fun b o e => by
    rcases newC_inv e with h | ⟨_, _, h, _⟩
    · exact g _ _ (s _ _ h)
    · exact h
  fresh := fun b o e n => by
    rcases newC_inv e with h | ⟨_, h, _, _⟩
    · rw [n] at h; cases h
    · exact h
  noT := fun t b o e => by
    rcases newC_inv e with h | ⟨_, _, _, h⟩
    · exact t b o h
    · exact h
theorem vals_refs : ∀ as : List Addr, Vals (as.map V.ref) (as.map Value.ref)
  | [] => .nil
  | _ :: as => .cons rfl (vals_refs as)
section
variable {prog : Program} {w : World} {A : Around} {E : Value → Shared → Prop} {s : Shared}
/-- a list that is sorted where it stands -/
theorem sort_at {β : Type} {R : Value → β → Prop} {enc : β → PyData} {l : Addr} {its : List Value} {bs : List β} {Q : Shared → Prop} (at1 : s.heap.get? l = some (seqObj "list" its.toArray 0))
    (e : PySem.W.EachIs R its bs) (er : PySem.W.EachIs (fun v b => ∃ as, Reads s.heap v (enc b) as) its bs) (hal : PySem.W.AllAlike (bs.map enc)) (hk : PySem.W.Sortable (bs.map enc)) (hL : its.length ≤ sizeLine) (hu : ∀ b, b ∈ bs → A.units + 1 + (enc b).depth < cLine)
    (er2 : PySem.W.EachIs (fun v b => ∃ as, Reads (PySem.W.sortingHeap s.heap l its) v (enc b) as) its bs)
    (h : ∀ (out : List Value) (h' : Heap) (ep : Nat), out.length = its.length → PySem.W.EachIs R out (bs.mergeSort (PySem.W.dataLe false enc)) → (∀ b ob, b ≠ l → s.heap.get? b = some ob → h'.get? b = some ob) → h'.get? l = some { cls := .type "list", data := .seq out.toArray ep } → Q { s with heap := h' }) :
    wpAny (model prog w) A (call (.builtin "list.sort") [.ref l]) (fun _ s' => Q s') E s := by
  have S : PySem.W.SortsAt prog w A.in1 { heap := PySem.W.sortingHeap s.heap l its, gens := s.gens, drawn := s.drawn, toks := s.toks, os := s.os } (PySem.W.dataKind (PySem.W.sortingHeap s.heap l its) (bs.map enc)) its :=
    PySem.W.SortsAt.data (PySem.W.each_map (R := fun v d => ∃ as, Reads (PySem.W.sortingHeap s.heap l its) v d as) enc er2) hal hk (PySem.W.bound_map hu)
  have hs := PySem.W.sortVals_data false e er2 hal
  have hsl := (PySem.W.sortVals_length (κ := PySem.W.dataKind (PySem.W.sortingHeap s.heap l its) (bs.map enc)) (ks := its) (vs := its) false rfl)
  refine PyProof.Rows.wpAny_call_entry_kw PyProof.Rows.slot_list_sort ⟨_, at1, rfl⟩ PyProof.Rows.entry_list_sort ?srt (PyProof.Rows.args_list_sort _)
  case srt =>
    refine PySem.W.list_sort_vals at1 S hL ?_
    obtain ⟨ep, hat⟩ := PyProof.Rows.sortedHeap_at (out := (PySem.W.sortVals (PySem.W.dataKind (PySem.W.sortingHeap s.heap l its) (bs.map enc)) false its its).toArray) at1
    refine ⟨_, rfl, ?_⟩
    refine h _ _ ep hsl hs (fun b ob hb q => ?_) hat
    rw [PyProof.Rows.sortedHeap_old hb (Heap.lt_size q)]
    exact q
end
def tSItems (K : PySem.W.Frag) (to : TE) : TE := fun σ H Q => to σ H fun x H1 => ∃ (a : Addr) (Hc : Hp) (kvs : List (D × D)), x = .ref a ∧ Sub Hc H1 ∧ XD K Hc H1 a kvs ∧ flv kvs = true ∧ sortB (itemsD kvs) = true ∧ ∀ v Hc' H', Al Hc H1 Hc' H' → Dv K Hc' v (.list ((itemsD kvs).mergeSort leD)) → Q v H'
section
variable {X : Cx} {o : Expr} {to : TE} {p apos cpos pos : Pos}
theorem pe_sitems (hc : X.calm = true) (hu : X.A.units + 64 < cLine) (hp : TabL.PW = some (X.prog, X.w)) (hg : Gl X "sorted") (hm : X.mg "sorted" = none) (ho : PE X o to) (hbase : attributeBase o "items" X.env (eval o X.env) = eval o X.env) (hline : (apos.endLine == cpos.line) = true)
    (hs2 : starEach [.Call (.Attribute o "items" apos) [] [] cpos] X.env = [(false, eval (.Call (.Attribute o "items" apos) [] [] cpos) X.env)]) :
    PE X (.Call (.Name "sorted" p) [.Call (.Attribute o "items" apos) [] [] cpos] [] pos) (tSItems X.K to) := by
  refine ⟨fun pins s0 σ H0 Q I0 h => ?_⟩
  refine Call_ (ld_blt I0 hg hm PyProof.Rows.boot_sorted (PyProof.Rows.callWith_builtin1 (PyProof.Rows.args_cons ?_ hs2) hs2 rfl))
  refine wpAny_Call_method0_late hbase hline (thn (ho.run pins s0 σ H0 _ I0 h) fun u s ⟨x, H, I, rx, a, Hc, kvs, ex, sub, d, hk, hb, q⟩ => ?_)
  subst ex
  obtain rfl : u = .ref a := rx
  have d2 := d
  obtain ⟨φ, w1, ⟨hd, w2, hlen⟩, _⟩ := d2
  obtain ⟨t1, t2⟩ := xd_type I (show RelV (.ref a) (Value.ref a) from rfl) ⟨a, φ, rfl, w1, w2⟩
  refine ⟨"dict", "dict.items", F.plainAttrs_dict, F.slot_dict_items, F.type_dict_items, t1, t2, Calls.callWith_builtin rfl (PySem.evalArgs_none ?_)⟩
  obtain ⟨ob, es, ep, hob, hx, hdat, rel⟩ := d.ents I sub hp hk
  have hsz : es.size = kvs.length := by rw [← Array.length_toList, ← Paired.length rel]
  refine DT.callItems (es := es) (ep := ep) hd ⟨ob, hob, hx, hdat⟩ (PyProof.Rows.args_nil ?_)
  have hh : X.A.handled = none := I.ok.hd hc
  have view : (s.heap.push { cls := .type "dict_items", data := .fields #[.ref a] }).IsItemsView s.heap.objs.size a := ⟨_, Heap.get?_push_size _ rfl, rfl, rfl⟩
  refine DT.sortedI (s := { s with heap := s.heap.push { cls := .type "dict_items", data := .fields #[.ref a] } }) (es := es) (ep := ep) hh view (DT.Raw.push (h := s.heap) (d := a) (es := es) (ep := ep) ⟨ob, hob, hx, hdat⟩ _) (by rw [hsz, sizeLine_eq]; exact hlen) fun h' tk as hkk hlt hl hG => ?_
  dsimp only at hkk hlt hG ⊢
  have k0 : ∀ b o, s.heap.get? b = some o → h'.get? b = some o := fun b o e => hkk b o (Heap.get?_push_of_some _ e)
  have lak : as.length = kvs.length := by rw [hl, hsz]
  have nd : as.Nodup := List.Pairwise.imp (fun h => Nat.ne_of_lt h) hG.rise
  have psz : (s.heap.push { cls := .type "dict_items", data := .fields #[.ref a] }).objs.size = s.heap.objs.size + 1 := Heap.size_push ..
  rw [psz] at hlt hG
  -- the pairs that were made
  have pr : ∀ (j : Nat) (b : Addr), as[j]? = some b → ∃ (p : D × D) (kv vv : V) (uk uv : Value), kvs[j]? = some p ∧ RelV kv uk ∧ Dv X.K Hc kv p.1 ∧ RelV vv uv ∧ Dv X.K Hc vv p.2 ∧ h'.get? b = some { cls := .type "tuple", data := .seq #[uk, uv] } := by
    intro j b hj
    obtain ⟨en, he, hg⟩ := hG.pairs j b hj
    obtain ⟨p, g1, kv, vv, g2, g3, g4, g5⟩ := paired_get (j := j) (b := en) rel (by rw [Array.getElem?_toList]; exact he)
    exact ⟨p, kv, vv, _, _, g1, g2, g3, g4, g5, hg⟩
  -- the moment ahead of the sort
  obtain ⟨L, hL⟩ : ∃ L, L = h'.objs.size := ⟨_, rfl⟩
  have hob1 : (h'.push { cls := .type "list", data := .seq (as.map Value.ref).toArray }).get? h'.objs.size = some (seqObj "list" (as.map Value.ref).toArray 0) := Heap.get?_push_size _ rfl
  have ka : ∀ b o, h'.get? b = some o → (h'.push { cls := .type "list", data := .seq (as.map Value.ref).toArray }).get? b = some o := fun b o e => Heap.get?_push_of_some _ e
  have ne0 : ∀ b o, h'.get? b = some o → b ≠ h'.objs.size := fun b o e => Nat.ne_of_lt (Heap.lt_size e)
  generalize hh2 : h'.push { cls := .type "list", data := .seq (as.map Value.ref).toArray } = h2 at hob1 ka ⊢
  -- tuples in a later heap
  have track : ∀ (h3 : Heap) (tk : Nat) (H1 : Hp), Inv X pins σ H1 { s with heap := h3, toks := tk } → (∀ b o, b ≠ h'.objs.size → h'.get? b = some o → h3.get? b = some o) → (∀ b ∈ as, H1 b = none) →
      ∃ H2, Inv X pins σ H2 { s with heap := h3, toks := tk } ∧ (∀ b o, H1 b = some o → H2 b = some o) ∧ ∀ (j : Nat) (b : Addr) (p : D × D), as[j]? = some b → kvs[j]? = some p → ∃ kv vv, H2 b = some (.tup [kv, vv]) ∧ Dv X.K Hc kv p.1 ∧ Dv X.K Hc vv p.2 := by
    intro h3 tk H1 I1 kk hnone
    obtain ⟨H2, I2, g, qt⟩ := L2.DX.takeT (P := fun b vs => ∃ (j : Nat) (p : D × D) (kv vv : V), as[j]? = some b ∧ kvs[j]? = some p ∧ vs = [kv, vv] ∧ Dv X.K Hc kv p.1 ∧ Dv X.K Hc vv p.2) I as H1 I1 nd fun b hbm => by
      obtain ⟨j, hj⟩ := List.mem_iff_getElem?.mp hbm
      obtain ⟨p, kv, vv, uk, uv, g1, g2, g3, g4, g5, hg⟩ := pr j b hj
      refine ⟨Nat.le_of_lt (Nat.lt_trans (Nat.lt_succ_self _) (hG.above b hbm)), hnone b hbm, [kv, vv], ⟨j, p, kv, vv, hj, g1, rfl, g3, g5⟩, fun H3 => ⟨(by rw [sizeLine_eq]; show 2 ≤ 16777216; omega), [uk, uv], .cons g2 (.cons g4 .nil), ⟨_, kk _ _ (ne0 _ _ hg) hg, rfl, 0, rfl⟩⟩⟩
    refine ⟨H2, I2, g, fun j b p hj hpj => ?_⟩
    obtain ⟨vs, ⟨j2, p2, kv, vv, j1, j3, rfl, j4, j5⟩, hH⟩ := qt b (List.mem_of_getElem? hj)
    have eij : j = j2 := (List.getElem?_inj (List.getElem?_eq_some_iff.mp hj).1 nd).mp (hj.trans j1.symm)
    subst eij
    rw [hpj] at j3
    cases j3
    exact ⟨kv, vv, hH, j4, j5⟩
  have fresh : ∀ b ∈ as, H b = none := fun b hbm => I.hok.fresh (Nat.le_of_lt (Nat.lt_trans (Nat.lt_succ_self _) (hG.above b hbm)))
  have I1 : Inv X pins σ H { s with heap := h2, toks := tk } := I.kept (t' := tk) fun b o e => ka b o (k0 b o e)
  obtain ⟨H2, I2, g2, t2⟩ := track h2 tk H I1 (fun b o _ e => ka b o e) fresh
  have al2 : Al Hc H (newC Hc H H2) H2 := newC_al sub g2
  have dvs : DvAll X.K (newC Hc H H2) (as.map V.ref) (itemsD kvs) := dv_items lak fun j b p hj hpj => by
    obtain ⟨kv, vv, w1, w2, w3⟩ := t2 j b p hj hpj
    have fb := fresh b (List.mem_of_getElem? hj)
    exact .tup (.inl (.inl (newC_tup (sub.none fb) fb w1))) (.cons (al2.sub.dv w2) (.cons (al2.sub.dv w3) .nil))
  have rv : Vals (as.map V.ref) (as.map Value.ref) := vals_refs as
  have dps : DpAll X.K H2 (as.map V.ref) (itemsD kvs) := (al2.sc.dvAll dvs).dp
  obtain ⟨e1, e2⟩ := each_of I2 rv dps
  have hlz : (as.map V.ref).length = (itemsD kvs).length := dpLen dps
  have hmap : ((as.map V.ref).zip (itemsD kvs)).map (fun q : V × D => q.2) = itemsD kvs := zip_snd hlz
  unfold sortB at hb
  simp only [Bool.and_eq_true, Bool.or_eq_true, List.all_eq_true] at hb
  obtain ⟨⟨⟨b1, b2⟩, b3⟩, b4⟩ := hb
  have ksrt : ∀ b ob, s.heap.get? b = some ob → b ≠ h'.objs.size := fun b ob e => ne0 _ _ (k0 _ _ e)
  have keepS : ∀ b ob, b ≠ h'.objs.size → h2.get? b = some ob → (PySem.W.sortingHeap h2 h'.objs.size (as.map Value.ref)).get? b = some ob := fun b ob hb e => PySem.W.sortingHeap_old hb e
  have er2 : PySem.W.EachIs (fun v (b : V × D) => ∃ as', Reads (PySem.W.sortingHeap h2 h'.objs.size (as.map Value.ref)) v b.2 as') (as.map Value.ref) ((as.map V.ref).zip (itemsD kvs)) := by
    -- the same readings, the list's own object aside
    have I4 : Inv X pins σ H { s with heap := PySem.W.sortingHeap h2 h'.objs.size (as.map Value.ref), toks := tk } := I.kept (t' := tk) fun b o e => keepS b o (ksrt b o e) (ka b o (k0 b o e))
    obtain ⟨H4, I5, g4, t4⟩ := track _ tk H I4 (fun b o hb e => keepS b o hb (ka b o e)) fresh
    have al4 : Al Hc H (newC Hc H H4) H4 := newC_al sub g4
    have dv4 : DvAll X.K (newC Hc H H4) (as.map V.ref) (itemsD kvs) := dv_items lak fun j b p hj hpj => by
      obtain ⟨kv, vv, w1, w2, w3⟩ := t4 j b p hj hpj
      have fb := fresh b (List.mem_of_getElem? hj)
      exact .tup (.inl (.inl (newC_tup (sub.none fb) fb w1))) (.cons (al4.sub.dv w2) (.cons (al4.sub.dv w3) .nil))
    exact (each_of I5 rv (al4.sc.dvAll dv4).dp).2
  refine sort_at (s := { s with heap := h2, toks := tk }) (enc := fun q : V × D => q.2) hob1 e1 e2 (by rw [hmap]; exact fun d hd d' hd' => b1 d hd d' hd') (by
      rw [hmap]
      rcases b2 with b2 | b2
      · refine .inl fun d hd => ?_
        have := b2 d hd
        unfold tup1 at this
        split at this
        · exact ⟨_, _, rfl⟩
        · cases this
      · refine .inr fun d hd => ?_
        have := b2 d hd
        constructor
        · rintro rfl; cases this
        · rintro xs rfl; cases this) (by rw [List.length_map, lak, sizeLine_eq]; exact hlen) (fun b hb => by
        have hm : b.2 ∈ itemsD kvs := (List.of_mem_zip (show (b.1, b.2) ∈ _ from hb)).2
        have := (dep_ok _ _ (b3 _ hm)).2
        show X.A.units + 1 + 1 + b.2.depth < cLine
        omega) er2 fun out h3 ep3 hlo hout hk3 hat3 => ?_
  dsimp only at hk3 hat3
  have rvo := vals_of hout
  -- behind the sort
  have kS : ∀ b o, s.heap.get? b = some o → h3.get? b = some o := fun b o e => hk3 b o (ksrt b o e) (ka b o (k0 b o e))
  have I6 : Inv X pins σ H { s with heap := h3, toks := tk } := I.kept (t' := tk) kS
  have hnl : H h'.objs.size = none := I.hok.fresh (Nat.le_of_lt (Nat.lt_trans (Nat.lt_succ_self _) hlt))
  have hlen2 : ((((as.map V.ref).zip (itemsD kvs)).mergeSort (PySem.W.dataLe false fun q : V × D => q.2)).map (·.1)).length ≤ sizeLine := by
    rw [List.length_map, List.length_mergeSort, List.length_zip, List.length_map, lak]
    have : min kvs.length (itemsD kvs).length ≤ kvs.length := Nat.min_le_left _ _
    rw [sizeLine_eq]; omega
  have I7 : Inv X pins σ (upd H h'.objs.size (.lst ((((as.map V.ref).zip (itemsD kvs)).mergeSort (PySem.W.dataLe false fun q : V × D => q.2)).map (·.1)))) { s with heap := h3, toks := tk } :=
    I6.take (h' := h3) (t' := tk) (fun b ob _ e => e) (I.fpOk (Nat.le_of_lt (Nat.lt_trans (Nat.lt_succ_self _) hlt)) hnl) ⟨hlen2, out, ep3, rvo, hat3⟩
  obtain ⟨H8, I8, g8, t8⟩ := track h3 tk _ I7 (fun b o hb e => hk3 b o hb (ka b o e)) fun b hbm => by
    obtain ⟨j, hj⟩ := List.mem_iff_getElem?.mp hbm
    obtain ⟨_, _, _, _, _, _, _, _, _, _, hg⟩ := pr j b hj
    rw [upd_ne (ne0 _ _ hg)]
    exact fresh b hbm
  have gr : Sub H H8 := fun b o e => g8 b o (by rw [upd_ne (ne_of_none e hnl)]; exact e)
  have al8 : Al Hc H (newC Hc H H8) H8 := newC_al sub gr
  have dv8 : DvAll X.K (newC Hc H H8) (as.map V.ref) (itemsD kvs) := dv_items lak fun j b p hj hpj => by
    obtain ⟨kv, vv, w1, w2, w3⟩ := t8 j b p hj hpj
    have fb := fresh b (List.mem_of_getElem? hj)
    exact .tup (.inl (.inl (newC_tup (sub.none fb) fb w1))) (.cons (al8.sub.dv w2) (.cons (al8.sub.dv w3) .nil))
  exact ⟨.ref h'.objs.size, H8, I8, rfl, q _ _ _ al8 (.lst (newC_lst (sub.none hnl) hnl (g8 _ _ upd_same)) (sorted_pairs dv8))⟩
/-- sorted(x.items()) -/
def gSItems (kvs : List (D × D)) : Option D := if (flv kvs && sortB (itemsD kvs)) = true then some (.list ((itemsD kvs).mergeSort leD)) else none
def evSItems (i : Nat) : Ev D := fun env s => onDct i env fun kvs => (R.ofO (gSItems kvs)).bind fun z => .ok (z, s)
theorem de_sitems {E : XK} {C : Addr} {i : Nat} {x : Str} {p0 : Pos} (hc : X.calm = true) (hu : X.A.units + 64 < cLine) (hp : TabL.PW = some (X.prog, X.w)) (hg : Gl X "sorted") (hm : X.mg "sorted" = none) (hN : X.N[i]? = some x) (hv : Vis X.env.scope x) (hd : (x == ("__debug__" : Str)) = false) (hcd : (x == ("__classdict__" : Str)) = false)
    (hbase : attributeBase (.Name x p0) "items" X.env (eval (.Name x p0) X.env) = eval (.Name x p0) X.env) (hline : (apos.endLine == cpos.line) = true)
    (hs2 : starEach [.Call (.Attribute (.Name x p0) "items" apos) [] [] cpos] X.env = [(false, eval (.Call (.Attribute (.Name x p0) "items" apos) [] [] cpos) X.env)]) :
    DE X E C (.Call (.Name "sorted" p) [.Call (.Attribute (.Name x p0) "items" apos) [] [] cpos] [] pos) (evSItems i) := by
  refine ⟨_, pe_sitems hc hu hp hg hm (pe_var hN hv hd hcd) hbase hline hs2, fun ad da Hc H σ env s Q er q => ?_⟩
  unfold evSItems at q
  rcases onDct_or i env (fun kvs => (R.ofO (gSItems kvs)).bind fun z => R.ok (z, s)) with ⟨kvs, hx, e2⟩ | e2
  · rw [e2] at q
    obtain ⟨q1, d2', _⟩ := slot_dct er hx
    cases hgs : gSItems kvs with
    | none => rw [hgs] at q; exact q.elim
    | some z =>
      rw [hgs] at q
      unfold gSItems at hgs
      split at hgs
      · rename_i hk
        rw [Bool.and_eq_true] at hk
        cases hgs
        exact ⟨_, q1, ad i, Hc, kvs, rfl, er.sub, d2', hk.1, hk.2, fun v Hc' H' al hd => q v Hc' H' al.nx (al.er er) hd⟩
      · cases hgs
  · rw [e2] at q; exact q.elim
end
end L2.DL

set_option Elab.async false
set_option linter.all false
set_option maxRecDepth 100000
set_option maxHeartbeats 2000000
/-! D layer 14n: {k: True for ..} of ints and texts: its length, its keys sorted. -/
namespace L2.DL
open PySem PySem.Spec PyProof.Rows PySem.Calls
variable [TabL]

def addK (ks : List Key) (q : Key) : List Key := if (ks.any fun k => decide (k = q)) = true then ks else ks ++ [q]
def kz (ds : List D) : List Key := (ds.filterMap keyOf).foldl addK []
/-- the keys, each once -/
def uniqD (ds : List D) : List D := (kz ds).map keyD
def kvT (ks : List Key) : List (Key × V) := ks.map fun k => (k, V.bl true)
theorem kvT_any {ks : List Key} {q : Key} : ((kvT ks).any fun kv => decide (kv.1 = q)) = ks.any fun k => decide (k = q) := by
  unfold kvT
  rw [List.any_map]
  rfl
theorem kvT_put {ks : List Key} {q : Key} : putK (kvT ks) q (V.bl true) = kvT (addK ks q) := by
  unfold putK addK
  rw [kvT_any]
  by_cases h : (ks.any fun k => decide (k = q)) = true
  · rw [if_pos h, if_pos h]
    unfold kvT
    rw [List.map_map]
    apply List.map_congr_left
    intro k _
    show (if k = q then (k, V.bl true) else (k, V.bl true)) = _
    split <;> rfl
  · rw [if_neg h, if_neg h]
    unfold kvT
    rw [List.map_append]
    rfl
theorem kz_snoc {ds : List D} {d : D} {q : Key} (h : keyOf d = some q) : kz (ds ++ [d]) = addK (kz ds) q := by
  unfold kz
  rw [List.filterMap_append, List.foldl_append]
  simp [List.filterMap_cons, h]
theorem kz_len (ds : List D) : (kz ds).length ≤ ds.length := by
  unfold kz
  have : ∀ (l : List Key) (acc : List Key), (l.foldl addK acc).length ≤ acc.length + l.length := by
    intro l
    induction l with
    | nil => intro acc; exact Nat.le_refl _
    | cons k l ih =>
      intro acc
      have h1 := ih (addK acc k)
      have h2 : (addK acc k).length ≤ acc.length + 1 := by
        unfold addK
        split
        · exact Nat.le_succ _
        · rw [List.length_append]; exact Nat.le_refl _
      rw [List.foldl_cons, List.length_cons]
      omega
  have h := this (ds.filterMap keyOf) []
  have h2 := List.length_filterMap_le keyOf ds
  rw [List.length_nil] at h
  omega
def dcF (q : List D × Dr) : R (D × Dr) := if q.1.all scal = true then .ok (.list (uniqD q.1), q.2) else .stuck
def evDc (fi : Ev (List D)) (t : Tg) (own : List Nat) (ft : Ev Bool) (fe : Ev D) : Ev D := fun env s => (fi env s).bind fun p => (lcLoop t own ft fe env p.1 p.2).bind dcF
theorem lcLoop_err {t : Tg} {own : List Nat} {ft : Ev Bool} {fe : Ev D} {env : En} : ∀ (xs : List D) (s : Dr) (c : Str), lcLoop t own ft fe env xs s ≠ .err c
  | [], s, c => fun z => nomatch z
  | x :: xs, s, c => fun z => by
    rw [lcLoop] at z
    cases hb : bindT t x (wipeE env own) with
    | none => rw [hb] at z; cases z
    | some env2 =>
      rw [hb] at z
      replace z : (ft env2 s).calm.bind (fun p => if p.1 = true then (fe env2 p.2).calm.bind fun q => (lcLoop t own ft fe env xs q.2).bind fun r => R.ok (q.1 :: r.1, r.2) else lcLoop t own ft fe env xs p.2) = .err c := z
      cases hf : ft env2 s with
      | err c2 => rw [hf] at z; cases z
      | stuck => rw [hf] at z; cases z
      | ok p =>
        rw [hf] at z
        have z1 : (if p.1 = true then (fe env2 p.2).calm.bind fun q => (lcLoop t own ft fe env xs q.2).bind fun r => .ok (q.1 :: r.1, r.2) else lcLoop t own ft fe env xs p.2) = .err c := z
        split at z1
        · cases he : fe env2 p.2 with
          | err c2 => rw [he] at z1; cases z1
          | stuck => rw [he] at z1; cases z1
          | ok q =>
            rw [he] at z1
            have z2 : ((lcLoop t own ft fe env xs q.2).bind fun r => .ok (q.1 :: r.1, r.2)) = (.err c : R (List D × Dr)) := z1
            cases hl : lcLoop t own ft fe env xs q.2 with
            | ok r => rw [hl] at z2; cases z2
            | stuck => rw [hl] at z2; cases z2
            | err c2 => exact lcLoop_err xs q.2 c2 hl
        · exact lcLoop_err xs p.2 c z1
/-- a new dict of keys that stands nowhere yet -/
def PD (K : PySem.W.Frag) (Hst Hc H : Hp) (v : V) (d : D) : Prop := ∃ (a : Addr) (ks : List Key), v = .ref a ∧ d = .list (ks.map keyD) ∧ NL Hst a ∧ H a = some (.dK (kvT ks)) ∧ Hc a = none
theorem tabS_dK {H : Hp} {P p : Addr} {q : Str} {k1 k2 : List (Key × V)} (t : LamX.TabS H P q) (h : H p = some (.dK k1)) : LamX.TabS (L2.upd H p (.dK k2)) P q := by
  obtain ⟨ps, h1, h2, h3⟩ := t
  refine ⟨ps, ?_, h2, fun pos cv hc => ?_⟩
  · rw [upd_ne (fun z => by subst z; rw [h1] at h; cases h)]; exact h1
  · obtain ⟨c, e1, e2⟩ := h3 pos cv hc
    refine ⟨c, e1, ?_⟩
    rw [upd_ne (fun z => by subst z; rw [e2] at h; exact nomatch h)]
    exact e2
theorem tbs_dK {H : Hp} {p : Addr} {k1 k2 : List (Key × V)} (t : Tbs H) (h : H p = some (.dK k1)) : Tbs (L2.upd H p (.dK k2)) := fun q hq => tabS_dK (t q hq) h
theorem nT_dK {kvs : List (Key × V)} : nT (.dK kvs) := fun _ z => nomatch z
theorem Nx.writeK {da : Option Addr} {Hc H Hc1 H1 : Hp} {p : Addr} {k1 k2 : List (Key × V)} (a : Nx da Hc H Hc1 H1) (h : NL H p) (hl : H1 p = some (.dK k1)) : Nx da Hc H Hc1 (upd H1 p (.dK k2)) where
  sub := a.sub
  fresh := a.fresh
  keep := fun b x e n t => by
    have hb : b ≠ p := fun z => by subst z; exact h _ e t
    rw [upd_ne hb]; exact a.keep b x e n t
  there := fun b x e t => by
    by_cases hb : b = p
    · subst hb; exact ⟨_, upd_same, nT_dK⟩
    · obtain ⟨o, e2, t2⟩ := a.there b x e t
      exact ⟨o, by rw [upd_ne hb]; exact e2, t2⟩
  tab := fun t => tbs_dK (a.tab t) hl
  noT := a.noT
theorem dc_step {K : PySem.W.Frag} {ad : Nat → Addr} {da : Option Addr} {Hc1 H1 Hc2 H2 : Hp} {σ : St} {env : En} {s2 : Dr} {D : Addr} {k1 k2 : List (Key × V)} (n1 : Nx da Hc1 H1 Hc2 H2) (hD : H1 D = none) (e2 : ER K ad da Hc2 H2 σ env s2) (h2 : H2 D = some (.dK k1)) (c2 : Hc2 D = none)
    (dn : da ≠ some D) (hown : ∀ i x, env[i]? = some x → DL.own x = true → ad i ≠ D) : Nx da Hc1 H1 Hc2 (upd H2 D (.dK k2)) ∧ ER K ad da Hc2 (upd H2 D (.dK k2)) σ env s2 := by
  refine ⟨n1.writeK (.of hD) h2, ?_⟩
  have k : ∀ b o, H2 b = some o → b ≠ D → upd H2 D (.dK k2) b = some o := fun b o h hb => by rw [upd_ne hb]; exact h
  refine ⟨fun b o h => k b o (e2.sub _ _ h) (fun z => by subst z; rw [c2] at h; cases h), e2.len, fun i x hx => ?_, e2.apart, e2.drs, fun a h => ?_, e2.lstNe, tbs_dK e2.tabs h2, e2.noT⟩
  · have h := e2.slot i x hx
    cases x with
    | no => trivial
    | val d => exact h
    | lst lk xs =>
      obtain ⟨vs, h1, h3, h4, h5⟩ := h
      exact ⟨vs, h1, k _ _ h3 (hown i _ hx rfl), h4, h5⟩
    | drw => exact h
    | scr ns => exact h
    | dct kvs =>
      obtain ⟨φ, h1, h3, h4⟩ := h
      exact ⟨φ, h1, k _ _ h3 (hown i _ hx rfl), h4⟩
  · obtain ⟨h3, h4⟩ := e2.drA a h
    exact ⟨h3.sub (Sub.refl _) (by rw [upd_ne (fun z => dn (by rw [h, z]))]), h4⟩
section
variable {X : Cx} {E : XK} {C : Addr} {e : Expr} {es : List Expr}
theorem dc_readF {wi : TI} {vs : List Nat} {fi : Ev (List D)} {t : Tg} {ft : Ev Bool} {fe : Ev D} {own : List (Str × Nat)} (ri : ∀ (ad : Nat → Addr) (da : Option Addr) (Hc H : Hp) (σ : St) (env : En) (s : Dr) (Q : It → Hp → Prop), ER X.K ad da Hc H σ env s → IPost X.K E C ad da vs Hc H σ env Q (fi env s) → wi σ H Q)
    (hsl : ∀ i ∈ t.slots, i ∈ own.map (·.2)) : Reads1 X E C (T := Unit) (tDc wi (canG X.K t) (can X.K EF C PB ft) (can X.K EF C (PV X.K) fe) (tC (.bl true)) (own.map (·.2))) (fun _ _ Hst Hc H v d => PD X.K Hst Hc H v d) (evDc fi t (own.map (·.2)) ft fe) := fun ad da Hc H σ env s Q er q => by
  refine ri ad da Hc H σ env s _ er ?_
  have fin : ∀ (xs : List DL.D) (s1 : Dr), fi env s = .ok (xs, s1) → ∀ J W Hc1 H1, Nx da Hc H Hc1 H1 → ER X.K ad da Hc1 H1 σ env s1 → Sub W H1 → (∀ b o, W b = some o → Hc1 b = some o ∨ ∃ i lk ys, i ∈ vs ∧ env[i]? = some (.lst lk ys) ∧ b = ad i) → xs.length ≤ sizeLine → ItD X.K J W Hc1 xs →
      Post X.K E C ad da Hc1 H1 σ env (fun Hc' H' v d => PD X.K H Hc' H' v d) Q ((lcLoop t (own.map (·.2)) ft fe env xs s1).bind dcF) →
      ∀ D, H1 D = none → ∃ W : Nat → Nat → Hp → Prop, (∃ m, W 0 m (upd H1 D (.dK []))) ∧ ∀ i m H, W i m H →
        (J.stop i H ∧ Q (.ref D) H) ∨ (J.go i H ∧ ∃ Nx : Hp → Prop, (∀ H', Nx H' → ∃ m', m' < m ∧ W (i + 1) m' H') ∧ ∀ x H', J.yld i H x H' → canG X.K t x (L2.wipe σ (own.map (·.2))) H' fun σ2 H2 => L2.wipe σ2 (own.map (·.2)) = L2.wipe σ (own.map (·.2)) ∧ can X.K EF C PB ft σ2 H2 fun b H3 =>
          if b = true then can X.K EF C (PV X.K) fe σ2 H3 fun y H4 => tC (.bl true) σ2 H4 fun z H5 => ∃ kvs k, y = kV k ∧ H5 D = some (.dK kvs) ∧ kvs.length < sizeLine ∧ Nx (upd H5 D (.dK (putK kvs k z))) else Nx H3) := by
    intro xs s1 _ J W Hc1 H1 n1 e1 sw hw hlen hJ hq D hD
    have dn : da ≠ some D := fun z => by
      obtain ⟨⟨b, h1, _⟩, _⟩ := e1.drA D z
      rw [hD] at h1; cases h1
    have hown : ∀ i x, env[i]? = some x → DL.own x = true → ad i ≠ D := fun i x hx ho z => by
      obtain ⟨o, h1, _⟩ := e1.there hx ho
      rw [z, hD] at h1; cases h1
    have cD : Hc1 D = none := e1.sub.none hD
    have wda : ∀ b o, W b = some o → da ≠ some b := fun b o h z => by
      obtain ⟨_, h1⟩ := e1.drA b z
      rcases hw b o h with h2 | ⟨i, lk, ys, _, hx, rfl⟩
      · rw [h1] at h2; cases h2
      · exact e1.lstNe i _ hx rfl z
    refine ⟨fun i m H2 => m = xs.length - i ∧ i ≤ xs.length ∧ ∃ Hc2 s2 accD, Nx da Hc1 H1 Hc2 H2 ∧ ER X.K ad da Hc2 H2 σ env s2 ∧ H2 D = some (.dK (kvT (kz accD))) ∧ Hc2 D = none ∧ accD.length ≤ i ∧
      Post X.K E C ad da Hc1 H1 σ env (fun Hc' H' v d => PD X.K H Hc' H' v d) Q ((lcLoop t (own.map (·.2)) ft fe env (xs.drop i) s2).bind fun q => dcF (accD ++ q.1, q.2)),
      ⟨xs.length, rfl, Nat.zero_le _, Hc1, s1, [], .lay hD, e1.lay hD, upd_same, cD, Nat.le_refl _, hq⟩, fun i m H2 hW => ?_⟩
    obtain ⟨rfl, hi, Hc2, s2, accD, n2, e2, h2, c2, hal, q2⟩ := hW
    have sw2 : Sub W H2 := fun b o h => by
      rcases hw b o h with z | ⟨i, lk, ys, _, hx, rfl⟩
      · exact e2.sub _ _ (n2.sub _ _ z)
      · obtain ⟨ws, _, q2, _, _⟩ := e1.slot i _ hx
        have q3 := sw _ _ h
        rw [q2] at q3
        cases q3
        exact n2.keep _ _ q2 (fun z => wda _ _ h z.symm) nT_lst
    obtain ⟨hgo, hstop⟩ := hJ Hc2 H2 i n2.sub e2.sub sw2
    by_cases hlt : i < xs.length
    · obtain ⟨x, hx⟩ : ∃ x, xs[i]? = some x := ⟨xs[i], List.getElem?_eq_getElem hlt⟩
      have hdrop : xs.drop i = x :: xs.drop (i + 1) := by
        rw [List.drop_eq_getElem_cons hlt]
        rw [List.getElem?_eq_getElem hlt] at hx
        rw [Option.some.inj hx]
      obtain ⟨g1, g2⟩ := hgo x hx
      rw [hdrop] at q2
      refine .inr ⟨g1, fun H' => ∃ Hc2 s2 accD, Nx da Hc1 H1 Hc2 H' ∧ ER X.K ad da Hc2 H' σ env s2 ∧ H' D = some (.dK (kvT (kz accD))) ∧ Hc2 D = none ∧ accD.length ≤ i + 1 ∧
        Post X.K E C ad da Hc1 H1 σ env (fun Hc' H' v d => PD X.K H Hc' H' v d) Q ((lcLoop t (own.map (·.2)) ft fe env (xs.drop (i + 1)) s2).bind fun q => dcF (accD ++ q.1, q.2)), fun H' hN' => ⟨xs.length - (i + 1), by omega, rfl, hlt, hN'⟩, fun v H3 hy => ?_⟩
      obtain ⟨Hc3, al, hdv⟩ := g2 v H3 hy
      have e3 := al.er e2
      have ew := e3.wipe (own.map (·.2))
      rw [lcLoop] at q2
      cases hb : bindT t x (wipeE env (own.map (·.2))) with
      | none => rw [hb] at q2; exact q2.elim
      | some env2 =>
        rw [hb] at q2
        refine ⟨ad, da, Hc3, _, env2, s2, x, ew, hdv, hb, fun σ2 eb wp => ⟨?_, ?_⟩⟩
        · rw [wp _ hsl]
          exact wipe_wipe σ _
        · have dD3 : H3 D = some (.dK (kvT (kz accD))) := al.subH _ _ h2
          have cD3 : Hc3 D = none := by
            cases z : Hc3 D with
            | none => rfl
            | some o => have := al.fresh _ _ z c2; rw [h2] at this; cases this
          have q3 : Post X.K E C ad da Hc1 H1 σ env (fun Hc' H' v d => PD X.K H Hc' H' v d) Q ((ft env2 s2).calm.bind fun p => ((if p.1 then (fe env2 p.2).calm.bind fun q => (lcLoop t (own.map (·.2)) ft fe env (xs.drop (i + 1)) q.2).bind fun r => .ok (q.1 :: r.1, r.2) else lcLoop t (own.map (·.2)) ft fe env (xs.drop (i + 1)) p.2).bind fun q => dcF (accD ++ q.1, q.2))) := by
            have q2' : Post X.K E C ad da Hc1 H1 σ env (fun Hc' H' v d => PD X.K H Hc' H' v d) Q (((ft env2 s2).calm.bind fun p => if p.1 then (fe env2 p.2).calm.bind fun q => (lcLoop t (own.map (·.2)) ft fe env (xs.drop (i + 1)) q.2).bind fun r => .ok (q.1 :: r.1, r.2) else lcLoop t (own.map (·.2)) ft fe env (xs.drop (i + 1)) p.2).bind fun q => dcF (accD ++ q.1, q.2)) := q2
            rw [R.bind_assoc] at q2'
            exact q2'
          refine ⟨ad, da, Hc3, env2, s2, eb, Post.bindC q3 fun b s3 _ b' Hc4 H4 n4 e4 p4 q4 => ?_⟩
          cases p4
          have eo4 : ER X.K ad da Hc4 H4 σ env s3 := e3.nx n4 e4.sub e4.drA
          have d4 : H4 D = some (.dK (kvT (kz accD))) := n4.keep _ _ dD3 (fun z => dn z.symm) nT_dK
          have cD4 : Hc4 D = none := by
            cases z : Hc4 D with
            | none => rfl
            | some o => exact (n4.fresh _ _ z cD3 _ dD3 nT_dK).elim
          have nn4 : Nx da Hc1 H1 Hc4 H4 := (n2.trans al.nx).trans n4
          cases b with
          | false =>
            rw [if_neg Bool.false_ne_true]
            exact ⟨Hc4, s3, accD, nn4, eo4, d4, cD4, by omega, q4⟩
          | true =>
            rw [if_pos rfl]
            have q5 : Post X.K E C ad da Hc1 H1 σ env (fun Hc' H' v d => PD X.K H Hc' H' v d) Q ((fe env2 s3).calm.bind fun q => (lcLoop t (own.map (·.2)) ft fe env (xs.drop (i + 1)) q.2).bind fun r => dcF ((accD ++ [q.1]) ++ r.1, r.2)) := by
              have q4' : Post X.K E C ad da Hc1 H1 σ env (fun Hc' H' v d => PD X.K H Hc' H' v d) Q (((fe env2 s3).calm.bind fun q => (lcLoop t (own.map (·.2)) ft fe env (xs.drop (i + 1)) q.2).bind fun r => .ok (q.1 :: r.1, r.2)).bind fun q => dcF (accD ++ q.1, q.2)) := q4
              simp only [R.bind_assoc, R.bind_ok] at q4'
              simp only [List.append_assoc, List.singleton_append]
              exact q4'
            refine ⟨ad, da, Hc4, env2, s3, e4, Post.bindC q5 fun yd s5 _ yv Hc5 H5 n5 e5 p5 q6 => ?_⟩
            have d5 : H5 D = some (.dK (kvT (kz accD))) := n5.keep _ _ d4 (fun z => dn z.symm) nT_dK
            have cD5 : Hc5 D = none := by
              cases z : Hc5 D with
              | none => rfl
              | some o => exact (n5.fresh _ _ z cD4 _ d4 nT_dK).elim
            have eo5 : ER X.K ad da Hc5 H5 σ env s5 := eo4.nx n5 e5.sub e5.drA
            have hsc : ∃ q, keyOf yd = some q := by
              cases hl : lcLoop t (own.map (·.2)) ft fe env (xs.drop (i + 1)) s5 with
              | err c => exact (lcLoop_err _ _ _ hl).elim
              | stuck => rw [hl] at q6; exact q6.elim
              | ok r =>
                rw [hl] at q6
                have q7 : Post X.K E C ad da Hc1 H1 σ env (fun Hc' H' v d => PD X.K H Hc' H' v d) Q (dcF ((accD ++ [yd]) ++ r.1, r.2)) := q6
                unfold dcF at q7
                split at q7
                · rename_i hall
                  rw [List.all_append, List.all_append, List.all_cons, Bool.and_eq_true, Bool.and_eq_true, Bool.and_eq_true] at hall
                  exact Option.isSome_iff_exists.mp hall.1.2.1
                · exact q7.elim
            obtain ⟨qk, hqk⟩ := hsc
            have ey : yv = kV qk := by
              have e := keyD_of hqk
              subst e
              cases qk with
              | inl i => cases p5; rfl
              | inr x => cases p5; rfl
            obtain ⟨n6, e6⟩ := dc_step (k2 := kvT (addK (kz accD) qk)) (nn4.trans n5) hD eo5 d5 cD5 dn hown
            refine ⟨kvT (kz accD), qk, ey, d5, ?_, Hc5, s5, accD ++ [yd], ?_, ?_, ?_, cD5, by rw [List.length_append, List.length_singleton]; omega, q6⟩
            · unfold kvT
              rw [List.length_map]
              have := kz_len accD
              omega
            · rw [kvT_put]; exact n6
            · rw [kvT_put]; exact e6
            · rw [kvT_put, upd_same, kz_snoc hqk]
    · have hnil : xs.drop i = [] := List.drop_of_length_le (by omega)
      rw [hnil] at q2
      have q3 : Post X.K E C ad da Hc1 H1 σ env (fun Hc' H' v d => PD X.K H Hc' H' v d) Q (dcF (accD ++ [], s2)) := q2
      rw [List.append_nil] at q3
      unfold dcF at q3
      split at q3
      · refine .inl ⟨hstop (by omega), q3 (.ref D) Hc2 H2 n2 e2 ⟨D, kz accD, rfl, rfl, fun o z t => ?_, h2, c2⟩⟩
        obtain ⟨o2, z2, _⟩ := n1.there D o z t
        rw [hD] at z2
        cases z2
      · exact q3.elim
  cases hf : fi env s with
  | ok p =>
    have q' : Post X.K E C ad da Hc H σ env (fun Hc' H' v d => PD X.K H Hc' H' v d) Q ((fi env s).bind fun p => (lcLoop t (own.map (·.2)) ft fe env p.1 p.2).bind dcF) := q
    rw [hf] at q'
    exact fun J W Hc1 H1 n1 e1 sw hw hlen hJ => fin p.1 p.2 hf J W Hc1 H1 n1 e1 sw hw hlen hJ (Post.shift q' n1)
  | err c =>
    have q' : Post X.K E C ad da Hc H σ env (fun Hc' H' v d => PD X.K H Hc' H' v d) Q ((fi env s).bind fun p => (lcLoop t (own.map (·.2)) ft fe env p.1 p.2).bind dcF) := q
    rw [hf] at q'
    exact q'
  | stuck =>
    have q' : Post X.K E C ad da Hc H σ env (fun Hc' H' v d => PD X.K H Hc' H' v d) Q ((fi env s).bind fun p => (lcLoop t (own.map (·.2)) ft fe env p.1 p.2).bind dcF) := q
    rw [hf] at q'
    exact q'
end
end L2.DL

set_option Elab.async false
set_option linter.all false
set_option maxRecDepth 100000
set_option maxHeartbeats 2000000
/-! D layer 14o: len and sorted of a dict of keys, sorted(x) of a dict of one's own. -/
namespace L2.DL
open PySem PySem.Spec PyProof.Rows PySem.Calls
variable [TabL]
theorem dvAll_len {K : PySem.W.Frag} {Hc : Hp} {vs : List V} {ds : List D} (h : DvAll K Hc vs ds) : vs.length = ds.length := h.length
section
variable {X : Cx} {pins : List (Addr × Obj)} {σ : St} {Hc H : Hp} {s : Shared} {a : Addr}
/-- sorted(d): the keys -/
theorem sorted_raw {ob : Obj} {es : Array DictEntry} {ep : Nat} {ds : List D} {Q : VK} (hc : X.calm = true) (hu : X.A.units + 64 < cLine) (I : Inv X pins σ H s) (sub : Sub Hc H) (hob : s.heap.get? a = some ob) (hx : ob.ExactDict) (hdat : ob.data = .dict es ep) (hd : (a == sysModules) = false)
    (rel : Paired (fun (d : D) (e : DictEntry) => ∃ v, RelV v e.key ∧ Dv X.K Hc v d) ds es.toList) (hb : sortB ds = true) (q : ∀ p ws, H p = none → DvAll X.K Hc ws (ds.mergeSort leD) → Q (.ref p) (upd H p (.lst ws))) :
    wpAny (model X.prog X.w) X.A (call (.builtin "sorted") [.ref a]) (EP X pins σ Q) X.xe s := by
  have hsz : es.size = ds.length := by rw [← Array.length_toList, ← Paired.length rel]
  have hb0 := hb
  unfold sortB at hb
  simp only [Bool.and_eq_true, Bool.or_eq_true, List.all_eq_true] at hb
  obtain ⟨⟨⟨b1, b2⟩, b3⟩, b4⟩ := hb
  have hlen : ds.length ≤ 16777216 := fitB_le b4
  have hh : X.A.handled = none := I.ok.hd hc
  refine call_function_entry kind_sorted plain_sorted entry_sorted (args_sorted1 _) ?_
  unfold Builtin.«sorted»
  refine wpAny_bind (m := checkCount "sorted" 1 1 _) (wpAny_pure ?_)
  refine wpAny_bind (PySem.W.kdu_collect (A := X.A.in1) (KdlSrc.rawDict (es := es) (ep := ep) hd) hh ⟨ob, hob, hx, hdat⟩ (by rw [hsz, sizeLine_eq]; exact hlen) fun h' tk acc hk hacc => ?_)
  have hl : acc.toList.length = ds.length := by rw [Array.length_toList, hacc.1, hsz]
  -- the keys' values
  obtain ⟨ws, rv, dvs⟩ : ∃ ws, Vals ws acc.toList ∧ DvAll X.K Hc ws ds := by
    have key : ∀ (us : List Value) (ds : List D) (es : List DictEntry), us.length = ds.length → Paired (fun (d : D) (e : DictEntry) => ∃ v, RelV v e.key ∧ Dv X.K Hc v d) ds es → (∀ (j : Nat) (u : Value), us[j]? = some u → ∃ e, es[j]? = some e ∧ u = e.key) → ∃ ws, Vals ws us ∧ DvAll X.K Hc ws ds := by
      intro us
      induction us with
      | nil =>
        intro ds es hl _ _
        have : ds = [] := List.eq_nil_of_length_eq_zero hl.symm
        subst this
        exact ⟨[], .nil, .nil⟩
      | cons u us ih =>
        intro ds es hl rel hk
        cases rel with
        | nil => simp at hl
        | @cons d e ds es h t =>
          obtain ⟨e', g1, g2⟩ := hk 0 u rfl
          have : e = e' := Option.some.inj g1
          subst this
          obtain ⟨v, g3, g4⟩ := h
          obtain ⟨ws, g5, g6⟩ := ih ds es (by simpa using hl) t fun j u' hj => by
            obtain ⟨e2, w1, w2⟩ := hk (j + 1) u' (by simpa using hj)
            exact ⟨e2, by simpa using w1, w2⟩
          exact ⟨v :: ws, .cons (by rw [g2]; exact g3) g5, .cons g4 g6⟩
    refine key acc.toList ds es.toList hl rel fun j u hj => ?_
    obtain ⟨hi, e⟩ := hacc.2 j u (by rw [← Array.getElem?_toList]; exact hj)
    exact ⟨es[j], by rw [Array.getElem?_toList]; exact Array.getElem?_eq_getElem hi, e⟩
  refine wpAny_bind (wpAny_newList ?_ (by rw [hl, sizeLine_eq]; exact hlen))
  have hob1 : (h'.push { cls := .type "list", data := .seq acc.toList.toArray }).get? h'.objs.size = some (seqObj "list" acc.toList.toArray 0) := Heap.get?_push_size _ rfl
  have ka : ∀ b o, s.heap.get? b = some o → (h'.push { cls := .type "list", data := .seq acc.toList.toArray }).get? b = some o := fun b o e => Heap.get?_push_of_some _ (hk b o e)
  have ne0 : ∀ b o, s.heap.get? b = some o → b ≠ h'.objs.size := fun b o e => Nat.ne_of_lt (Heap.lt_size (hk b o e))
  have hnl0 : H h'.objs.size = none := (I.kept (h' := h') (t' := tk) hk).hok.fresh (Nat.le_refl _)
  have hfp : FpOk X pins H h'.objs.size := (I.kept (h' := h') (t' := tk) hk).fpOk (Nat.le_refl _) hnl0
  generalize hh2 : h'.push { cls := .type "list", data := .seq acc.toList.toArray } = h2 at hob1 ka ⊢
  have rd : ∀ (h3 : Heap) (tk : Nat), (∀ b o, s.heap.get? b = some o → h3.get? b = some o) → PySem.W.EachIs (fun (v : Value) (q : V × D) => RelV q.1 v) acc.toList (ws.zip ds) ∧ PySem.W.EachIs (fun (v : Value) (q : V × D) => ∃ as, Reads h3 v q.2 as) acc.toList (ws.zip ds) := fun h3 tk k =>
    each_of (I.kept (h' := h3) (t' := tk) k) rv (sub.dvAll dvs).dp
  obtain ⟨e1, e2⟩ := rd h2 tk ka
  obtain ⟨_, e3⟩ := rd (PySem.W.sortingHeap h2 h'.objs.size acc.toList) tk fun b o e => PySem.W.sortingHeap_old (ne0 b o e) (ka b o e)
  have hlz : ws.length = ds.length := dvs.length
  have hmap : (ws.zip ds).map (fun q : V × D => q.2) = ds := zip_snd hlz
  have hg : wpAny (model X.prog X.w) X.A.in1 (call (.builtin "list.sort") [.ref h'.objs.size]) (fun _ s' => EP X pins σ Q (.ref h'.objs.size) s') X.xe { s with heap := h2, toks := tk } := by
    refine sort_at (A := X.A.in1) (E := X.xe) (s := { s with heap := h2, toks := tk }) (enc := fun q : V × D => q.2) (Q := fun s' => EP X pins σ Q (.ref h'.objs.size) s') hob1 e1 e2 (by rw [hmap]; exact fun d hd d' hd' => b1 d hd d' hd') (by
      rw [hmap]
      rcases b2 with b2 | b2
      · refine .inl fun d hd => ?_
        have := b2 d hd
        unfold tup1 at this
        split at this
        · exact ⟨_, _, rfl⟩
        · cases this
      · refine .inr fun d hd => ?_
        have := b2 d hd
        constructor
        · rintro rfl; cases this
        · rintro xs rfl; cases this) (by rw [hl, sizeLine_eq]; exact hlen) (fun b hb => by
        have hm : b.2 ∈ ds := (List.of_mem_zip (show (b.1, b.2) ∈ _ from hb)).2
        have := (dep_ok _ _ (b3 _ hm)).2
        show X.A.units + 1 + 1 + b.2.depth < cLine
        omega) e3 fun out h3 ep3 hlo hout hk3 hat3 => ?_
    · dsimp only at hk3 hat3
      have rvo := vals_of hout
      have kS : ∀ b o, s.heap.get? b = some o → h3.get? b = some o := fun b o e => hk3 b o (ne0 b o e) (ka b o e)
      have I6 : Inv X pins σ H { s with heap := h3, toks := tk } := I.kept (t' := tk) kS
      have hnl := hnl0
      have hlen2 : (((ws.zip ds).mergeSort (PySem.W.dataLe false fun q : V × D => q.2)).map (·.1)).length ≤ sizeLine := by
        rw [List.length_map, List.length_mergeSort, List.length_zip, sizeLine_eq]
        omega
      have I7 : Inv X pins σ (upd H h'.objs.size (.lst (((ws.zip ds).mergeSort (PySem.W.dataLe false fun q : V × D => q.2)).map (·.1)))) { s with heap := h3, toks := tk } :=
        I6.take (h' := h3) (t' := tk) (fun b ob _ e => e) hfp ⟨hlen2, out, ep3, rvo, hat3⟩
      exact ⟨.ref h'.objs.size, _, I7, rfl, q _ _ hnl (sorted_pairs dvs)⟩
  refine wpAny_bind (wpAny_holding (wpAny_mono hg (fun _ s' x => ?_) fun _ _ e => e))
  exact wpAny_pure ⟨_, rfl, x⟩
end
/-- the keys of a dict, as data -/
def KeysAt (K : PySem.W.Frag) (Hc H : Hp) (a : Addr) (ds : List D) : Prop := (∃ kvs : List (Key × V), H a = some (.dK kvs) ∧ ds = kvs.map fun p => keyD p.1) ∨ ∃ kvs, XD K Hc H a kvs ∧ flv kvs = true ∧ ds = kvs.map (·.1)
def rSortR (K : PySem.W.Frag) : List V → Hp → VK → Prop := fun vs H Q => ∃ (a : Addr) (Hc : Hp) (ds : List D), vs = [.ref a] ∧ Sub Hc H ∧ KeysAt K Hc H a ds ∧ sortB ds = true ∧ ∀ p ws, H p = none → DvAll K Hc ws (ds.mergeSort leD) → Q (.ref p) (upd H p (.lst ws))
theorem keys_mix {P : Program} {w : World} {K : PySem.W.Frag} {Hc : Hp} {es : List DictEntry} {vs : List (Key × Value)} (hpr : Pairs (mixKind P w) es vs) : ∀ {kvs : List (Key × V)}, KV kvs vs → Paired (fun (d : D) (e : DictEntry) => ∃ v, RelV v e.key ∧ Dv K Hc v d) (kvs.map fun p => keyD p.1) es := by
  induction hpr with
  | nil => intro kvs r; cases r; exact .nil
  | @cons e kv es vs h1 h2 _ ih =>
    intro kvs r
    cases r with
    | cons hc t =>
      refine .cons ?_ (ih t)
      obtain ⟨v, w1, w2⟩ := keyD_dv (K := K) (Hc := Hc) h1
      exact ⟨v, w1, by first | exact hc.1 ▸ w2 | (show Dv K Hc v (keyD _); rw [hc.1]; exact w2)⟩
theorem keys_ents {K : PySem.W.Frag} {Hc : Hp} : ∀ {kvs : List (D × D)} {es : List DictEntry}, Paired (EntR K Hc) kvs es → Paired (fun (d : D) (e : DictEntry) => ∃ v, RelV v e.key ∧ Dv K Hc v d) (kvs.map (·.1)) es
  | _, _, .nil => .nil
  | _, _, .cons h t => by
    obtain ⟨kv, vv, g1, g2, _⟩ := h
    exact .cons ⟨kv, g1, g2⟩ (keys_ents t)
section
variable {X : Cx}
theorem cr_sortR (hc : X.calm = true) (hu : X.A.units + 64 < cLine) (hp : TabL.PW = some (X.prog, X.w)) : CallR X (.builtin "sorted") (rSortR X.K) := by
  intro pins s σ H xs us Q I r h
  obtain ⟨a, Hc, ds, rfl, sub, hk, hb, q⟩ := h
  obtain rfl := Vals.ref1 r
  rcases hk with ⟨kvs, ha, rfl⟩ | ⟨kvs, d, hf, rfl⟩
  · obtain ⟨z, hd, vs, rel, o, es, ep, ho, hx, hdat, _, hpr, _⟩ := dk_of I.hok ha
    exact sorted_raw hc hu I sub ho hx hdat hd (keys_mix hpr rel) hb q
  · have d2 := d
    obtain ⟨φ, _, ⟨hd, _, _⟩, _⟩ := d2
    obtain ⟨o, es, ep, ho, hx, hdat, rel⟩ := d.ents I sub hp hf
    exact sorted_raw hc hu I sub ho hx hdat hd (keys_ents rel) hb q
def rLenKd : List V → Hp → VK → Prop := fun vs H Q => ∃ (a : Addr) (kvs : List (Key × V)), vs = [.ref a] ∧ H a = some (.dK kvs) ∧ Q (.int kvs.length) H
theorem cr_lenKd : CallR X (.builtin "len") rLenKd := by
  intro pins s σ H xs us Q I r h
  obtain ⟨a, kvs, rfl, ha, q⟩ := h
  obtain rfl := Vals.ref1 r
  exact L2.d_len I (.inl ha) fun t s' I' => ⟨.int (kvs.length : Int), H, I', ⟨t, rfl⟩, q⟩
variable {E : XK} {C : Addr} {i : Nat} {x : Str} {p p0 pos : Pos}
/-- sorted(x) -/
def gSortK (ds : List D) : Option D := if sortB ds = true then some (.list (ds.mergeSort leD)) else none
def evSKeys (i : Nat) : Ev D := fun env s => onDct i env fun kvs => if flv kvs = true then (R.ofO (gSortK (kvs.map (·.1)))).bind fun z => .ok (z, s) else .stuck
theorem de_skeys (hc : X.calm = true) (hu : X.A.units + 64 < cLine) (hp : TabL.PW = some (X.prog, X.w)) (hg : Gl X "sorted") (hm : X.mg "sorted" = none) (hN : X.N[i]? = some x) (hv : Vis X.env.scope x) (hd : (x == ("__debug__" : Str)) = false) (hcd : (x == ("__classdict__" : Str)) = false)
    (hs : starEach [.Name x p0] X.env = (false, eval (.Name x p0) X.env) :: starEach [] X.env) : DE X E C (.Call (.Name "sorted" p) [.Name x p0] [] pos) (evSKeys i) := by
  refine ⟨_, pe_callB (cr_sortR hc hu hp) hg hm PyProof.Rows.boot_sorted (pa_cons (pe_var hN hv hd hcd) pa_nil hs) (by decide +kernel) (by decide +kernel) hs rfl, fun ad da Hc H σ env s Q er q => ?_⟩
  unfold evSKeys at q
  rcases onDct_or i env (fun kvs => if flv kvs = true then (R.ofO (gSortK (kvs.map (·.1)))).bind fun z => R.ok (z, s) else .stuck) with ⟨kvs, hx, e2⟩ | e2
  · rw [e2] at q
    obtain ⟨q1, d2', _⟩ := slot_dct er hx
    split at q
    · rename_i hf
      cases hgs : gSortK (kvs.map (·.1)) with
      | none => rw [hgs] at q; exact q.elim
      | some z =>
        rw [hgs] at q
        unfold gSortK at hgs
        split at hgs
        · rename_i hk
          cases hgs
          refine ⟨_, q1, ad i, Hc, _, rfl, er.sub, .inr ⟨kvs, d2', hf, rfl⟩, hk, fun p ws hp hw => ?_⟩
          have al := Al.new (o := .lst ws) er.sub hp
          exact q _ _ _ al.nx (al.er er) (.lst upd_same (al.sub.dvAll hw))
        · cases hgs
    · exact q.elim
  · rw [e2] at q; exact q.elim
/-! ### of {k: True for ..} -/
def lenL (d : D) : Option D := match d with
  | .list ks => some (.int ks.length)
  | _ => none
def sortLD (d : D) : Option D := match d with
  | .list ks => gSortK ks
  | _ => none
def evDc1 (g : D → Option D) (f : Ev D) : Ev D := fun env s => (f env s).bind fun p => (R.ofO (g p.1)).bind fun z => .ok (z, p.2)
variable {fi : Ev (List D)} {t : Tg} {ft : Ev Bool} {fe : Ev D} {kx vx tg iter : Expr} {ifs : List Expr} {scope : Scope} {own : List (Str × Nat)} {vs : List Nat} {dpos : Pos}
theorem de_dc {f : String} {r : List V → Hp → VK → Prop} {g : D → Option D} {fn : Str} (hc : X.calm = true) (hN : X.N.Nodup) (cr : CallR X (.builtin f) r) (hb : bootBuiltins fn = some (.builtin f)) (hg0 : Gl X fn) (hm : X.mg fn = none) (hn : fn ≠ "__name__") (hdb : (fn == ("__debug__" : Str)) = false)
    (hr : ∀ (Hc H : Hp) (a : Addr) (ks : List Key) (z : D) (Q : VK), Sub Hc H → H a = some (.dK (kvT ks)) → g (.list (ks.map keyD)) = some z → (∀ v Hc' H', Al Hc H Hc' H' → Dv X.K Hc' v z → Q v H') → r [.ref a] H Q)
    (hi : DI X E C tg iter vs fi) (ok : BlkOk X.N X.env.scope scope own)
    (hg : ∀ (s : Shared) (H : Hp) (C' : Addr) (cl : List (Str × Addr)) (fp : List Addr), DG (X.blk s H scope (compEnvC scope cl C' X.env) fp) tg t)
    (ht : ∀ (s : Shared) (H : Hp) (C' : Addr) (cl : List (Str × Addr)) (fp : List Addr), DTs (X.blk s H scope (compEnvC scope cl C' X.env) fp) EF C ifs ft)
    (he : ∀ (s : Shared) (H : Hp) (C' : Addr) (cl : List (Str × Addr)) (fp : List Addr), DE (X.blk s H scope (compEnvC scope cl C' X.env) fp) EF C kx fe)
    (hv : ∀ (s : Shared) (H : Hp) (C' : Addr) (cl : List (Str × Addr)) (fp : List Addr), PE (X.blk s H scope (compEnvC scope cl C' X.env) fp) vx (tC (.bl true)))
    (hs : ∀ x, foldedSetIterable iter X.env x = pure x) (hsl : ∀ i ∈ t.slots, i ∈ own.map (·.2))
    (hst : starEach [.DictComp kx vx [⟨tg, iter, ifs, 0⟩] scope dpos] X.env = (false, eval (.DictComp kx vx [⟨tg, iter, ifs, 0⟩] scope dpos) X.env) :: starEach [] X.env) :
    DE X E C (.Call (.Name fn p) [.DictComp kx vx [⟨tg, iter, ifs, 0⟩] scope dpos] [] pos) (evDc1 g (evDc fi t (own.map (·.2)) ft fe)) := by
  obtain ⟨wi, pi, ri⟩ := hi
  refine ⟨_, pe_callB cr hg0 hm hb (pa_cons (pe_dc (g := canG X.K t) (tt := can X.K EF C PB ft) (tk := can X.K EF C (PV X.K) fe) hc hN pi ok (fun s H C' cl fp => (hg s H C' cl fp).can) (fun s H C' cl fp => (ht s H C' cl fp).can) (fun s H C' cl fp => (he s H C' cl fp).can) hv hs) pa_nil hst) hn hdb hst rfl, fun ad da Hc H σ env s Q er q => ?_⟩
  refine dc_readF ri hsl ad da Hc H σ env s (fun v H1 => r [v] H1 Q) er (Post.bind q fun d s1 _ v Hc1 H1 n1 e1 p1 q1 => ?_)
  obtain ⟨a, ks, rfl, rfl, _, h2, h3⟩ := p1
  cases hgz : g (.list (ks.map keyD)) with
  | none => rw [hgz] at q1; exact q1.elim
  | some z =>
    rw [hgz] at q1
    exact hr Hc1 H1 a ks z Q e1.sub h2 hgz fun v' Hc' H' al hd => q1 v' Hc' H' al.nx (al.er e1) hd
theorem hr_len {K : PySem.W.Frag} (Hc H : Hp) (a : Addr) (ks : List Key) (z : D) (Q : VK) (sub : Sub Hc H) (h : H a = some (.dK (kvT ks))) (hz : lenL (.list (ks.map keyD)) = some z) (q : ∀ v Hc' H', Al Hc H Hc' H' → Dv K Hc' v z → Q v H') : rLenKd [.ref a] H Q := by
  have e : z = .int (ks.map keyD).length := (Option.some.inj hz).symm
  subst e
  refine ⟨a, kvT ks, rfl, h, ?_⟩
  have hl : (kvT ks).length = (ks.map keyD).length := by unfold kvT; rw [List.length_map, List.length_map]
  rw [hl]
  exact q _ Hc H (Al.refl sub) (.int _)
theorem hr_sort {K : PySem.W.Frag} (Hc H : Hp) (a : Addr) (ks : List Key) (z : D) (Q : VK) (sub : Sub Hc H) (h : H a = some (.dK (kvT ks))) (hz : sortLD (.list (ks.map keyD)) = some z) (q : ∀ v Hc' H', Al Hc H Hc' H' → Dv K Hc' v z → Q v H') : rSortR K [.ref a] H Q := by
  have hz2 : gSortK (ks.map keyD) = some z := hz
  unfold gSortK at hz2
  split at hz2
  · rename_i hk
    cases hz2
    refine ⟨a, Hc, _, rfl, sub, .inl ⟨kvT ks, h, ?_⟩, hk, fun p ws hp hw => ?_⟩
    · unfold kvT
      rw [List.map_map]
      rfl
    · have al := Al.new (o := .lst ws) sub hp
      exact q _ _ _ al (.lst upd_same (al.sub.dvAll hw))
  · cases hz2
end
end L2.DL

set_option Elab.async false
set_option linter.all false
set_option maxRecDepth 100000
set_option maxHeartbeats 2000000
/-! D layer 14p: len(set(xs)). -/
namespace L2.DL
open PySem PySem.Spec PyProof.Rows PySem.Calls
variable [TabL]

/-! ### len(set(xs)), ints -/
def gLSet : List D → Option D
  | [.list ds] => (asI ds).bind fun ns => if ns.length < 4000 then some (.int (sortU ns).length) else none
  | [.tuple ds] => (asI ds).bind fun ns => if ns.length < 4000 then some (.int (sortU ns).length) else none
  | _ => none
def rLSet (K : PySem.W.Frag) : List V → Hp → VK → Prop := fun vs H Q => ∃ (a : Addr) (ns : List Int), vs = [V.ref a] ∧ (SqL K H a (ns.map V.int) ∨ SqT K H a (ns.map V.int)) ∧ ns.length < 4000 ∧ Q (.int (sortU ns).length) H
section
variable {X : Cx} {b : Expr} {t : TA} {p p2 q pos : Pos}
theorem setR_size {w : World} {h : Heap} {a : Addr} {ns : List Int} {n : Nat} (R : SetR w h a (fun j => decide (j ∈ ns)) n) : n = (sortU ns).length := by
  obtain ⟨o, es, ep, t, _, _, _, _, hnd, hS, _, _, hn, _⟩ := R
  have pm : (es.toList.map L2.keyOf).Perm (sortU ns) := (List.perm_ext_iff_of_nodup hnd (List.Pairwise.imp (fun h => Int.ne_of_lt h) pw_sortU)).mpr fun k => by
    rw [← hS k, mem_sortU, decide_eq_true_eq]
  rw [← pm.length_eq, List.length_map, Array.length_toList, hn]
theorem pe_lset (hc : X.calm = true) (hg : Gl X "len") (hm : X.mg "len" = none) (hg2 : Gl X "set") (hm2 : X.mg "set" = none) (ha : PA X [b] t) (hs : starEach [b] X.env = [(false, eval b X.env)]) (hs2 : starEach [.Call (.Name "set" p2) [b] [] q] X.env = [(false, eval (.Call (.Name "set" p2) [b] [] q) X.env)]) :
    PE X (.Call (.Name "len" p) [.Call (.Name "set" p2) [b] [] q] [] pos) (fun σ H Q => t σ H fun vs H1 => rLSet X.K vs H1 Q) := by
  refine ⟨fun pins s σ H Q I h => ?_⟩
  refine Call_ (ld_blt I hg hm PySem.boot_len (PyProof.Rows.callWith_builtin1 (PyProof.Rows.args_cons ?_ hs2) hs2 rfl))
  refine Call_ (ld_blt I hg2 hm2 PyProof.Rows.boot_set (PyProof.Rows.callWith_type1 (thn (ha.run q pins s σ H _ I h) fun us s1 ⟨vs, H1, I1, r1, q1⟩ => ?_) hs rfl))
  obtain ⟨a, ns, rfl, hq, hl, q1⟩ := q1
  cases r1 with
  | cons r rr =>
    cases rr
    cases r
    have fin : ∀ (h2 : Heap) (tk n : Nat), SetR X.w h2 s1.heap.objs.size (fun j => decide (j ∈ ns)) n → (∀ c o, s1.heap.get? c = some o → h2.get? c = some o) → wpAny (model X.prog X.w) X.A (call (.builtin "len") [.ref s1.heap.objs.size]) (EP X pins σ Q) X.xe { s1 with heap := h2, toks := tk } := fun h2 tk n R k => by
      have hsz := setR_size R
      obtain ⟨o, es, ep, t, ho, hex, hd, _, _, _, hsl, hf, hn, _⟩ := R
      have I2 : Inv X pins σ H1 { s1 with heap := h2, toks := tk } := I1.kept fun c o e => k c o e
      refine PySem.call_len_set ho hex hd hf (by unfold scanBound at hsl; omega) ⟨.int (sortU ns).length, H1, I2.tok _, ⟨_, by rw [hn, hsz]⟩, q1⟩
    rcases hq with hq | hq
    · obtain ⟨its, rv, pl, hz⟩ := I1.list hq
      have hi : IntsAre its ns := ints_of_vals rv
      have hlen : its.toArray.size = ns.length := by rw [List.size_toArray]; exact IntsAre.length hi
      refine setList (I1.ok.hd hc) pl.isList (ns := ns) (by simpa using hi) (by rw [hlen]; unfold scanBound; omega) fun h2 tk hS k => PyProof.Rows.args_nil ?_
      rw [hlen] at hS
      have R : SetR X.w h2 s1.heap.objs.size (fun j => decide (j ∈ ns)) (fmt ns ns.length).length := SetR.congr hS fun z => fmt_any.symm
      exact fin h2 tk _ R k
    · obtain ⟨its, rv, pt, hz⟩ := I1.tuple hq
      have hi : IntsAre its.toArray.toList ns := ints_of_vals rv
      exact call_set_tupI ns (I1.ok.hd hc) (show s1.heap.IsTuple a its.toArray from pt) hi (by unfold scanBound; omega) fun h2 tk c R hcn k => PyProof.Rows.args_nil (fin h2 tk c R k)
variable {E : XK} {C : Addr}
theorem d_lset {K : PySem.W.Frag} : CallD K (rLSet K) gLSet := by
  intro Hc H vs ds z Q s hx hz q
  unfold gLSet at hz
  split at hz
  · obtain ⟨v, rfl, hp⟩ := hx.one
    rename_i xs
    obtain ⟨ns, hb, hz⟩ := Option.bind_eq_some_iff.mp hz
    split at hz
    · rename_i hl
      cases hz
      obtain ⟨a, ws, rfl, h1, h2⟩ := hp.list s
      rw [asI_ok hb] at h2
      rw [h2.map_int] at h1
      exact ⟨a, ns, rfl, .inl (SqL.of h1), hl, q _ Hc H (Al.refl s) (.int _)⟩
    · cases hz
  · obtain ⟨v, rfl, hp⟩ := hx.one
    rename_i xs
    obtain ⟨ns, hb, hz⟩ := Option.bind_eq_some_iff.mp hz
    split at hz
    · rename_i hl
      cases hz
      obtain ⟨a, ws, rfl, h1, h2⟩ := hp.tuple s
      rw [asI_ok hb] at h2
      rw [h2.map_int] at h1
      exact ⟨a, ns, rfl, .inr h1, hl, q _ Hc H (Al.refl s) (.int _)⟩
    · cases hz
  · cases hz
theorem de_lset {f : Ev (List D)} (hc : X.calm = true) (hg : Gl X "len") (hm : X.mg "len" = none) (hg2 : Gl X "set") (hm2 : X.mg "set" = none) (ha : DAK X E C [b] f) (hs : starEach [b] X.env = [(false, eval b X.env)]) (hs2 : starEach [.Call (.Name "set" p2) [b] [] q] X.env = [(false, eval (.Call (.Name "set" p2) [b] [] q) X.env)]) :
    DE X E C (.Call (.Name "len" p) [.Call (.Name "set" p2) [b] [] q] [] pos) (evB1 gLSet f) := by
  obtain ⟨t, pa, ra⟩ := ha
  exact ⟨_, pe_lset hc hg hm hg2 hm2 pa hs hs2, CallD.read d_lset ra⟩
end
end L2.DL

set_option Elab.async false
set_option linter.all false
set_option maxRecDepth 100000
set_option maxHeartbeats 2000000
/-! D layer 15: expressions as data, their meaning, their making from the tree. -/
namespace L2.DL
open PySem PySem.Spec PyProof.Rows
variable [TabL]

/-! ### expressions as data -/
inductive O2 | add | sub | mul | pow | div | mod | xor | and | or | eq | ne | lt | le | gt | ge | in_ | nin | is | isn
  deriving DecidableEq
def O2.g : O2 → D → D → Option D
  | .add => gAdd | .sub => gSub | .mul => gMul | .pow => gPow | .div => gDiv | .mod => gMod | .xor => gXor | .and => gAnd | .or => gOr
  | .eq => gEq | .ne => gNe | .lt => gI fun i j => decide (i < j) | .le => gI fun i j => decide (i ≤ j) | .gt => gI fun i j => decide (j < i) | .ge => gI fun i j => decide (j ≤ i)
  | .in_ => gIn false | .nin => gIn true | .is => gIs false | .isn => gIs true
inductive Bi | len | any | all | sum | max | min | abs | int | list | tuple | sorted | sset | lset
  deriving DecidableEq
def Bi.g : Bi → List D → Option D
  | .len => gLen | .any => gAny | .all => gAll | .sum => gSum | .max => gMax | .min => gMin | .abs => gAbs | .int => gInt | .list => gList | .tuple => gTuple | .sorted => gSorted | .sset => gSSet | .lset => gLSet
inductive IX where
  | var (i : Nat) | pk (i : Nat) | c (d : D) | none
  | b2 (g : O2) (a b : IX) | ch (g g' : O2) (a b c : IX)
  | andV (a b : IX) | orV (a b : IX) | notV (a : IX) | neg (a : IX) | ife (c a b : IX) | ix (a b : IX) | sl (a lo hi : IX)
  | tup (as : IX) | lst (as : IX) | nil | cons (a as : IX) | bi (f : Bi) (as : IX)
  | call (f n : Nat) (as : IX) | argC (a as : IX) | argV (i : Nat) (as : IX)
  | lc (it : IX) (t : Tg) (own : List Nat) (q e : IX)
  | tru (a : IX) | tev (a : IX) | tnot (a : IX) | tif (c a b : IX) | tt | ff
  | seq (a : IX) | enum (as : IX) | zip2 (as : IX) | zip3 (as : IX) | rng1 (as : IX) | rng2 (as : IX)
  | listRg (as : IX) | tupRg (as : IX) | fl (a : IX)
  | dr (i : Nat) (k : Int) | scL (i : Nat) | scI (i : Nat) | told (a : IX) | idx (i : Nat) (a : IX) | rng3 (as : IX) | rev (a : IX)
  | dget (i : Nat) (a b : IX) | dix (i : Nat) (a : IX) | din (neg : Bool) (i : Nat) (a : IX) | dlen (i : Nat) | sitems (i : Nat) | skeys (i : Nat) | dcN (it : IX) (t : Tg) (own : List Nat) (q e : IX) | dcS (it : IX) (t : Tg) (own : List Nat) (q e : IX)
def evStuck {α : Type} : Ev α := fun _ _ => .stuck
def evNil {α : Type} : Ev (List α) := fun _ s => .ok ([], s)
mutual
/-- a value -/
def evE (F : Nat → Fn) : IX → Ev D
  | .var i => evVar i
  | .pk i => evPk i
  | .c d => evC d
  | .b2 g a b => ev2 g.g (evE F a) (evE F b)
  | .ch g g' a b c => evCh g.g g'.g (evE F a) (evE F b) (evE F c)
  | .andV a b => evAndV (evE F a) (evE F b)
  | .orV a b => evOrV (evE F a) (evE F b)
  | .notV a => evNotV (evE F a)
  | .neg a => ev1 gNeg (evE F a)
  | .ife c a b => evIf (evT F c) (evE F a) (evE F b)
  | .ix a b => ev2 gIx (evE F a) (evE F b)
  | .sl a lo hi => evSl (evE F a) (evO F lo) (evO F hi)
  | .tup as => evTup (evA F as)
  | .lst as => evLst (evA F as)
  | .bi f as => evB1 f.g (evA F as)
  | .call f n as => evCall n (F f) (evS F as)
  | .lc it t own q e => evLc (evI F it) t own (evT F q) (evE F e)
  | .listRg as => evRgL (evRgA (evA F as))
  | .tupRg as => evRgT (evRgA (evA F as))
  | .fl a => evL (evE F a)
  | .dr i k => evDr i k
  | .scL i => evScL i
  | .told a => evTold (evE F a)
  | .idx i a => evIdx i (evE F a)
  | .rev a => ev1 gRev (evE F a)
  | .dget i a b => evDGet i (evE F a) (evE F b)
  | .dix i a => evDIx i (evE F a)
  | .din neg i a => evDIn neg i (evE F a)
  | .dlen i => evDLen i
  | .sitems i => evSItems i
  | .skeys i => evSKeys i
  | .dcN it t own q e => evDc1 lenL (evDc (evI F it) t own (evT F q) (evE F e))
  | .dcS it t own q e => evDc1 sortLD (evDc (evI F it) t own (evT F q) (evE F e))
  | _ => evStuck
/-- a test -/
def evT (F : Nat → Fn) : IX → Ev Bool
  | .tru a => evTru (evE F a)
  | .tev a => evB (evE F a)
  | .tnot a => evNot (evT F a)
  | .tif c a b => evIf (evT F c) (evT F a) (evT F b)
  | .tt => evTT
  | .ff => evFF
  | _ => evStuck
/-- values -/
def evA (F : Nat → Fn) : IX → Ev (List D)
  | .nil => evNil
  | .cons a as => evCons (evE F a) (evA F as)
  | _ => evStuck
/-- a call's arguments -/
def evS (F : Nat → Fn) : IX → Ev (List Sl)
  | .nil => evArgs0
  | .argC a as => evArgC (evE F a) (evS F as)
  | .argV i as => evArgV i (evS F as)
  | _ => evStuck
/-- what is walked -/
def evI (F : Nat → Fn) : IX → Ev (List D)
  | .seq a => evSeq (evE F a)
  | .enum as => evEnum (evA F as)
  | .zip2 as => evZip2 (evA F as)
  | .zip3 as => evZip3 (evA F as)
  | .rng1 as => evRng1 (evA F as)
  | .rng2 as => evRng2 (evA F as)
  | .scI i => evScI i
  | .rng3 as => evRng3 (evA F as)
  | _ => evStuck
/-- a slice's part -/
def evO (F : Nat → Fn) : IX → Ev (Option Int)
  | .none => evNoP
  | .tru a => evP (evE F a)
  | _ => evStuck
end

/-! ### the tree's side conditions -/
def star : Expr → Bool
  | .Starred .. => true
  | _ => false
theorem star_cons {e : Expr} {es : List Expr} {env : Env} (h : star e = false) : starEach (e :: es) env = (false, eval e env) :: starEach es env := by
  cases e <;> first | rfl | cases h
theorem star_none {pos : Pos} {env : Env} : ∀ {es : List Expr}, es.all (fun e => !star e) = true → (backTo pos (starEach es env)).any (·.1) = false
  | [], _ => rfl
  | e :: es, h => by
    rw [List.all_cons, Bool.and_eq_true] at h
    have h1 : star e = false := by simpa using h.1
    rw [star_cons h1]
    show (false || (backTo pos (starEach es env)).any (·.1)) = false
    rw [star_none h.2]
    rfl
/-- read as a truth value by truthy -/
def truOk : Expr → Bool
  | .Name .. => true
  | .Call .. => true
  | .Subscript .. => true
  | .BinOp .. => true
  | .Constant .. => true
  | .List .. => true
  | .Tuple .. => true
  | .ListComp .. => true
  | _ => false
theorem truOk_is {e : Expr} {env : Env} (h : truOk e = true) : ∀ whole, isTrue e env whole = (do let v ← whole; standAt e.pos; holding [v] (truthy v)) := by
  intro whole
  cases e <;> first | rfl | cases h
def ixOk : Expr → Bool
  | .Slice .. => false
  | _ => true
theorem ixOk_is {b : Expr} (h : ixOk b = true) : PlainIx b := by
  intro o i
  cases b <;> first | rfl | cases h
/-- not walked as a folded set -/
def foldOk : Expr → Bool
  | .Set .. => false
  | _ => true
theorem foldOk_is {e : Expr} {env : Env} (h : foldOk e = true) : ∀ x, foldedSetIterable e env x = pure x := by
  intro x
  cases e <;> first | rfl | cases h
def markOk : Expr → Bool
  | .Set .. => false
  | _ => true
theorem markOk_is {op : CmpOp} {e : Expr} (h : markOk e = true) : behindInMarks op e = false := by
  cases e <;> first | rfl | cases h
theorem markOk_last {op op' : CmpOp} {b c : Expr} (h : markOk c = true) : lastMarks [op, op'] [b, c] = false := markOk_is h

/-! ### where a def's code stands -/
structure CC where
  N : List Str
  sc : Scope
  raw : Scope
  fns : List (Str × Nat × Nat)
  cst : List (Str × D)
  drn : List Str
  scn : List Str
  nm : Str
  tld : Bool
  rse : Bool
  dp : Nat
  dcn : List Str
def bNames : List Str := ["len", "any", "all", "sum", "max", "min", "abs", "int", "list", "tuple", "range", "enumerate", "zip", "sorted", "set"]
def relabS (scope sc : Scope) : Scope := { scope with names := scope.names.map fun (n, k) => if (k == .free && sc.kind == .function && sc.names.lookup n == some .cell) then (n, .cell) else (n, k) }
theorem relab_is (scope : Scope) (env : Env) : relabel scope env = relabS scope env.scope := rfl
structure COk (c : CC) (F : Nat → Fn) (X : Cx) (E : XK) (C : Addr) : Prop where
  hN : X.N = c.N
  nd : c.N.Nodup
  sc : X.env.scope = c.sc
  calm : X.calm = true
  hu : X.A.units + 64 < cLine
  blt : ∀ x ∈ bNames, X.mg x = none
  pass : Passes (L2.CX X.prog X.w) X E
  lev : ∃ k, Room (k + c.dp) X.A ∧ (c.tld = true → ToldOk X C c.nm k) ∧ ∀ x id n, c.fns.lookup x = some (id, n) → ∃ f fd ps, FnOk X.prog X.w X.K X.mg X.base (L2.CX X.prog X.w) k f fd ps (spF X.K C n (F id)) ∧ X.mg x = some (.ref f) ∧ PySem.W.keepIn X.K (.ref f) = true ∧ Binds X.K fd ps []
  rse : c.rse = true → RaiseOk X E C
  fnc : ∀ x, c.raw.names.lookup x = some .cell → X.fn x = true
  cst : ∀ x d, c.cst.lookup x = some d → ∃ u v, X.mg x = some u ∧ RelV v u ∧ ∀ H, Dv X.K H v d
  pw : TabL.PW = some (X.prog, X.w)
theorem pass_EF {X : Cx} : Passes (L2.CX X.prog X.w) X EF := fun _ _ _ _ _ _ _ h => by
  obtain ⟨_, _, _, _, _, _, _, _, _, _, _, _, h⟩ := h
  exact h.elim
theorem COk.blk {c : CC} {F : Nat → Fn} {X : Cx} {E : XK} {C : Addr} (h : COk c F X E C) (s : Shared) (H : Hp) (scope : Scope) (cl : List (Str × Addr)) (C' : Addr) (fp : List Addr) :
    COk { c with sc := relabS scope c.sc, raw := scope, tld := false, rse := false } F (X.blk s H scope (compEnvC scope cl C' X.env) fp) EF C where
  hN := h.hN
  nd := h.nd
  sc := by
    show relabel scope X.env = _
    rw [relab_is, h.sc]
  calm := h.calm
  hu := h.hu
  blt := h.blt
  pass := pass_EF
  lev := by
    obtain ⟨k, h1, _, h3⟩ := h.lev
    exact ⟨k, h1, (fun z => nomatch z), h3⟩
  rse := fun z => nomatch z
  fnc := fun x hx => by
    show (scope.names.lookup x == some .cell) = true
    rw [beq_iff_eq]
    exact hx
  cst := h.cst
  pw := h.pw

/-- a lambda's body -/
def CC.lam (c : CC) (scope : Scope) : CC := { c with sc := scope, raw := scope, tld := false, rse := false, dp := 0 }
theorem COk.lam {c : CC} {F : Nat → Fn} {X : Cx} {E E' : XK} {C : Addr} {scope : Scope} {A : Around} {outer : List Env} {s : Shared} {H : Hp} {f c' : Addr} {k : Nat} (h : COk c F X E C) (L : LamX.LamS X.env.scope scope) (hr : Room k (A.deeper (LamX.lamEnv X scope s.heap.objs.size f c')))
    (hf : ∀ x id n, c.fns.lookup x = some (id, n) → ∃ f fd ps, FnOk X.prog X.w X.K X.mg X.base (L2.CX X.prog X.w) k f fd ps (spF X.K C n (F id)) ∧ X.mg x = some (.ref f) ∧ PySem.W.keepIn X.K (.ref f) = true ∧ Binds X.K fd ps []) :
    COk (c.lam scope) F (LamX.lamCx X A outer s H E' scope f c') E' C where
  hN := h.hN
  nd := h.nd
  sc := rfl
  calm := rfl
  hu := hr.units
  blt := h.blt
  pass := passes_call (takes_of rfl rfl rfl rfl) fun _ _ _ _ h => h
  lev := ⟨k, hr, (fun z => nomatch z), hf⟩
  rse := fun z => nomatch z
  fnc := fun x hx => ((L.own _ (PySem.mem_of_lookup (show scope.names.lookup x = some .cell from hx))).2 rfl).elim
  cst := h.cst
  pw := h.pw

/-! ### making -/
def visB (sc : Scope) (x : Str) : Bool := sc.names.lookup x == some .local || sc.names.lookup x == some .cell || sc.names.lookup x == some .free
def glB (sc : Scope) (x : Str) : Bool := sc.names.lookup x == some .globalImplicit
def nameOk (x : Str) : Bool := !(x == ("__debug__" : Str)) && !(x == ("__classdict__" : Str))
/-- a name's slot -/
def slotOf (c : CC) (x : Str) : Option Nat := if visB c.sc x && nameOk x then c.N.idxOf? x else none
def opOf : Operator → Option O2
  | .Add => some .add | .Sub => some .sub | .Mult => some .mul | .Pow => some .pow | .FloorDiv => some .div | .Mod => some .mod | .BitXor => some .xor | .BitAnd => some .and | .BitOr => some .or
  | _ => none
def cmpOf : CmpOp → Option O2
  | .Eq => some .eq | .NotEq => some .ne | .Lt => some .lt | .LtE => some .le | .Gt => some .gt | .GtE => some .ge | .Is => some .is | .IsNot => some .isn | .In => some .in_ | .NotIn => some .nin
def bltOf (x : Str) : Option Bi :=
  if x == ("len" : Str) then some .len else if x == ("any" : Str) then some .any else if x == ("all" : Str) then some .all else if x == ("sum" : Str) then some .sum
  else if x == ("max" : Str) then some .max else if x == ("min" : Str) then some .min else if x == ("abs" : Str) then some .abs else if x == ("int" : Str) then some .int
  else if x == ("list" : Str) then some .list else if x == ("tuple" : Str) then some .tuple else if x == ("sorted" : Str) then some .sorted else none
def constOf : Const → Option D
  | .none => some .none | .bool b => some (.bool b) | .int i => some (.int i) | .str s => some (.str s)
  | _ => none
def lE (f : Expr → Option IX) : List Expr → Option IX
  | [] => some .nil
  | e :: es => if star e then none else (f e).bind fun i => (lE f es).bind fun r => some (.cons i r)
/-- with the slots that are peeked at -/
def lKs (f : Expr → Option (List Nat × IX)) : List Expr → Option (List Nat × IX)
  | [] => some ([], .nil)
  | e :: es => if star e then none else (f e).bind fun i => (lKs f es).bind fun r => some (i.1 ++ r.1, .cons i.2 r.2)
def lS (c : CC) (f : Expr → Option IX) : List Expr → Option IX
  | [] => some .nil
  | e :: es => if star e then none else match e with
    | .Name x _ => match slotOf c x with
      | some i => (lS c f es).bind fun r => some (.argV i r)
      | none => (f e).bind fun i => (lS c f es).bind fun r => some (.argC i r)
    | _ => (f e).bind fun i => (lS c f es).bind fun r => some (.argC i r)
def tgs (f : Expr → Option Tg) : List Expr → Option Tg
  | [] => some .tnil
  | e :: es => if star e then none else (f e).bind fun a => (tgs f es).bind fun r => some (.tcons a r)
def tgOf (c : CC) : Nat → Expr → Option Tg
  | 0, _ => none
  | n + 1, e => match e with
    | .Name x _ => if c.sc.names.lookup x == some .local || (c.sc.names.lookup x == some .cell && c.raw.names.lookup x == some .cell) then (c.N.idxOf? x).map .nm else none
    | .Tuple es _ _ => (tgs (tgOf c n) es).map .tup
    | _ => none
end L2.DL

set_option Elab.async false
set_option linter.all false
set_option maxRecDepth 100000
set_option maxHeartbeats 4000000
/-! D layer 16: expressions from the tree. -/
namespace L2.DL
open PySem PySem.Spec PyProof.Rows
variable [TabL]

structure Cs where
  e : CC → Expr → Option IX
  k : CC → Expr → Option IX
  t : CC → Expr → Option IX
  i : CC → Expr → Expr → Option (List Nat × IX)
/-- a comprehension's own names with their slots -/
def ownOf (c : CC) (scope : Scope) : List (Str × Nat) := (scope.names.filter fun y => (y.2 == .local || y.2 == .cell) && c.N.contains y.1).map fun y => (y.1, c.N.idxOf y.1)
def BlkC (N : List Str) (sc scope : Scope) (own : List (Str × Nat)) : Prop :=
  scope.kind = .function ∧ (∀ y ∈ scope.names, scope.names.lookup y.1 = some y.2) ∧ (∀ p ∈ own, N[p.2]? = some p.1) ∧ (∀ y ∈ scope.names, y.2 = .free → sc.names.lookup y.1 = some .cell ∨ sc.names.lookup y.1 = some .free) ∧
  ∀ y ∈ scope.names, y.2 = .local ∨ y.2 = .cell → y.1 ∈ own.map (·.1) ∨ y.1 ∉ N
instance {N sc scope own} : Decidable (BlkC N sc scope own) := by unfold BlkC; infer_instance
theorem BlkC.ok {N sc scope own} (h : BlkC N sc scope own) : BlkOk N sc scope own := ⟨h.1, h.2.1, h.2.2.1, h.2.2.2.1, h.2.2.2.2⟩
/-- a range's call -/
def rgArgs (c : CC) : Expr → Option (List Expr)
  | .Call (.Name x _) [a] [] _ => if x == ("range" : Str) && glB c.sc x && !star a then some [a] else none
  | .Call (.Name x _) [a, b] [] _ => if x == ("range" : Str) && glB c.sc x && !star a && !star b then some [a, b] else none
  | _ => none
/-- a comprehension -/
def sLc (r : Cs) (c : CC) (elt tg iter : Expr) (ifs : List Expr) (scope : Scope) : Option IX :=
  if BlkC c.N c.sc scope (ownOf c scope) ∧ foldOk iter = true then
    (r.i c tg iter).bind fun (it : List Nat × IX) =>
    (tgOf { c with sc := relabS scope c.sc, raw := scope, tld := false, rse := false } 8 tg).bind fun t =>
    if t.slots.all (fun i => ((ownOf c scope).map (·.2)).contains i) then
      (match ifs with
        | [] => some IX.tt
        | [q] => r.t { c with sc := relabS scope c.sc, raw := scope, tld := false, rse := false } q
        | _ => none : Option IX).bind fun (q : IX) =>
      (r.e { c with sc := relabS scope c.sc, raw := scope, tld := false, rse := false } elt).bind fun e => some (IX.lc it.2 t ((ownOf c scope).map (·.2)) q e)
    else none
  else none
/-- a cell of the draws -/
def drOf (c : CC) (a b : Expr) : Option (Nat × Int) := match a, b with
  | .Name x _, .Constant (.int k) _ _ => if c.drn.contains x then (slotOf c x).bind fun i => some (i, k) else none
  | _, _ => none
/-- the script -/
def scOf (c : CC) (e : Expr) : Option Nat := match e with
  | .Name y _ => if c.scn.contains y then slotOf c y else none
  | _ => none
/-- set(b) -/
def setOf (c : CC) : Expr → Option Expr
  | .Call (.Name y _) [b] [] _ => if y == ("set" : Str) && glB c.sc y && !star b then some b else none
  | _ => none
def stepE0 (r : Cs) (c : CC) (e : Expr) : Option IX := match e with
  | .Name x _ => match slotOf c x with
    | some i => some (.var i)
    | none => if glB c.sc x && nameOk x then (c.cst.lookup x).map .c else none
  | .Constant k _ _ => (constOf k).map .c
  | .BinOp a op b _ => (opOf op).bind fun g => (r.k c a).bind fun ia => (r.k c b).bind fun ib => some (.b2 g ia ib)
  | .Compare a [op] [b] _ => if markOk b then (cmpOf op).bind fun g => (r.k c a).bind fun ia => (r.k c b).bind fun ib => some (.b2 g ia ib) else none
  | .Compare a [op, op'] [b, d] _ => if markOk d then (cmpOf op).bind fun g => (cmpOf op').bind fun g' => (r.k c a).bind fun ia => (r.k c b).bind fun ib => (r.k c d).bind fun id => some (.ch g g' ia ib id) else none
  | .BoolOp op [a] _ => r.e c a
  | .BoolOp .And (a :: b :: es) p => (r.e c a).bind fun ia => (r.e c (.BoolOp .And (b :: es) p)).bind fun ib => some (.andV ia ib)
  | .BoolOp .Or (a :: b :: es) p => (r.e c a).bind fun ia => (r.e c (.BoolOp .Or (b :: es) p)).bind fun ib => some (.orV ia ib)
  | .UnaryOp .Not a _ => (r.k c a).bind fun ia => some (.notV ia)
  | .UnaryOp .USub a _ => (r.e c a).bind fun ia => some (.neg ia)
  | .IfExp q a b _ => (r.t c q).bind fun iq => (r.e c a).bind fun ia => (r.e c b).bind fun ib => some (.ife iq ia ib)
  | .Subscript a (.Slice lo hi none _) _ => (r.k c a).bind fun ia => (match lo with
    | none => some IX.none
    | some l => (r.e c l).map .tru).bind fun il => (match hi with
    | none => some IX.none
    | some l => (r.e c l).map .tru).bind fun ih => some (.sl ia il ih)
  | .Subscript a (.Slice none none (some (.UnaryOp .USub (.Constant (.int n) _ _) _)) _) _ => if n = 1 then (r.k c a).bind fun ia => some (.rev ia) else none
  | .Subscript a b _ => match drOf c a b with
    | some d => some (.dr d.1 d.2)
    | none => if ixOk b then (r.k c a).bind fun ia => (r.k c b).bind fun ib => some (.ix ia ib) else none
  | .Tuple es _ _ => (lE (r.e c) es).bind fun as => some (.tup as)
  | .List es _ => (lE (r.e c) es).bind fun as => some (.lst as)
  | .ListComp elt [⟨tg, iter, ifs, 0⟩] scope _ => sLc r c elt tg iter ifs scope
  | .Call (.Name x _) [.Lambda ⟨[], [], none, [], [], none, []⟩ body scope _] [] _ => if x == ("_law_told" : Str) && glB c.sc x && c.tld && LamX.lamSB c.sc scope then (r.e (c.lam scope) body).bind fun i => some (.told i) else none
  | .Call (.Name x _) as [] _ => if glB c.sc x && nameOk x then
      match c.fns.lookup x with
      | some (f, n) => if as.length = n then (lS c (r.e c) as).bind fun is => some (.call f n is) else none
      | none => match as with
        | [] => none
        | a :: es =>
          match (if es.isEmpty && x == ("list" : Str) then scOf c a else none) with
          | some i => some (.scL i)
          | none =>
          match (if es.isEmpty then rgArgs c a else none) with
          | some ra => if x == ("list" : Str) then (lE (r.e c) ra).bind fun is => some (.listRg is) else if x == ("tuple" : Str) then (lE (r.e c) ra).bind fun is => some (.tupRg is) else none
          | none =>
          match (if es.isEmpty && x == ("sorted" : Str) then setOf c a else none) with
          | some b => (lE (r.k c) [b]).bind fun is => some (.bi .sset is)
          | none => (bltOf x).bind fun f => (lE (r.k c) (a :: es)).bind fun is => some (.bi f is)
    else none
  | .Call (.Attribute (.Name x _) m apos) [a] [] cpos => if m == ("index" : Str) && !star a && apos.endLine == cpos.line then (slotOf c x).bind fun i => (r.e c a).bind fun ia => some (.idx i ia) else none
  | _ => none
/-- a dict of one's own -/
def dctOf (c : CC) (x : Str) : Option Nat := if c.dcn.contains x then slotOf c x else none
def dcI (f : Str) : IX → Option IX
  | .lc it t own q e => if f == ("len" : Str) then some (.dcN it t own q e) else if f == ("sorted" : Str) then some (.dcS it t own q e) else none
  | _ => none
def dctE (r : Cs) (c : CC) (e : Expr) : Option IX := match e with
  | .Call (.Attribute (.Name x _) m apos) [a, b] [] cpos => if m == ("get" : Str) && !star a && !star b && apos.endLine == cpos.line then (dctOf c x).bind fun i => (r.e c a).bind fun ia => (r.e c b).bind fun ib => some (.dget i ia ib) else none
  | .Subscript (.Name x _) a _ => if ixOk a then (dctOf c x).bind fun i => (r.e c a).bind fun ia => some (.dix i ia) else none
  | .Compare a [.In] [.Name x _] _ => (dctOf c x).bind fun i => (r.e c a).bind fun ia => some (.din false i ia)
  | .Compare a [.NotIn] [.Name x _] _ => (dctOf c x).bind fun i => (r.e c a).bind fun ia => some (.din true i ia)
  | .Call (.Name f _) [.Name x _] [] _ => if glB c.sc f && (c.fns.lookup f).isNone then (if f == ("len" : Str) then (dctOf c x).bind fun i => some (.dlen i) else if f == ("sorted" : Str) then (dctOf c x).bind fun i => some (.skeys i) else none) else none
  | .Call (.Name f _) [.DictComp kx (.Constant (.bool true) _ _) [⟨tg, iter, ifs, 0⟩] scope _] [] _ => if glB c.sc f && (c.fns.lookup f).isNone then (sLc r c kx tg iter ifs scope).bind (dcI f) else none
  | .Call (.Name f _) [.Call (.Name s p2) [b] [] q2] [] _ => if f == ("len" : Str) && glB c.sc f && (c.fns.lookup f).isNone then (setOf c (.Call (.Name s p2) [b] [] q2)).bind fun b => (lE (r.k c) [b]).bind fun is => some (.bi .lset is) else none
  | .Call (.Name f _) [.Call (.Attribute (.Name x _) m apos) [] [] cpos] [] _ => if f == ("sorted" : Str) && m == ("items" : Str) && glB c.sc f && (c.fns.lookup f).isNone && apos.endLine == cpos.line then (dctOf c x).bind fun i => some (.sitems i) else none
  | _ => none
def stepE (r : Cs) (c : CC) (e : Expr) : Option IX := match dctE r c e with
  | some i => some i
  | none => stepE0 r c e
def stepK (r : Cs) (c : CC) (e : Expr) : Option IX := match e with
  | .Name x _ => match slotOf c x with
    | some i => some (.pk i)
    | none => r.e c e
  | _ => r.e c e
def stepT0 (r : Cs) (c : CC) (e : Expr) : Option IX := match e with
  | .Compare a [op] [b] _ => if markOk b then (cmpOf op).bind fun g => (r.k c a).bind fun ia => (r.k c b).bind fun ib => some (.tev (.b2 g ia ib)) else none
  | .Compare a [op, op'] [b, d] _ => if markOk d then (cmpOf op).bind fun g => (cmpOf op').bind fun g' => (r.k c a).bind fun ia => (r.k c b).bind fun ib => (r.k c d).bind fun id => some (.tev (.ch g g' ia ib id)) else none
  | .BoolOp _ [a] _ => r.t c a
  | .BoolOp .And (a :: b :: es) p => (r.t c a).bind fun ia => (r.t c (.BoolOp .And (b :: es) p)).bind fun ib => some (.tif ia ib .ff)
  | .BoolOp .Or (a :: b :: es) p => (r.t c a).bind fun ia => (r.t c (.BoolOp .Or (b :: es) p)).bind fun ib => some (.tif ia .tt ib)
  | .UnaryOp .Not a _ => (r.t c a).bind fun ia => some (.tnot ia)
  | _ => if truOk e then (r.k c e).bind fun i => some (.tru i) else none
def dctT (r : Cs) (c : CC) (e : Expr) : Option IX := match e with
  | .Compare a [.In] [.Name x _] _ => (dctOf c x).bind fun i => (r.e c a).bind fun ia => some (.tev (.din false i ia))
  | .Compare a [.NotIn] [.Name x _] _ => (dctOf c x).bind fun i => (r.e c a).bind fun ia => some (.tev (.din true i ia))
  | _ => none
def stepT (r : Cs) (c : CC) (e : Expr) : Option IX := match dctT r c e with
  | some i => some i
  | none => stepT0 r c e
/-- what a walk peeks at -/
def srcK (r : Cs) (c : CC) (e : Expr) : Option (List Nat × IX) := match e with
  | .Name x _ => match slotOf c x with
    | some i => some ([i], .pk i)
    | none => (r.e c e).bind fun i => some ([], i)
  | _ => (r.e c e).bind fun i => some ([], i)
def rg3 (c : CC) : Expr → Option (List Expr)
  | .Call (.Name x _) [a, b, d] [] _ => if x == ("range" : Str) && glB c.sc x && !star a && !star b && !star d then some [a, b, d] else none
  | _ => none
def stepI (r : Cs) (c : CC) (tg e : Expr) : Option (List Nat × IX) := match rg3 c e with
  | some as => (lE (r.e c) as).bind fun is => some ([], .rng3 is)
  | none => match rgArgs c e with
  | some [a] => (lE (r.e c) [a]).bind fun is => some ([], .rng1 is)
  | some as => (lE (r.e c) as).bind fun is => some ([], .rng2 is)
  | none => match scOf c e with
    | some i => some ([], .scI i)
    | none => match tg, e with
    | .Tuple .., .Call (.Name x _) as [] _ =>
      if x == ("enumerate" : Str) && glB c.sc x && decide (as.length = 1) then (lKs (srcK r c) as).bind fun is => some (is.1, .enum is.2)
      else if x == ("zip" : Str) && glB c.sc x && decide (as.length = 2) then (lKs (srcK r c) as).bind fun is => some (is.1, .zip2 is.2)
      else if x == ("zip" : Str) && glB c.sc x && decide (as.length = 3) then (lKs (srcK r c) as).bind fun is => some (is.1, .zip3 is.2)
      else (srcK r c e).bind fun i => some (i.1, .seq i.2)
    | _, _ => (srcK r c e).bind fun i => some (i.1, .seq i.2)
def cs : Nat → Cs
  | 0 => ⟨fun _ _ => none, fun _ _ => none, fun _ _ => none, fun _ _ _ => none⟩
  | n + 1 => ⟨stepE (cs n), stepK (cs n), stepT (cs n), stepI (cs n)⟩

/-! ### it is right -/
structure Snd (r : Cs) : Prop where
  e : ∀ c e i, r.e c e = some i → ∀ F X E C, COk c F X E C → DE X E C e (evE F i)
  k : ∀ c e i, r.k c e = some i → ∀ F X E C, COk c F X E C → DK X E C e (evE F i)
  t : ∀ c e i, r.t c e = some i → ∀ F X E C, COk c F X E C → DT X E C e (evT F i)
  w : ∀ c op es p i, r.t c (.BoolOp op es p) = some i → ∀ F X E C, COk c F X E C → DW X E C (.BoolOp op es p) (evT F i)
  i : ∀ c tg e i, r.i c tg e = some i → ∀ F X E C, COk c F X E C → DI X E C tg e i.1 (evI F i.2)

section
variable {r : Cs} {c : CC} {F : Nat → Fn} {X : Cx} {E : XK} {C : Addr} {e a b : Expr} {es : List Expr} {i : IX}
theorem visB_ok {sc : Scope} {x : Str} (h : visB sc x = true) : Vis sc x := by
  unfold visB at h
  simp only [Bool.or_eq_true, beq_iff_eq] at h
  rcases h with (h | h) | h
  · exact .inl h
  · exact .inr (.inl h)
  · exact .inr (.inr h)
theorem nameOk_ok {x : Str} (h : nameOk x = true) : (x == ("__debug__" : Str)) = false ∧ (x == ("__classdict__" : Str)) = false := by
  unfold nameOk at h
  simpa using h
theorem idx_ok {N : List Str} {x : Str} {j : Nat} (h : N.idxOf? x = some j) : N[j]? = some x := by
  obtain ⟨h1, h2, _⟩ := List.findIdx?_eq_some_iff_getElem.mp h
  rw [List.getElem?_eq_getElem h1]
  rw [beq_iff_eq.mp h2]
theorem slotOf_ok {x : Str} {j : Nat} (h : slotOf c x = some j) (o : COk c F X E C) : X.N[j]? = some x ∧ Vis X.env.scope x ∧ (x == ("__debug__" : Str)) = false ∧ (x == ("__classdict__" : Str)) = false := by
  unfold slotOf at h
  split at h
  · rename_i hv
    rw [Bool.and_eq_true] at hv
    exact ⟨by rw [o.hN]; exact idx_ok h, by rw [o.sc]; exact visB_ok hv.1, nameOk_ok hv.2⟩
  · cases h
theorem glB_ok {x : Str} (h : glB c.sc x = true) (o : COk c F X E C) : Gl X x := by
  unfold glB at h
  show X.env.scope.names.lookup x = _
  rw [o.sc]
  exact beq_iff_eq.mp h
theorem lE_dae (h : ∀ e i, r.e c e = some i → DE X E C e (evE F i)) : ∀ {es : List Expr} {i : IX}, lE (r.e c) es = some i → DAE X E C es (evA F i)
  | [], i, hi => by
    cases hi
    exact dae_nil
  | e :: es, i, hi => by
    unfold lE at hi
    split at hi
    · cases hi
    · rename_i hs
      simp only [Option.bind_eq_some_iff] at hi
      obtain ⟨i1, h1, i2, h2, h3⟩ := hi
      cases h3
      exact dae_cons (h e i1 h1) (lE_dae h h2) (star_cons (by simpa using hs))
theorem lE_star {f : Expr → Option IX} : ∀ {es : List Expr} {i : IX}, lE f es = some i → es.all (fun e => !star e) = true
  | [], i, hi => rfl
  | e :: es, i, hi => by
    unfold lE at hi
    split at hi
    · cases hi
    · rename_i hs
      simp only [Option.bind_eq_some_iff] at hi
      obtain ⟨i1, h1, i2, h2, h3⟩ := hi
      rw [List.all_cons, lE_star h2]
      simpa using hs
theorem lE_dak (h : ∀ e i, r.k c e = some i → DK X E C e (evE F i)) : ∀ {es : List Expr} {i : IX}, lE (r.k c) es = some i → DAK X E C es (evA F i)
  | [], i, hi => by
    cases hi
    exact dak_nil
  | e :: es, i, hi => by
    unfold lE at hi
    split at hi
    · cases hi
    · rename_i hs
      simp only [Option.bind_eq_some_iff] at hi
      obtain ⟨i1, h1, i2, h2, h3⟩ := hi
      cases h3
      exact dak_cons (h e i1 h1) (lE_dak h h2) (star_cons (by simpa using hs))
theorem lKs_ok {f : Expr → Option (List Nat × IX)} (h : ∀ e i, f e = some i → DKs X E C e i.1 (evE F i.2)) : ∀ {es : List Expr} {i : List Nat × IX}, lKs f es = some i → DAKs X E C es i.1 (evA F i.2)
  | [], i, hi => by
    cases hi
    exact daks_nil
  | e :: es, i, hi => by
    unfold lKs at hi
    split at hi
    · cases hi
    · rename_i hs
      simp only [Option.bind_eq_some_iff] at hi
      obtain ⟨i1, h1, i2, h2, h3⟩ := hi
      cases h3
      exact daks_cons (h e i1 h1) (lKs_ok h h2) (star_cons (by simpa using hs))
theorem lKs_star {f : Expr → Option (List Nat × IX)} : ∀ {es : List Expr} {i : List Nat × IX}, lKs f es = some i → es.all (fun e => !star e) = true
  | [], i, hi => rfl
  | e :: es, i, hi => by
    unfold lKs at hi
    split at hi
    · cases hi
    · rename_i hs
      simp only [Option.bind_eq_some_iff] at hi
      obtain ⟨i1, h1, i2, h2, h3⟩ := hi
      rw [List.all_cons, lKs_star h2]
      simpa using hs
theorem lS_ok (o : COk c F X E C) (h : ∀ e i, r.e c e = some i → DE X E C e (evE F i)) : ∀ {es : List Expr} {i : IX}, lS c (r.e c) es = some i → DAA X E C es (evS F i)
  | [], i, hi => by
    cases hi
    exact daa_nil
  | e :: es, i, hi => by
    have other : ∀ i, ((r.e c e).bind fun i => (lS c (r.e c) es).bind fun r => some (.argC i r)) = some i → star e = false → DAA X E C (e :: es) (evS F i) := fun i hi hs => by
      simp only [Option.bind_eq_some_iff] at hi
      obtain ⟨i1, h1, i2, h2, h3⟩ := hi
      cases h3
      exact daa_cons (h e i1 h1) (lS_ok o h h2) (star_cons hs)
    unfold lS at hi
    split at hi
    · cases hi
    · rename_i hs
      have hs' : star e = false := by simpa using hs
      split at hi
      · rename_i x p
        split at hi
        · rename_i j hj
          simp only [Option.bind_eq_some_iff] at hi
          obtain ⟨i2, h2, h3⟩ := hi
          cases h3
          obtain ⟨k1, k2, k3, k4⟩ := slotOf_ok hj o
          exact daa_var k1 k2 k3 k4 (lS_ok o h h2) (star_cons rfl)
        · exact other i hi hs'
      · exact other i hi hs'
theorem lS_star {f : Expr → Option IX} : ∀ {es : List Expr} {i : IX}, lS c f es = some i → es.all (fun e => !star e) = true
  | [], i, hi => rfl
  | e :: es, i, hi => by
    unfold lS at hi
    split at hi
    · cases hi
    · rename_i hs
      rw [List.all_cons]
      have hs' : star e = false := by simpa using hs
      rw [hs']
      have rest : ∃ i2, lS c f es = some i2 := by
        split at hi
        · split at hi
          · simp only [Option.bind_eq_some_iff] at hi
            obtain ⟨i2, h2, h3⟩ := hi
            exact ⟨i2, h2⟩
          · simp only [Option.bind_eq_some_iff] at hi
            obtain ⟨i1, h1, i2, h2, h3⟩ := hi
            exact ⟨i2, h2⟩
        · simp only [Option.bind_eq_some_iff] at hi
          obtain ⟨i1, h1, i2, h2, h3⟩ := hi
          exact ⟨i2, h2⟩
      obtain ⟨i2, h2⟩ := rest
      rw [lS_star h2]
      rfl
theorem tgs_ok {f : Expr → Option Tg} (h : ∀ e t, f e = some t → DG X e t) : ∀ {es : List Expr} {t : Tg}, tgs f es = some t → DGs X es t ∧ (assignEach es X.env).length = t.len ∧ (assignEach es X.env).findIdx? (·.1) = none
  | [], t, hi => by
    cases hi
    exact ⟨dgs_nil, rfl, rfl⟩
  | e :: es, t, hi => by
    unfold tgs at hi
    split at hi
    · cases hi
    · rename_i hs
      have hs' : star e = false := by simpa using hs
      simp only [Option.bind_eq_some_iff] at hi
      obtain ⟨i1, h1, i2, h2, h3⟩ := hi
      cases h3
      obtain ⟨q1, q2, q3⟩ := tgs_ok h h2
      have ha : assignEach (e :: es) X.env = (false, assign e X.env) :: assignEach es X.env := by
        cases e <;> first | rfl | cases hs'
      refine ⟨dgs_cons (h e i1 h1) q1 (by rw [ha]; rfl), by rw [ha, List.length_cons, q2]; rfl, ?_⟩
      rw [ha, List.findIdx?_cons, q3]
      rfl
theorem tgOf_ok (o : COk c F X E C) : ∀ {n : Nat} {e : Expr} {t : Tg}, tgOf c n e = some t → DG X e t
  | 0, _, _, h => by cases h
  | n + 1, e, t, h => by
    unfold tgOf at h
    split at h
    · rename_i x p
      split at h
      · rename_i hv
        simp only [Bool.or_eq_true, Bool.and_eq_true, beq_iff_eq] at hv
        cases hj : c.N.idxOf? x with
        | none => rw [hj] at h; cases h
        | some j =>
          rw [hj] at h
          cases h
          have hl : Loc X.env.scope x := by unfold Loc; rw [o.sc]; exact hv.imp id fun z => z.1
          exact dg_name (by rw [o.hN]; exact o.nd) (by rw [o.hN]; exact idx_ok hj) hl (by rw [o.sc]; exact hv.elim .inr fun z => .inl (o.fnc x z.2))
      · cases h
    · rename_i es _ _
      cases hj : tgs (tgOf c n) es with
      | none => rw [hj] at h; cases h
      | some ts =>
        rw [hj] at h
        cases h
        obtain ⟨q1, q2, q3⟩ := tgs_ok (fun e t h => tgOf_ok o h) hj
        exact dg_tup o.calm q1 q2 q3
    · cases h
end
end L2.DL

set_option Elab.async false
set_option linter.all false
set_option maxRecDepth 100000
set_option maxHeartbeats 4000000
/-! D layer 17: the making of expressions is right. -/
namespace L2.DL
open PySem PySem.Spec PyProof.Rows
variable [TabL]

section
variable {r : Cs} {c : CC} {F : Nat → Fn} {X : Cx} {E : XK} {C : Addr} {e a b : Expr} {es : List Expr} {i : IX}
theorem op_ok {op : Operator} {g : O2} (h : opOf op = some g) : ∃ r, OpR X (binaryOp op) r ∧ OpD X.K r g.g := by
  cases op <;> cases h
  · exact ⟨_, op_add4, d_add⟩
  · exact ⟨_, op_sub, d_sub⟩
  · exact ⟨_, op_mul3, d_mul⟩
  · exact ⟨_, op_mod, d_mod⟩
  · exact ⟨_, op_pow, d_pow⟩
  · exact ⟨_, op_or, d_or⟩
  · exact ⟨_, op_xor, d_xor⟩
  · exact ⟨_, op_and, d_and⟩
  · exact ⟨_, op_fdivW, d_div⟩
theorem cmp_ok (hu : X.A.units + 64 < cLine) {op : CmpOp} {g : O2} (h : cmpOf op = some g) : ∃ r, OpR X (compareOp op) r ∧ OpD X.K r g.g := by
  cases op <;> cases h
  · exact ⟨_, op_eqP hu, d_eq⟩
  · exact ⟨_, op_neP hu, d_ne⟩
  · exact ⟨_, op_lt, d_bl0⟩
  · exact ⟨_, op_le, d_bl0⟩
  · exact ⟨_, op_gt, d_bl0⟩
  · exact ⟨_, op_ge, d_bl0⟩
  · exact ⟨_, op_is2, d_is⟩
  · exact ⟨_, op_isnot2, d_is⟩
  · exact ⟨_, op_in2 hu, d_in⟩
  · exact ⟨_, op_notIn2 hu, d_in⟩
theorem blt_ok (hc : X.calm = true) (hu : X.A.units + 64 < cLine) {x : Str} {f : Bi} (h : bltOf x = some f) : x ∈ bNames ∧ x ≠ "__name__" ∧
    ((∃ T r, bootBuiltins x = some (.type T) ∧ CallR X (.type T) r ∧ CallD X.K r f.g) ∨ ∃ id r, bootBuiltins x = some (.builtin id) ∧ CallR X (.builtin id) r ∧ CallD X.K r f.g) := by
  unfold bltOf at h
  split at h
  · rename_i hx; cases h; rw [beq_iff_eq] at hx; subst hx
    exact ⟨by decide +kernel, by decide +kernel, .inr ⟨_, _, by kernel_rfl, call_len, d_len⟩⟩
  split at h
  · rename_i hx; cases h; rw [beq_iff_eq] at hx; subst hx
    exact ⟨by decide +kernel, by decide +kernel, .inr ⟨_, _, by kernel_rfl, cr_anyT hc, d_any⟩⟩
  split at h
  · rename_i hx; cases h; rw [beq_iff_eq] at hx; subst hx
    exact ⟨by decide +kernel, by decide +kernel, .inr ⟨_, _, by kernel_rfl, cr_allT hc, d_all⟩⟩
  split at h
  · rename_i hx; cases h; rw [beq_iff_eq] at hx; subst hx
    exact ⟨by decide +kernel, by decide +kernel, .inr ⟨_, _, by kernel_rfl, cr_sumA hc, d_sum⟩⟩
  split at h
  · rename_i hx; cases h; rw [beq_iff_eq] at hx; subst hx
    exact ⟨by decide +kernel, by decide +kernel, .inr ⟨_, _, by kernel_rfl, cr_max2 hc hu, d_max⟩⟩
  split at h
  · rename_i hx; cases h; rw [beq_iff_eq] at hx; subst hx
    exact ⟨by decide +kernel, by decide +kernel, .inr ⟨_, _, by kernel_rfl, cr_min2 hc hu, d_min⟩⟩
  split at h
  · rename_i hx; cases h; rw [beq_iff_eq] at hx; subst hx
    exact ⟨by decide +kernel, by decide +kernel, .inr ⟨_, _, by kernel_rfl, call_abs, d_abs⟩⟩
  split at h
  · rename_i hx; cases h; rw [beq_iff_eq] at hx; subst hx
    exact ⟨by decide +kernel, by decide +kernel, .inl ⟨_, _, by kernel_rfl, call_int1, d_int⟩⟩
  split at h
  · rename_i hx; cases h; rw [beq_iff_eq] at hx; subst hx
    exact ⟨by decide +kernel, by decide +kernel, .inl ⟨_, _, by kernel_rfl, call_list_of, d_list⟩⟩
  split at h
  · rename_i hx; cases h; rw [beq_iff_eq] at hx; subst hx
    exact ⟨by decide +kernel, by decide +kernel, .inl ⟨_, _, by kernel_rfl, call_tuple_of, d_tuple⟩⟩
  split at h
  · rename_i hx; cases h; rw [beq_iff_eq] at hx; subst hx
    exact ⟨by decide +kernel, by decide +kernel, .inr ⟨_, _, by kernel_rfl, cr_sortedD hu, d_sorted⟩⟩
  · cases h
theorem const_ok {k : Const} {d : DL.D} {j pos} (h : constOf k = some d) : DE X E C (.Constant k j pos) (evC d) := by
  cases k <;> cases h
  · exact de_c pe_non fun _ => .non
  · exact de_c pe_bl fun _ => .bl _
  · exact de_c pe_int fun _ => .int _
  · exact de_c pe_str fun _ => .str _
theorem setOf_ok {b : Expr} (h : setOf c e = some b) (o : COk c F X E C) : ∃ p pos, e = .Call (.Name "set" p) [b] [] pos ∧ Gl X "set" ∧ star b = false := by
  unfold setOf at h
  split at h
  · split at h
    · rename_i hb
      cases h
      simp only [Bool.and_eq_true, beq_iff_eq, Bool.not_eq_true'] at hb
      obtain ⟨⟨h1, h2⟩, h3⟩ := hb
      subst h1
      exact ⟨_, _, rfl, glB_ok h2 o, h3⟩
    · cases h
  · cases h
/-- a range's arguments -/
theorem rgArgs_ok {ra : List Expr} (h : rgArgs c e = some ra) (o : COk c F X E C) : ∃ p pos, e = .Call (.Name "range" p) ra [] pos ∧ Gl X "range" ∧ ((∃ a, ra = [a] ∧ star a = false) ∨ ∃ a b, ra = [a, b] ∧ star a = false ∧ star b = false) := by
  unfold rgArgs at h
  split at h
  · split at h
    · rename_i hb
      cases h
      simp only [Bool.and_eq_true, beq_iff_eq] at hb
      obtain ⟨⟨h1, h2⟩, h3⟩ := hb
      subst h1
      exact ⟨_, _, rfl, glB_ok h2 o, .inl ⟨_, rfl, by simpa using h3⟩⟩
    · cases h
  · split at h
    · rename_i hb
      cases h
      simp only [Bool.and_eq_true, beq_iff_eq] at hb
      obtain ⟨⟨⟨h1, h2⟩, h3⟩, h4⟩ := hb
      subst h1
      exact ⟨_, _, rfl, glB_ok h2 o, .inr ⟨_, _, rfl, by simpa using h3, by simpa using h4⟩⟩
    · cases h
  · cases h
theorem rg_ok (s : Snd r) {ra : List Expr} {is : IX} (o : COk c F X E C) (h : rgArgs c e = some ra) (hl : lE (r.e c) ra = some is) : DRg X E C e (evRgA (evA F is)) := by
  obtain ⟨p, pos, rfl, hg, hh⟩ := rgArgs_ok h o
  have hm := o.blt "range" (by decide +kernel)
  rcases hh with ⟨a, rfl, sa⟩ | ⟨a, b, rfl, sa, sb⟩
  · simp only [lE, sa, Bool.false_eq_true, if_false, Option.bind_eq_some_iff] at hl
    obtain ⟨i1, h1, i2, h2, h3⟩ := hl
    cases h2; cases h3
    exact drg_1 hg hm (s.e c a i1 h1 F X E C o) (star_cons sa)
  · simp only [lE, sa, sb, Bool.false_eq_true, if_false, Option.bind_eq_some_iff] at hl
    obtain ⟨i1, h1, i2, ⟨i3, h4, i4, h5, h6⟩, h3⟩ := hl
    cases h5; cases h6; cases h3
    exact drg_2 (star_none (by simp [sb])) hg hm (s.e c a i1 h1 F X E C o) (s.e c b i3 h4 F X E C o) (star_cons sa) (star_cons sb)
theorem part_ok (s : Snd r) (o : COk c F X E C) {lo : Option Expr} {il : IX} (h : (match lo with
    | none => some IX.none
    | some l => (r.e c l).map .tru) = some il) : DO X E C lo (evO F il) := by
  split at h
  · cases h; exact do_none
  · rename_i l
    cases hl : r.e c l with
    | none => rw [hl] at h; cases h
    | some j =>
      rw [hl] at h
      cases h
      exact do_some (s.e c l j hl F X E C o)
theorem sLc_ok (s : Snd r) {elt tg iter : Expr} {ifs : List Expr} {scope : Scope} (o : COk c F X E C) (h : sLc r c elt tg iter ifs scope = some i) : ∃ vs it t iq ie, i = .lc it t ((ownOf c scope).map (·.2)) iq ie ∧ DI X E C tg iter vs (evI F it) ∧ BlkOk X.N X.env.scope scope (ownOf c scope) ∧
    (∀ (s : Shared) (H : Hp) (C' : Addr) (cl : List (Str × Addr)) (fp : List Addr), DG (X.blk s H scope (compEnvC scope cl C' X.env) fp) tg t) ∧
    (∀ (s : Shared) (H : Hp) (C' : Addr) (cl : List (Str × Addr)) (fp : List Addr), DTs (X.blk s H scope (compEnvC scope cl C' X.env) fp) EF C ifs (evT F iq)) ∧
    (∀ (s : Shared) (H : Hp) (C' : Addr) (cl : List (Str × Addr)) (fp : List Addr), DE (X.blk s H scope (compEnvC scope cl C' X.env) fp) EF C elt (evE F ie)) ∧
    (∀ x, foldedSetIterable iter X.env x = pure x) ∧ ∀ i ∈ t.slots, i ∈ (ownOf c scope).map (·.2) := by
  unfold sLc at h
  split at h
  · rename_i hb
    simp only [Option.bind_eq_some_iff] at h
    obtain ⟨it, h1, t, h2, h⟩ := h
    split at h
    · rename_i ht
      simp only [Option.bind_eq_some_iff] at h
      obtain ⟨q, h3, ie, h4, h5⟩ := h
      cases h5
      refine ⟨it.1, it.2, t, q, ie, rfl, s.i c tg iter it h1 F X E C o, by rw [o.hN, o.sc]; exact hb.1.ok, fun s H C' cl fp => tgOf_ok (o.blk s H scope cl C' fp) h2, fun s2 H C' cl fp => ?_, fun s2 H C' cl fp => s.e _ elt ie h4 F _ EF C (o.blk s2 H scope cl C' fp), foldOk_is hb.2, fun j hj => ?_⟩
      · have ob := o.blk s2 H scope cl C' fp
        split at h3
        · cases h3
          exact (by rw [evT]; exact dts_nil)
        · exact dts_one (s.t _ _ q h3 F _ EF C ob)
        · cases h3
      · have := List.all_eq_true.mp ht j hj
        exact List.contains_iff_mem.mp this
    · cases h
  · cases h
theorem drOf_ok {d : Nat × Int} {pos : Pos} (h : drOf c a b = some d) (o : COk c F X E C) : DE X E C (.Subscript a b pos) (evE F (.dr d.1 d.2)) := by
  unfold drOf at h
  split at h
  · split at h
    · simp only [Option.bind_eq_some_iff] at h
      obtain ⟨i, h1, h2⟩ := h
      cases h2
      obtain ⟨k1, k2, k3, k4⟩ := slotOf_ok h1 o
      rw [evE]
      exact de_dr k1 k2 k3 k4
    · cases h
  · cases h
theorem scOf_ok {j : Nat} (h : scOf c e = some j) (o : COk c F X E C) : ∃ y p, e = .Name y p ∧ X.N[j]? = some y ∧ Vis X.env.scope y ∧ (y == ("__debug__" : Str)) = false ∧ (y == ("__classdict__" : Str)) = false := by
  unfold scOf at h
  split at h
  · split at h
    · exact ⟨_, _, rfl, slotOf_ok h o⟩
    · cases h
  · cases h
theorem stepK_ok (s : Snd r) (h : stepK r c e = some i) (o : COk c F X E C) : DK X E C e (evE F i) := by
  unfold stepK at h
  split at h
  · split at h
    · rename_i j hj
      cases h
      obtain ⟨k1, k2, k3, k4⟩ := slotOf_ok hj o
      rw [evE]
      exact dk_var k1 k2 k3 k4
    · exact (s.e c _ i h F X E C o).dk
  · exact (s.e c _ i h F X E C o).dk
theorem stepE0_ok (s : Snd r) (h : stepE0 r c e = some i) (o : COk c F X E C) : DE X E C e (evE F i) := by
  unfold stepE0 at h
  split at h
  · -- a name
    split at h
    · rename_i j hj
      cases h
      obtain ⟨k1, k2, k3, k4⟩ := slotOf_ok hj o
      rw [evE]
      exact de_var k1 k2 k3 k4
    · split at h
      · rename_i x p _ _ hb
        rw [Bool.and_eq_true] at hb
        cases hd : c.cst.lookup x with
        | none => rw [hd] at h; cases h
        | some d =>
          rw [hd] at h
          cases h
          obtain ⟨u, v, h1, h2, h3⟩ := o.cst x d hd
          rw [evE]
          exact de_c (pe_glob (glB_ok hb.1 o) h1 h2 (nameOk_ok hb.2).1) h3
      · cases h
  · -- a constant
    rename_i k _ _
    cases hk : constOf k with
    | none => rw [hk] at h; cases h
    | some d =>
      rw [hk] at h
      cases h
      rw [evE]
      exact const_ok hk
  · simp only [Option.bind_eq_some_iff] at h
    obtain ⟨g, h1, ia, h2, ib, h3, h4⟩ := h
    cases h4
    obtain ⟨r0, q1, q2⟩ := op_ok (X := X) h1
    rw [evE]
    exact de_bin q1 q2 (s.k c _ ia h2 F X E C o) (s.k c _ ib h3 F X E C o)
  · split at h
    · rename_i hm
      simp only [Option.bind_eq_some_iff] at h
      obtain ⟨g, h1, ia, h2, ib, h3, h4⟩ := h
      cases h4
      obtain ⟨r0, q1, q2⟩ := cmp_ok (X := X) o.hu h1
      rw [evE]
      exact de_cmp q1 q2 (markOk_is hm) (s.k c _ ia h2 F X E C o) (s.k c _ ib h3 F X E C o)
    · cases h
  · split at h
    · rename_i hm
      simp only [Option.bind_eq_some_iff] at h
      obtain ⟨g, h1, g', h1', ia, h2, ib, h3, id, h5, h4⟩ := h
      cases h4
      obtain ⟨r0, q1, q2⟩ := cmp_ok (X := X) o.hu h1
      obtain ⟨r1, q3, q4⟩ := cmp_ok (X := X) o.hu h1'
      rw [evE]
      exact de_chain q1 q3 q2 q4 (markOk_last hm) (s.k c _ ia h2 F X E C o) (s.k c _ ib h3 F X E C o) (s.k c _ id h5 F X E C o)
    · cases h
  · exact de_one (s.e c _ i h F X E C o)
  · simp only [Option.bind_eq_some_iff] at h
    obtain ⟨ia, h2, ib, h3, h4⟩ := h
    cases h4
    rw [evE]
    exact de_and (s.e c _ ia h2 F X E C o) (s.e c _ ib h3 F X E C o)
  · simp only [Option.bind_eq_some_iff] at h
    obtain ⟨ia, h2, ib, h3, h4⟩ := h
    cases h4
    rw [evE]
    exact de_or (s.e c _ ia h2 F X E C o) (s.e c _ ib h3 F X E C o)
  · simp only [Option.bind_eq_some_iff] at h
    obtain ⟨ia, h2, h4⟩ := h
    cases h4
    rw [evE]
    exact de_not (s.k c _ ia h2 F X E C o)
  · simp only [Option.bind_eq_some_iff] at h
    obtain ⟨ia, h2, h4⟩ := h
    cases h4
    rw [evE]
    exact de_neg (s.e c _ ia h2 F X E C o)
  · simp only [Option.bind_eq_some_iff] at h
    obtain ⟨iq, h1, ia, h2, ib, h3, h4⟩ := h
    cases h4
    rw [evE]
    exact de_if (s.t c _ iq h1 F X E C o) (s.e c _ ia h2 F X E C o) (s.e c _ ib h3 F X E C o)
  · simp only [Option.bind_eq_some_iff] at h
    obtain ⟨ia, h2, il, h3, ih, h5, h4⟩ := h
    cases h4
    rw [evE]
    exact de_slice (s.k c _ ia h2 F X E C o) (part_ok s o h3) (part_ok s o h5)
  · split at h
    · rename_i hn
      subst hn
      simp only [Option.bind_eq_some_iff] at h
      obtain ⟨ia, h2, h4⟩ := h
      cases h4
      rw [evE]
      exact de_rev (s.k c _ ia h2 F X E C o)
    · cases h
  · split at h
    · rename_i d hd
      cases h
      exact drOf_ok hd o
    split at h
    · rename_i hb
      simp only [Option.bind_eq_some_iff] at h
      obtain ⟨ia, h2, ib, h3, h4⟩ := h
      cases h4
      rw [evE]
      exact de_ix (s.k c _ ia h2 F X E C o) (s.k c _ ib h3 F X E C o) (ixOk_is hb)
    · cases h
  · simp only [Option.bind_eq_some_iff] at h
    obtain ⟨as, h2, h4⟩ := h
    cases h4
    rw [evE]
    exact de_tup (lE_dae (fun e i h => s.e c e i h F X E C o) h2)
  · simp only [Option.bind_eq_some_iff] at h
    obtain ⟨as, h2, h4⟩ := h
    cases h4
    rw [evE]
    exact de_lst (lE_dae (fun e i h => s.e c e i h F X E C o) h2)
  · obtain ⟨vs, fi, t, ft, fe, q0, q1, q2, q3, q4, q5, q6, q7⟩ := sLc_ok s o h
    subst q0
    rw [evE]
    exact de_lc o.calm (by rw [o.hN]; exact o.nd) q1 q2 q3 q4 q5 q6 q7
  · split at h
    · rename_i hb
      simp only [Bool.and_eq_true, beq_iff_eq] at hb
      obtain ⟨⟨⟨h1, h2⟩, h3⟩, h4⟩ := hb
      subst h1
      simp only [Option.bind_eq_some_iff] at h
      obtain ⟨ib, h5, h6⟩ := h
      cases h6
      rw [evE]
      obtain ⟨k, hr, ht, hfs⟩ := o.lev
      have L := LamX.lamS_by (sc := X.env.scope) (by rw [o.sc]; exact h4)
      exact de_told (ht h3) (glB_ok h2 o) L rfl (fun _ _ _ _ _ => rfl) fun A outer s2 H E2 f c' hr2 => s.e _ _ ib h5 F _ E2 C (o.lam L hr2 hfs)
    · cases h
  · split at h
    · rename_i x p as pos _ hb
      rw [Bool.and_eq_true] at hb
      have hg := glB_ok hb.1 o
      have hd := (nameOk_ok hb.2).1
      split at h
      · rename_i f n hf
        split at h
        case isFalse => cases h
        rename_i hlen
        simp only [Option.bind_eq_some_iff] at h
        obtain ⟨is, h2, h4⟩ := h
        cases h4
        rw [evE]
        obtain ⟨k, hr, _, hfs⟩ := o.lev
        obtain ⟨fa, fd, ps, FO, hm, hk, hbd⟩ := hfs x f n hf
        have hr : Room k X.A := hr.mono (Nat.le_add_right _ _)
        have ha := lS_ok o (fun e i h => s.e c e i h F X E C o) h2
        have hst := lS_star h2
        cases as with
        | nil =>
          have e1 : is = .nil := by cases h2; rfl
          subst e1
          rw [evS]
          subst hlen
          exact de_call0 FO hr hg hm hk hbd o.pass hd
        | cons a es =>
          rw [List.all_cons, Bool.and_eq_true] at hst
          exact de_call FO hr hg hm hk hbd o.pass ha hd (star_cons (by simpa using hst.1)) (star_none hst.2)
      · split at h
        · cases h
        · rename_i a es _
          split at h
          · rename_i j hj
            cases h
            split at hj
            · rename_i hb2
              simp only [Bool.and_eq_true, beq_iff_eq] at hb2
              obtain ⟨hes, hx⟩ := hb2
              subst hx
              have hes' : es = [] := by simpa using hes
              subst hes'
              obtain ⟨y, p, rfl, k1, k2, k3, k4⟩ := scOf_ok hj o
              rw [evE]
              exact de_listScr (y := y) k1 k2 k3 k4 hg (o.blt _ (by decide +kernel))
            · cases hj
          split at h
          · rename_i ra hra
            have hes : es = [] ∧ rgArgs c a = some ra := by
              split at hra
              · rename_i he; exact ⟨by simpa using he, hra⟩
              · cases hra
            obtain ⟨rfl, hra⟩ := hes
            have sa : star a = false := by
              obtain ⟨_, _, rfl, _⟩ := rgArgs_ok hra o
              rfl
            split at h
            · rename_i hx
              rw [beq_iff_eq] at hx
              subst hx
              simp only [Option.bind_eq_some_iff] at h
              obtain ⟨is, h2, h4⟩ := h
              cases h4
              rw [evE]
              exact (df_listRg o.calm hg (o.blt _ (by decide +kernel)) (rg_ok s o hra h2) (star_cons sa)).de
            · split at h
              · rename_i hx
                rw [beq_iff_eq] at hx
                subst hx
                simp only [Option.bind_eq_some_iff] at h
                obtain ⟨is, h2, h4⟩ := h
                cases h4
                rw [evE]
                exact de_tupRg o.calm hg (o.blt _ (by decide +kernel)) (rg_ok s o hra h2) (star_cons sa)
              · cases h
          split at h
          · rename_i b hb2
            split at hb2
            · rename_i hb3
              simp only [Bool.and_eq_true, beq_iff_eq] at hb3
              obtain ⟨hes, hx⟩ := hb3
              subst hx
              have hes' : es = [] := by simpa using hes
              subst hes'
              obtain ⟨p2, q, rfl, hg2, sb⟩ := setOf_ok hb2 o
              simp only [Option.bind_eq_some_iff] at h
              obtain ⟨is, h2, h4⟩ := h
              cases h4
              rw [evE]
              exact de_sset o.calm hg (o.blt _ (by decide +kernel)) hg2 (o.blt _ (by decide +kernel)) (lE_dak (fun e i h => s.k c e i h F X E C o) h2) (star_cons sb) rfl
            · cases hb2
          · simp only [Option.bind_eq_some_iff] at h
            obtain ⟨f, h1, is, h2, h4⟩ := h
            cases h4
            rw [evE]
            have ha := lE_dak (fun e i h => s.k c e i h F X E C o) h2
            have hst := lE_star h2
            rw [List.all_cons, Bool.and_eq_true] at hst
            obtain ⟨m1, m2, m3⟩ := blt_ok (X := X) o.calm o.hu h1
            rcases m3 with ⟨T, r0, q1, q2, q3⟩ | ⟨id, r0, q1, q2, q3⟩
            · exact de_callTy q3 q2 hg (o.blt x m1) q1 ha m2 hd (star_cons (by simpa using hst.1)) (star_none hst.2)
            · exact de_callB q3 q2 hg (o.blt x m1) q1 ha m2 hd (star_cons (by simpa using hst.1)) (star_none hst.2)
    · cases h
  · split at h
    · rename_i hb
      simp only [Bool.and_eq_true, beq_iff_eq] at hb
      obtain ⟨⟨h1, h2⟩, h3⟩ := hb
      subst h1
      simp only [Option.bind_eq_some_iff] at h
      obtain ⟨i, h4, ia, h5, h6⟩ := h
      cases h6
      obtain ⟨k1, k2, k3, k4⟩ := slotOf_ok h4 o
      have sa := Bool.not_eq_true' _ |>.mp h2
      obtain ⟨k, hr, _, _⟩ := o.lev
      have hu : X.A.units + 65 < cLine := by have := hr.un; omega
      rw [evE]
      exact de_index hu k1 k2 k3 k4 (s.e c _ ia h5 F X E C o) ⟨rfl, by rw [beq_iff_eq]; exact h3, star_cons sa⟩
    · cases h
  · cases h
theorem dctOf_ok {x : Str} {j : Nat} (h : dctOf c x = some j) (o : COk c F X E C) : X.N[j]? = some x ∧ Vis X.env.scope x ∧ (x == ("__debug__" : Str)) = false ∧ (x == ("__classdict__" : Str)) = false := by
  unfold dctOf at h
  split at h
  · exact slotOf_ok h o
  · cases h
theorem noSl_is {a : Expr} (h : ixOk a = true) : NoSl a := by
  intro ov iv
  cases a <;> first | rfl | cases h
theorem dctE_ok (s : Snd r) (h : dctE r c e = some i) (o : COk c F X E C) : DE X E C e (evE F i) := by
  have hu : X.A.units + 1 + 8 < cLine := by have := o.hu; omega
  unfold dctE at h
  split at h
  · split at h
    · rename_i hb
      simp only [Bool.and_eq_true, beq_iff_eq, Bool.not_eq_true'] at hb
      obtain ⟨⟨⟨b1, b2⟩, b3⟩, b4⟩ := hb
      subst b1
      simp only [Option.bind_eq_some_iff] at h
      obtain ⟨i, h1, ia, h2, ib, h3, h4⟩ := h
      cases h4
      obtain ⟨k1, k2, k3, k4⟩ := dctOf_ok h1 o
      rw [evE]
      exact de_dget hu o.pw k1 k2 k3 k4 (s.e c _ ia h2 F X E C o) (s.e c _ ib h3 F X E C o) ⟨rfl, by rw [beq_iff_eq]; exact b4, star_cons b2, star_cons b3⟩
    · cases h
  · split at h
    · rename_i hb
      simp only [Option.bind_eq_some_iff] at h
      obtain ⟨i, h1, ia, h2, h4⟩ := h
      cases h4
      obtain ⟨k1, k2, k3, k4⟩ := dctOf_ok h1 o
      rw [evE]
      exact de_dix hu o.pw k1 k2 k3 k4 (s.e c _ ia h2 F X E C o) (noSl_is hb)
    · cases h
  · simp only [Option.bind_eq_some_iff] at h
    obtain ⟨i, h1, ia, h2, h4⟩ := h
    cases h4
    obtain ⟨k1, k2, k3, k4⟩ := dctOf_ok h1 o
    rw [evE]
    exact de_din false hu o.pw k1 k2 k3 k4 (s.e c _ ia h2 F X E C o) rfl
  · simp only [Option.bind_eq_some_iff] at h
    obtain ⟨i, h1, ia, h2, h4⟩ := h
    cases h4
    obtain ⟨k1, k2, k3, k4⟩ := dctOf_ok h1 o
    rw [evE]
    exact de_din true hu o.pw k1 k2 k3 k4 (s.e c _ ia h2 F X E C o) rfl
  · split at h
    · rename_i hb
      simp only [Bool.and_eq_true] at hb
      split at h
      · rename_i hx
        rw [beq_iff_eq] at hx
        subst hx
        simp only [Option.bind_eq_some_iff] at h
        obtain ⟨i, h1, h4⟩ := h
        cases h4
        obtain ⟨k1, k2, k3, k4⟩ := dctOf_ok h1 o
        rw [evE]
        exact de_dlen o.pw k1 k2 k3 k4 (glB_ok hb.1 o) (o.blt _ (by decide +kernel)) rfl
      · split at h
        · rename_i hx
          rw [beq_iff_eq] at hx
          subst hx
          simp only [Option.bind_eq_some_iff] at h
          obtain ⟨i, h1, h4⟩ := h
          cases h4
          obtain ⟨k1, k2, k3, k4⟩ := dctOf_ok h1 o
          rw [evE]
          exact de_skeys o.calm o.hu o.pw (glB_ok hb.1 o) (o.blt _ (by decide +kernel)) k1 k2 k3 k4 rfl
        · cases h
    · cases h
  · split at h
    · rename_i hb
      simp only [Bool.and_eq_true] at hb
      simp only [Option.bind_eq_some_iff] at h
      obtain ⟨l, h1, h4⟩ := h
      obtain ⟨vs, fi, t, ft, fe, q0, q1, q2, q3, q4, q5, q6, q7⟩ := sLc_ok s o h1
      subst q0
      have h5 := h4
      simp only [dcI] at h5
      split at h5
      · rename_i hx
        rw [beq_iff_eq] at hx
        subst hx
        cases h5
        rw [evE]
        exact de_dc o.calm (by rw [o.hN]; exact o.nd) cr_lenKd PySem.boot_len (glB_ok hb.1 o) (o.blt _ (by decide +kernel)) (by decide +kernel) (by decide +kernel) hr_len q1 q2 q3 q4 q5 (fun s H C' cl fp => pe_bl) q6 q7 rfl
      · split at h5
        · rename_i hx
          rw [beq_iff_eq] at hx
          subst hx
          cases h5
          rw [evE]
          exact de_dc o.calm (by rw [o.hN]; exact o.nd) (cr_sortR o.calm o.hu o.pw) PyProof.Rows.boot_sorted (glB_ok hb.1 o) (o.blt _ (by decide +kernel)) (by decide +kernel) (by decide +kernel) hr_sort q1 q2 q3 q4 q5 (fun s H C' cl fp => pe_bl) q6 q7 rfl
        · cases h5
    · cases h
  · split at h
    · rename_i hb
      simp only [Bool.and_eq_true, beq_iff_eq] at hb
      obtain ⟨⟨b1, b2⟩, b3⟩ := hb
      subst b1
      simp only [Option.bind_eq_some_iff] at h
      obtain ⟨b', h1, is, h2, h4⟩ := h
      cases h4
      obtain ⟨p2, q, hq, hg2, sb⟩ := setOf_ok h1 o
      cases hq
      rw [evE]
      exact de_lset o.calm (glB_ok b2 o) (o.blt _ (by decide +kernel)) hg2 (o.blt _ (by decide +kernel)) (lE_dak (fun e i h => s.k c e i h F X E C o) h2) (star_cons sb) rfl
    · cases h
  · split at h
    · rename_i hb
      simp only [Bool.and_eq_true, beq_iff_eq] at hb
      obtain ⟨⟨⟨⟨b1, b2⟩, b3⟩, b4⟩, b5⟩ := hb
      subst b1
      subst b2
      simp only [Option.bind_eq_some_iff] at h
      obtain ⟨i, h1, h4⟩ := h
      cases h4
      obtain ⟨k1, k2, k3, k4⟩ := dctOf_ok h1 o
      rw [evE]
      exact de_sitems o.calm o.hu o.pw (glB_ok b3 o) (o.blt _ (by decide +kernel)) k1 k2 k3 k4 rfl (by rw [beq_iff_eq]; exact b5) rfl
    · cases h
  · cases h
theorem stepE_ok (s : Snd r) (h : stepE r c e = some i) (o : COk c F X E C) : DE X E C e (evE F i) := by
  unfold stepE at h
  split at h
  · rename_i j hj
    cases h
    exact dctE_ok s hj o
  · exact stepE0_ok s h o
theorem stepW_ok (s : Snd r) {op : BoolOp} {p : Pos} (h : stepT0 r c (.BoolOp op es p) = some i) (o : COk c F X E C) : DW X E C (.BoolOp op es p) (evT F i) := by
  unfold stepT0 at h
  split at h
  · rename_i he; cases he
  · rename_i he; cases he
  · rename_i op a _ he
    cases he
    have hd := s.t c _ i h F X E C o
    cases op
    · exact dw_one_and hd
    · exact dw_one_or hd
  · rename_i he
    cases he
    simp only [Option.bind_eq_some_iff] at h
    obtain ⟨i1, h1, i2, h2, h3⟩ := h
    cases h3
    rw [evT]
    exact dw_and (s.t c _ i1 h1 F X E C o) (s.w c _ _ _ i2 h2 F X E C o)
  · rename_i he
    cases he
    simp only [Option.bind_eq_some_iff] at h
    obtain ⟨i1, h1, i2, h2, h3⟩ := h
    cases h3
    rw [evT]
    exact dw_or (s.t c _ i1 h1 F X E C o) (s.w c _ _ _ i2 h2 F X E C o)
  · rename_i he; cases he
  · split at h
    · rename_i ht; cases ht
    · cases h
theorem stepT0_ok (s : Snd r) (h : stepT0 r c e = some i) (o : COk c F X E C) : DT X E C e (evT F i) := by
  have h0 := h
  unfold stepT0 at h
  split at h
  · split at h
    · rename_i hm
      simp only [Option.bind_eq_some_iff] at h
      obtain ⟨g, h1, ia, h2, ib, h3, h4⟩ := h
      cases h4
      obtain ⟨r0, q1, q2⟩ := cmp_ok (X := X) o.hu h1
      rw [evT, evE]
      exact dt_cmp q1 q2 (markOk_is hm) (s.k c _ ia h2 F X E C o) (s.k c _ ib h3 F X E C o)
    · cases h
  · split at h
    · rename_i hm
      simp only [Option.bind_eq_some_iff] at h
      obtain ⟨g, h1, g', h1', ia, h2, ib, h3, id, h5, h4⟩ := h
      cases h4
      obtain ⟨r0, q1, q2⟩ := cmp_ok (X := X) o.hu h1
      obtain ⟨r1, q3, q4⟩ := cmp_ok (X := X) o.hu h1'
      rw [evT, evE]
      exact dt_chain q1 q3 q2 q4 (markOk_last hm) (s.k c _ ia h2 F X E C o) (s.k c _ ib h3 F X E C o) (s.k c _ id h5 F X E C o)
    · cases h
  · exact (stepW_ok s h0 o).dt
  · exact (stepW_ok s h0 o).dt
  · exact (stepW_ok s h0 o).dt
  · simp only [Option.bind_eq_some_iff] at h
    obtain ⟨i1, h1, h2⟩ := h
    cases h2
    rw [evT]
    exact dt_not (s.t c _ i1 h1 F X E C o)
  · split at h
    · rename_i ht
      simp only [Option.bind_eq_some_iff] at h
      obtain ⟨i1, h1, h2⟩ := h
      cases h2
      rw [evT]
      exact dt_tru (s.k c _ i1 h1 F X E C o) (truOk_is ht)
    · cases h
theorem stepT_ok (s : Snd r) (h : stepT r c e = some i) (o : COk c F X E C) : DT X E C e (evT F i) := by
  have hu : X.A.units + 1 + 8 < cLine := by have := o.hu; omega
  unfold stepT at h
  split at h
  · rename_i j hj
    cases h
    unfold dctT at hj
    split at hj
    · simp only [Option.bind_eq_some_iff] at hj
      obtain ⟨i, h1, ia, h2, h4⟩ := hj
      cases h4
      obtain ⟨k1, k2, k3, k4⟩ := dctOf_ok h1 o
      rw [evT, evE]
      exact dt_din false hu o.pw k1 k2 k3 k4 (s.e c _ ia h2 F X E C o) rfl
    · simp only [Option.bind_eq_some_iff] at hj
      obtain ⟨i, h1, ia, h2, h4⟩ := hj
      cases h4
      obtain ⟨k1, k2, k3, k4⟩ := dctOf_ok h1 o
      rw [evT, evE]
      exact dt_din true hu o.pw k1 k2 k3 k4 (s.e c _ ia h2 F X E C o) rfl
    · cases hj
  · exact stepT0_ok s h o
theorem srcK_ok (s : Snd r) {i : List Nat × IX} (h : srcK r c e = some i) (o : COk c F X E C) : DKs X E C e i.1 (evE F i.2) := by
  unfold srcK at h
  split at h
  · split at h
    · rename_i j hj
      cases h
      obtain ⟨k1, k2, k3, k4⟩ := slotOf_ok hj o
      rw [evE]
      exact dks_var k1 k2 k3 k4
    · simp only [Option.bind_eq_some_iff] at h
      obtain ⟨i1, h1, h2⟩ := h
      cases h2
      exact (s.e c _ i1 h1 F X E C o).dks
  · simp only [Option.bind_eq_some_iff] at h
    obtain ⟨i1, h1, h2⟩ := h
    cases h2
    exact (s.e c _ i1 h1 F X E C o).dks
theorem stepI_ok (s : Snd r) {tg : Expr} {i : List Nat × IX} (h : stepI r c tg e = some i) (o : COk c F X E C) : DI X E C tg e i.1 (evI F i.2) := by
  have src : ∀ {i : List Nat × IX}, ((srcK r c e).bind fun i => some (i.1, .seq i.2)) = some i → DI X E C tg e i.1 (evI F i.2) := fun h => by
    simp only [Option.bind_eq_some_iff] at h
    obtain ⟨i1, h1, h2⟩ := h
    cases h2
    rw [evI]
    exact di_src (srcK_ok s h1 o)
  unfold stepI at h
  split at h
  · rename_i as hra
    simp only [Option.bind_eq_some_iff] at h
    obtain ⟨is, h1, h2⟩ := h
    cases h2
    unfold rg3 at hra
    split at hra
    · split at hra
      · rename_i hb
        cases hra
        simp only [Bool.and_eq_true, beq_iff_eq, Bool.not_eq_true'] at hb
        obtain ⟨⟨⟨⟨b1, b2⟩, b3⟩, b4⟩, b5⟩ := hb
        subst b1
        rw [evI]
        exact di_rng3 (glB_ok b2 o) (o.blt _ (by decide +kernel)) (lE_dae (fun e i h => s.e c e i h F X E C o) h1) (star_cons b3) (star_none (by simp [b4, b5]))
      · cases hra
    · cases hra
  split at h
  · rename_i a hra
    simp only [Option.bind_eq_some_iff] at h
    obtain ⟨is, h1, h2⟩ := h
    cases h2
    obtain ⟨p, pos, rfl, hg, hh⟩ := rgArgs_ok hra o
    have sa : star a = false := by
      rcases hh with ⟨a, e, z⟩ | ⟨a, b, e, _⟩
      · cases e; exact z
      · cases e
    rw [evI]
    exact di_rng1 hg (o.blt _ (by decide +kernel)) (lE_dae (fun e i h => s.e c e i h F X E C o) h1) (star_cons sa)
  · rename_i as hne hra
    simp only [Option.bind_eq_some_iff] at h
    obtain ⟨is, h1, h2⟩ := h
    cases h2
    obtain ⟨p, pos, rfl, hg, hh⟩ := rgArgs_ok hra o
    rw [evI]
    rcases hh with ⟨a, rfl, z⟩ | ⟨a, b, rfl, sa, sb⟩
    · exact (hne a rfl).elim
    · exact di_rng2 hg (o.blt _ (by decide +kernel)) (lE_dae (fun e i h => s.e c e i h F X E C o) h1) (by rw [star_cons sa, star_cons sb]; rfl) (star_cons sb)
  · split at h
    · rename_i j hj
      cases h
      obtain ⟨y, p, rfl, k1, k2, k3, k4⟩ := scOf_ok hj o
      rw [evI]
      exact di_scr k1 k2 k3 k4
    split at h
    · rename_i elts kk tpos x p as pos _ _ _
      split at h
      · rename_i hb
        simp only [Bool.and_eq_true, beq_iff_eq, decide_eq_true_eq] at hb
        obtain ⟨⟨h1, h2⟩, h3⟩ := hb
        subst h1
        simp only [Option.bind_eq_some_iff] at h
        obtain ⟨is, h4, h5⟩ := h
        cases h5
        rcases as with _ | ⟨a, _ | ⟨b, t⟩⟩
        · simp at h3
        · have hst := lKs_star h4
          rw [evI]
          exact di_enum (glB_ok h2 o) (o.blt _ (by decide +kernel)) (lKs_ok (fun e i h => srcK_ok s h o) h4) (star_cons (by simpa using hst))
        · simp at h3
      · split at h
        · rename_i hb
          simp only [Bool.and_eq_true, beq_iff_eq, decide_eq_true_eq] at hb
          obtain ⟨⟨h1, h2⟩, h3⟩ := hb
          subst h1
          simp only [Option.bind_eq_some_iff] at h
          obtain ⟨is, h4, h5⟩ := h
          cases h5
          rcases as with _ | ⟨a, _ | ⟨b, _ | ⟨d, t⟩⟩⟩
          · simp at h3
          · simp at h3
          · have hst := lKs_star h4
            simp at hst
            rw [evI]
            exact di_zip2 (glB_ok h2 o) (o.blt _ (by decide +kernel)) (lKs_ok (fun e i h => srcK_ok s h o) h4) (star_cons hst.1) (star_none (by simp [hst.2]))
          · simp at h3
        · split at h
          · rename_i hb
            simp only [Bool.and_eq_true, beq_iff_eq, decide_eq_true_eq] at hb
            obtain ⟨⟨h1, h2⟩, h3⟩ := hb
            subst h1
            simp only [Option.bind_eq_some_iff] at h
            obtain ⟨is, h4, h5⟩ := h
            cases h5
            rcases as with _ | ⟨a, _ | ⟨b, _ | ⟨d, _ | ⟨d2, t⟩⟩⟩⟩
            · simp at h3
            · simp at h3
            · simp at h3
            · have hst := lKs_star h4
              simp at hst
              rw [evI]
              exact di_zip3 (glB_ok h2 o) (o.blt _ (by decide +kernel)) (lKs_ok (fun e i h => srcK_ok s h o) h4) (star_cons hst.1) (star_none (by simp [hst.2]))
            · simp at h3
          · exact src h
    · exact src h
theorem cs_ok : ∀ n, Snd (cs n)
  | 0 => ⟨fun _ _ _ h => (nomatch h), fun _ _ _ h => (nomatch h), fun _ _ _ h => (nomatch h), fun _ _ _ _ _ h => (nomatch h), fun _ _ _ _ h => (nomatch h)⟩
  | n + 1 => ⟨fun c e i h F X E C o => stepE_ok (cs_ok n) h o, fun c e i h F X E C o => stepK_ok (cs_ok n) h o, fun c e i h F X E C o => stepT_ok (cs_ok n) h o, fun c op es p i h F X E C o => stepW_ok (cs_ok n) h o, fun c tg e i h F X E C o => stepI_ok (cs_ok n) h o⟩
end
end L2.DL

set_option Elab.async false
set_option linter.all false
set_option maxRecDepth 100000
set_option maxHeartbeats 4000000
/-! D layer 18: statements as data, and from the tree. -/
namespace L2.DL
open PySem PySem.Spec PyProof.Rows
variable [TabL]

inductive IS where
  | skip | brk | cnt | retN | never
  | ex (e : IX) | asg (t : Tg) (e : IX) | asgO (i : Nat) (e : IX) | ret (e : IX)
  | frz (i : Nat) (a : IS) | seq (a b : IS) | ite (c : IX) (a b : IS) | whl (n : Nat) (c : IX) (a : IS) | forS (vs : List Nat) (it : IX) (t : Tg) (a : IS)
  | app (i : Nat) (e : IX) | ins (i : Nat) (a b : IX) | setIx (i : Nat) (a e : IX) | aug (g : O2) (i : Nat) (e : IX) | par (i j : Nat) (a b : IX) | drSet (i : Nat) (k : Int) (e : IX) | raise (c : Str) | appPop (i j : Nat) (e : IX) | ext (i : Nat) (e : IX) | augIx (g : O2) (i : Nat) (a e : IX)
  | dnew (i : Nat) | dput (i : Nat) (a e : IX)
def sNever : Sf := fun _ _ _ _ _ => .stuck
def evS' (F : Nat → Fn) : IS → Sf
  | .skip => sSkip
  | .brk => sBrk
  | .cnt => sCnt
  | .retN => sRetN
  | .never => sNever
  | .ex e => sEx (evE F e)
  | .asg t e => sAsg t (evE F e)
  | .asgO i e => sAsgO i (evE F e)
  | .ret e => sRet (evE F e)
  | .frz i a => sFrz i (evS' F a)
  | .seq a b => sSeq (evS' F a) (evS' F b)
  | .ite c a b => sIf (evT F c) (evS' F a) (evS' F b)
  | .whl n c a => sWhile n (evT F c) (evS' F a)
  | .forS vs it t a => sFor vs (evI F it) t (evS' F a)
  | .app i e => sMeth1 fApp i (evE F e)
  | .ins i a b => sMeth2 fIns i (evE F a) (evE F b)
  | .setIx i a e => sSetIx i (evE F a) (evE F e)
  | .aug g i e => sAug (gInts g.g) i (evE F e)
  | .par i j a b => sPar i j (evE F a) (evE F b)
  | .drSet i k e => sDrSet i k (evE F e)
  | .raise c => sRaise c
  | .appPop i j e => sAppPop i j (evE F e)
  | .ext i e => sMeth1 fExt i (evE F e)
  | .augIx g i a e => sAugIx (gInts g.g) i (evE F a) (evE F e)
  | .dnew i => sDNew i
  | .dput i a e => sDPut i (evE F a) (evE F e)

/-! ### the tree's side conditions -/
def compB : Expr → Bool
  | .ListComp .. => true
  | .SetComp .. => true
  | .DictComp .. => true
  | _ => false
theorem swaps_no {e : Expr} {t : Option Expr} {n : Nat} {env : Env} (h : compB e = false) : swapsWith e t n env = pure false := by
  cases e <;> first | rfl | cases h
theorem sole_no {e t : Expr} {n : Nat} {env : Env} (h : compB e = false) : swapsWithSole [t] e n env = pure false := swaps_no h
/-- y = [..]: are the stores swapped -/
def swLc (c : CC) (scope : Scope) (y : Str) (py pos : Pos) : Bool := c.sc.names.lookup y == some .local && py.line == pos.line && !(scope.names.any fun (n, k) => n == y && (k == .local || k == .cell))
theorem swLc_is {c : CC} {env : Env} {elt : Expr} {gens : List Comprehension} {scope : Scope} {pos py : Pos} {y : Str} {n : Nat} (hs : env.scope = c.sc) (hk : c.sc.kind = .function) :
    swapsWith (.ListComp elt gens scope pos) (some (.Name y py)) n env = pure (swLc c scope y py pos) := by
  show pure (env.blockKind == .function && env.kindOf y == some .local && py.line == pos.line && !(scope.names.any fun (n, k) => n == y && (k == .local || k == .cell))) = _
  have hb : (env.blockKind == ScopeKind.function) = true := by
    unfold Env.blockKind
    rw [hs, hk]
    rfl
  unfold swLc Env.kindOf
  rw [hb, hs, Bool.true_and]
/-- a, b = x, y: in which order it is stored -/
def swS (c : CC) (ts vs : List Expr) : Option (Option (List Str)) :=
  if !(ts.length == 2 || ts.length == 3) || vs.length != ts.length then some none
  else if vs.any star then some none
  else
    let line := (ts.head?.map (·.pos.line)).getD 0
    let names := ts.filterMap fun
      | .Name id pos => if c.sc.names.lookup id == some .local && pos.line == line then some id else none
      | _ => none
    if names.length != ts.length || names.eraseDups.length != names.length then some none
    else if vs.all (foldedForSure 8) then some none
    else if vs.all (constantsAlone 8) then none
    else some (some names)
theorem swS_is {c : CC} {env : Env} {ts vs : List Expr} {k k2 : Nat} {p p2 : Pos} {r : Option (List Str)} (hs : env.scope = c.sc) (hk : c.sc.kind = .function) (h : swS c ts vs = some r) : swappedStores [.Tuple ts k p] (.Tuple vs k2 p2) env = pure r := by
  have hb : (env.blockKind != ScopeKind.function) = false := by
    unfold Env.blockKind
    rw [hs, hk]
    rfl
  obtain ⟨esc, _⟩ : ∃ x, x = env := ⟨env, rfl⟩
  have hsw : swappedStores [.Tuple ts k p] (.Tuple vs k2 p2) env = (
      if !(ts.length == 2 || ts.length == 3) || vs.length != ts.length || env.blockKind != .function then pure none
      else if vs.any (fun | .Starred .. => true | _ => false) then pure none
      else
        let line := (ts.head?.map (·.pos.line)).getD 0
        let names := ts.filterMap fun
          | .Name id pos => if env.kindOf id == some .local && pos.line == line then some id else none
          | _ => none
        if names.length != ts.length || names.eraseDups.length != names.length then pure none
        else if vs.all (foldedForSure 8) then pure none
        else if vs.all (constantsAlone 8) then (do let _ ← (unsupported "assign.tuple-of-constant-expressions:order-of-the-stores" : Sem PUnit); pure (some names)) else pure (some names)) := rfl
  rw [hsw, hb, Bool.or_false]
  unfold Env.kindOf
  rw [hs]
  unfold swS at h
  have hst : (fun e : Expr => match e with | .Starred .. => true | _ => false) = star := by
    funext e; cases e <;> rfl
  split at h
  · rename_i h1; cases h; exact if_pos h1
  rename_i h1
  refine (if_neg h1).trans ?_
  split at h
  · rename_i h2; cases h
    exact if_pos ((congrArg (fun f => vs.any f) hst).trans h2)
  rename_i h2
  refine (if_neg (fun z => h2 ((congrArg (fun f => vs.any f) hst).symm.trans z))).trans ?_
  dsimp only at h
  split at h
  · rename_i h3; cases h; exact if_pos h3
  rename_i h3
  refine (if_neg h3).trans ?_
  split at h
  · rename_i h4; cases h; exact if_pos h4
  rename_i h4
  refine (if_neg h4).trans ?_
  split at h
  · cases h
  rename_i h5
  cases h
  exact if_neg h5
end L2.DL

set_option Elab.async false
set_option linter.all false
set_option maxRecDepth 100000
set_option maxHeartbeats 4000000
/-! D layer 19: statements from the tree. -/
namespace L2.DL
open PySem PySem.Spec PyProof.Rows
variable [TabL]

/-- the slots read as closed values -/
def IX.uses : IX → List Nat
  | .var i => [i]
  | .b2 _ a b => a.uses ++ b.uses
  | .ch _ _ a b q => a.uses ++ (b.uses ++ q.uses)
  | .andV a b => a.uses ++ b.uses
  | .orV a b => a.uses ++ b.uses
  | .notV a => a.uses
  | .neg a => a.uses
  | .ife q a b => q.uses ++ (a.uses ++ b.uses)
  | .ix a b => a.uses ++ b.uses
  | .sl a lo hi => a.uses ++ (lo.uses ++ hi.uses)
  | .tup a => a.uses
  | .lst a => a.uses
  | .cons a b => a.uses ++ b.uses
  | .bi _ a => a.uses
  | .call _ _ a => a.uses
  | .argC a b => a.uses ++ b.uses
  | .argV i a => i :: a.uses
  | .lc it _ _ q e => it.uses ++ (q.uses ++ e.uses)
  | .tru a => a.uses
  | .tev a => a.uses
  | .tnot a => a.uses
  | .tif q a b => q.uses ++ (a.uses ++ b.uses)
  | .seq a => a.uses
  | .enum a => a.uses
  | .zip2 a => a.uses
  | .zip3 a => a.uses
  | .rng1 a => a.uses
  | .rng2 a => a.uses
  | .listRg a => a.uses
  | .tupRg a => a.uses
  | .fl a => a.uses
  | .told a => a.uses
  | .idx _ a => a.uses
  | .rev a => a.uses
  | .rng3 a => a.uses
  | .dget _ a b => a.uses ++ b.uses
  | .dix _ a => a.uses
  | .din _ _ a => a.uses
  | _ => []
def wrap (mu us : List Nat) (s : IS) : IS := ((us.filter fun i => mu.contains i).eraseDups).foldr (fun i a => .frz i a) s
def stepF (r : Cs) (c : CC) (e : Expr) : Option IX := match e with
  | .List es _ => (lE (r.e c) es).bind fun as => some (.lst as)
  | .BinOp a .Add b _ => (r.k c a).bind fun ia => (r.k c b).bind fun ib => some (.fl (.b2 .add ia ib))
  | .BinOp a .Mult b _ => (r.k c a).bind fun ia => (r.k c b).bind fun ib => some (.fl (.b2 .mul ia ib))
  | .Call (.Name x _) [a] [] _ => if x == ("list" : Str) && glB c.sc x && (c.fns.lookup x).isNone then
      match rgArgs c a with
      | some ra => (lE (r.e c) ra).bind fun is => some (.listRg is)
      | none => (lE (r.k c) [a]).bind fun is => some (.fl (.bi .list is))
    else none
  | _ => none
def stepN (r : Cs) (c : CC) (mu : List Nat) (y : Str) (py : Pos) (e : Expr) : Option IS := match e with
  | .ListComp elt [⟨tg, iter, ifs, 0⟩] scope p =>
    if swLc c scope y py p then (c.N.idxOf? y).bind fun i => (sLc r c elt tg iter ifs scope).bind fun ie => some (wrap mu ie.uses (if mu.contains i then .asgO i ie else .asg (.nm i) ie))
    else match tgOf c 1 (.Name y py) with
      | some (.nm i) => (sLc r c elt tg iter ifs scope).bind fun ie => some (wrap mu ie.uses (if mu.contains i then .asgO i ie else .asg (.nm i) ie))
      | _ => none
  | e => if compB e then none else match tgOf c 1 (.Name y py) with
    | some (.nm i) => match (if mu.contains i then stepF r c e else none) with
      | some ie => some (wrap mu ie.uses (.asgO i ie))
      | none => (r.e c e).bind fun ie => some (wrap mu ie.uses (.asg (.nm i) ie))
    | _ => none
def stepP (r : Cs) (c : CC) (mu : List Nat) (ts vs : List Expr) : Option IS := match ts, vs with
  | [.Name x _, .Name y _], [a, b] => (c.N.idxOf? x).bind fun i => (c.N.idxOf? y).bind fun j =>
    if i ≠ j ∧ c.sc.names.lookup x = some .local ∧ c.sc.names.lookup y = some .local ∧ star a = false ∧ star b = false ∧ swS c ts vs = some (some [x, y]) then
      (r.e c a).bind fun ia => (r.e c b).bind fun ib => some (wrap mu (ia.uses ++ ib.uses) (.par i j ia ib))
    else none
  | _, _ => none
def stepAs (r : Cs) (c : CC) (mu : List Nat) (tg e : Expr) : Option IS := match tg with
  | .Name y py => stepN r c mu y py e
  | .Tuple ts k p => if compB e then none else match e with
    | .Tuple vs _ _ => if swS c ts vs = some none then (tgOf c 8 (.Tuple ts k p)).bind fun t => (r.e c e).bind fun ie => some (wrap mu ie.uses (.asg t ie)) else stepP r c mu ts vs
    | _ => (tgOf c 8 (.Tuple ts k p)).bind fun t => (r.e c e).bind fun ie => some (wrap mu ie.uses (.asg t ie))
  | .Subscript (.Name x p0) a _ => if compB e then none else match drOf c (.Name x p0) a with
    | some d => (r.e c e).bind fun ie => some (wrap mu ie.uses (.drSet d.1 d.2 ie))
    | none => if ixOk a then (slotOf c x).bind fun i => (r.e c a).bind fun ia => (r.e c e).bind fun ie => some (wrap mu (ia.uses ++ ie.uses) (.setIx i ia ie)) else none
  | _ => none
def augOf : Operator → Option O2
  | .Add => some .add | .Sub => some .sub | .Mult => some .mul | .FloorDiv => some .div | .Mod => some .mod | .BitXor => some .xor
  | _ => none
def docB : Expr → Bool
  | .Constant (.str _) _ _ => true
  | _ => false
def stepX1 (r : Cs) (c : CC) (mu : List Nat) (e : Expr) : Option IS := match e with
  | .Call (.Attribute (.Name x _) m apos) [a] [] cpos => if m == ("append" : Str) && !star a && apos.endLine == cpos.line then (slotOf c x).bind fun i => (r.e c a).bind fun ia => some (wrap mu ia.uses (.app i ia)) else none
  | .Call (.Attribute (.Name x _) m apos) [a, b] [] cpos => if m == ("insert" : Str) && !star a && !star b && apos.endLine == cpos.line then (slotOf c x).bind fun i => (r.e c a).bind fun ia => (r.e c b).bind fun ib => some (wrap mu (ia.uses ++ ib.uses) (.ins i ia ib)) else none
  | e => if docB e then some .skip else if compB e then none else (r.e c e).bind fun ie => some (wrap mu ie.uses (.ex ie))
def stepX (r : Cs) (c : CC) (mu : List Nat) (e : Expr) : Option IS := match e with
  | .Call (.Attribute (.Name x _) m apos) [.Call (.Attribute (.Name y _) m2 apos2) [a] [] cpos2] [] cpos => if m == ("append" : Str) && m2 == ("pop" : Str) && !star a && apos.endLine == cpos.line && apos2.endLine == cpos2.line then (slotOf c x).bind fun i => (slotOf c y).bind fun j => (r.e c a).bind fun ia => some (wrap mu ia.uses (.appPop i j ia)) else stepX1 r c mu e
  | .Call (.Attribute (.Name x _) m apos) [a] [] cpos => if m == ("extend" : Str) && !star a && apos.endLine == cpos.line then (slotOf c x).bind fun i => (r.e c a).bind fun ia => some (wrap mu ia.uses (.ext i ia)) else stepX1 r c mu e
  | e => stepX1 r c mu e
def cB (f : Stmt → Option IS) : List Stmt → Option IS
  | [] => some .skip
  | s :: rest => match rest with
    | [] => f s
    | _ :: _ => (f s).bind fun a => (cB f rest).bind fun b => some (.seq a b)
def WN : Nat := 100000
/-- dicts of one's own -/
def stepD (r : Cs) (c : CC) (mu : List Nat) (st : Stmt) : Option IS := match st with
  | .Assign [.Name y py] (.Dict [] [] _) _ => if c.dcn.contains y then (match tgOf c 1 (.Name y py) with
    | some (.nm i) => some (.dnew i)
    | _ => none) else none
  | .Assign [.Subscript (.Name x _) a _] e _ => if compB e then none else if ixOk a then (dctOf c x).bind fun i => (r.e c a).bind fun ia => (r.e c e).bind fun ie => some (wrap mu (ia.uses ++ ie.uses) (.dput i ia ie)) else none
  | _ => none
def stepS0 (r : Cs) (c : CC) (mu : List Nat) (f : Stmt → Option IS) (st : Stmt) : Option IS := match st with
  | .Pass _ => some .skip
  | .Break _ => some .brk
  | .Continue _ => some .cnt
  | .Return none _ => some .retN
  | .Return (some e) _ => (r.e c e).bind fun ie => some (.ret ie)
  | .Raise (some (.Call (.Name x _) [.Constant (.str k) _ _] [] _)) none _ => if x == ("SecretError" : Str) && glB c.sc x && c.rse then some (.raise k) else some .never
  | .Raise .. => some .never
  | .Expr e _ => stepX r c mu e
  | .Assign [tg] e _ => stepAs r c mu tg e
  | .AugAssign (.Name x _) op e _ => (augOf op).bind fun g => match tgOf c 1 (.Name x ⟨0, 0, 0, 0⟩) with
    | some (.nm i) => (r.e c e).bind fun ie => some (wrap mu ie.uses (.aug g i ie))
    | _ => none
  | .AugAssign (.Subscript (.Name x _) a _) op e _ => if ixOk a then (augOf op).bind fun g => (slotOf c x).bind fun i => (r.e c a).bind fun ia => (r.e c e).bind fun ie => some (wrap mu (ia.uses ++ ie.uses) (.augIx g i ia ie)) else none
  | .If q a b _ => (r.t c q).bind fun iq => (cB f a).bind fun ia => (cB f b).bind fun ib => some (wrap mu iq.uses (.ite iq ia ib))
  | .While q a [] _ => (r.t c q).bind fun iq => (cB f a).bind fun ia => some (.whl WN iq ia)
  | .For tg iter a [] _ => if foldOk iter then (r.i c tg iter).bind fun it => (tgOf c 8 tg).bind fun t => (cB f a).bind fun ia => some (wrap mu it.2.uses (.forS it.1 it.2 t ia)) else none
  | _ => none
def stepS (r : Cs) (c : CC) (mu : List Nat) (f : Stmt → Option IS) (st : Stmt) : Option IS := match stepD r c mu st with
  | some s => some s
  | none => stepS0 r c mu f st
def cS (r : Cs) (c : CC) (mu : List Nat) : Nat → Stmt → Option IS
  | 0, _ => none
  | n + 1, st => stepS r c mu (cS r c mu n) st

/-! ### it is right -/
structure SOk (c : CC) (F : Nat → Fn) (X : Cx) (E : XK) (C : Addr) : Prop extends COk c F X E C where
  kind : c.sc.kind = .function
  own : PassesOwn (model X.prog X.w) X.A X.env X.xe
section
variable {r : Cs} {c : CC} {F : Nat → Fn} {X : Cx} {E : XK} {C : Addr} {e a b : Expr} {es : List Expr} {i : IX} {mu : List Nat} {st : Stmt} {s : IS}
theorem DS.frz {f : Sf} (h : DS X E C st f) (i : Nat) : DS X E C st (sFrz i f) := by
  obtain ⟨t, p, q⟩ := h
  exact ⟨t, p, q.frz i⟩
theorem wrap_ok {us : List Nat} (h : DS X E C st (evS' F s)) : DS X E C st (evS' F (wrap mu us s)) := by
  unfold wrap
  generalize (us.filter fun i => mu.contains i).eraseDups = l
  induction l with
  | nil => exact h
  | cons i l ih =>
    rw [List.foldr_cons, evS']
    exact ih.frz i
theorem rgArgs_star {ra : List Expr} (hra : rgArgs c e = some ra) (o : COk c F X E C) : star e = false := by
  obtain ⟨_, _, rfl, _⟩ := rgArgs_ok hra o
  rfl
theorem stepF_ok (sn : Snd r) (h : stepF r c e = some i) (o : COk c F X E C) : DF X E C e (evE F i) := by
  unfold stepF at h
  split at h
  · simp only [Option.bind_eq_some_iff] at h
    obtain ⟨as, h1, h2⟩ := h
    cases h2
    rw [evE]
    exact df_lst (lE_dae (fun e i h => sn.e c e i h F X E C o) h1)
  · simp only [Option.bind_eq_some_iff] at h
    obtain ⟨ia, h1, ib, h2, h3⟩ := h
    cases h3
    rw [evE, evE]
    exact df_bin op_add4 f_add (sn.k c _ ia h1 F X E C o) (sn.k c _ ib h2 F X E C o)
  · simp only [Option.bind_eq_some_iff] at h
    obtain ⟨ia, h1, ib, h2, h3⟩ := h
    cases h3
    rw [evE, evE]
    exact df_bin op_mul3 f_mul (sn.k c _ ia h1 F X E C o) (sn.k c _ ib h2 F X E C o)
  · split at h
    · rename_i hb
      simp only [Bool.and_eq_true, beq_iff_eq] at hb
      obtain ⟨⟨h1, h2⟩, h3⟩ := hb
      subst h1
      have hg := glB_ok h2 o
      split at h
      · rename_i ra hra
        simp only [Option.bind_eq_some_iff] at h
        obtain ⟨is, h4, h5⟩ := h
        cases h5
        have sa := rgArgs_star hra o
        rw [evE]
        exact df_listRg o.calm hg (o.blt _ (by decide +kernel)) (rg_ok sn o hra h4) (star_cons sa)
      · simp only [Option.bind_eq_some_iff] at h
        obtain ⟨is, h4, h5⟩ := h
        cases h5
        have hst := lE_star h4
        rw [List.all_cons, Bool.and_eq_true] at hst
        rw [evE, evE]
        exact df_callTy (T := "list") f_list call_list_of hg (o.blt _ (by decide +kernel)) (by kernel_rfl) (lE_dak (fun e i h => sn.k c e i h F X E C o) h4) (by decide +kernel) (by decide +kernel) (star_cons (by simpa using hst.1)) (star_none hst.2)
    · cases h
  · cases h
theorem nm_ok {x : Str} {p : Pos} {j : Nat} (h : tgOf c 1 (.Name x p) = some (.nm j)) (o : COk c F X E C) : X.N[j]? = some x ∧ Loc X.env.scope x ∧ (X.fn x = true ∨ X.env.scope.names.lookup x = some .local) := by
  unfold tgOf at h
  dsimp only at h
  split at h
  · rename_i hv
    simp only [Bool.or_eq_true, Bool.and_eq_true, beq_iff_eq] at hv
    cases hj : c.N.idxOf? x with
    | none => rw [hj] at h; cases h
    | some j =>
      rw [hj] at h
      cases h
      exact ⟨by rw [o.hN]; exact idx_ok hj, by unfold Loc; rw [o.sc]; exact hv.imp id fun z => z.1, by rw [o.sc]; exact hv.elim .inr fun z => .inl (o.fnc x z.2)⟩
  · cases h
theorem asgEach_one {tg : Expr} {env : Env} (h : star tg = false) : (assignEach [tg] env).map (·.2) = [assign tg env] := by
  cases tg <;> first | rfl | cases h
theorem stepN_ok (sn : Snd r) {y : Str} {py pos : Pos} (h : stepN r c mu y py e = some s) (o : SOk c F X E C) : DS X E C (.Assign [.Name y py] e pos) (evS' F s) := by
  have nd : X.N.Nodup := by rw [o.hN]; exact o.nd
  unfold stepN at h
  split at h
  · rename_i elt tg iter ifs scope p
    have hsw := swLc_is (c := c) (env := X.env) (elt := elt) (gens := [⟨tg, iter, ifs, 0⟩]) (scope := scope) (pos := p) (py := py) (y := y) (n := pos.line) o.sc o.kind
    split at h
    · rename_i hb
      simp only [Option.bind_eq_some_iff] at h
      obtain ⟨i, h1, ie, h2, h3⟩ := h
      cases h3
      apply wrap_ok
      obtain ⟨vs, fi, t, ft, fe, q0, q1, q2, q3, q4, q5, q6, q7⟩ := sLc_ok sn o.toCOk h2
      have hl : X.env.scope.names.lookup y = some .local := by
        unfold swLc at hb
        simp only [Bool.and_eq_true, beq_iff_eq] at hb
        rw [o.sc]
        exact hb.1.1
      have hi : X.N[i]? = some y := by rw [o.hN]; exact idx_ok h1
      rw [hb] at hsw
      split
      · rw [evS', q0]
        exact ds_asgOLc o.calm nd hi hl hsw q1 q2 q3 q4 q5 q6 q7
      · rw [evS', q0]
        exact ds_asgLc o.calm nd hi hl hsw q1 q2 q3 q4 q5 q6 q7
    · rename_i hb
      have hb' : swLc c scope y py p = false := by simpa using hb
      rw [hb'] at hsw
      split at h
      · rename_i i hi
        simp only [Option.bind_eq_some_iff] at h
        obtain ⟨ie, h2, h3⟩ := h
        cases h3
        apply wrap_ok
        obtain ⟨vs, fi, t, ft, fe, q0, q1, q2, q3, q4, q5, q6, q7⟩ := sLc_ok sn o.toCOk h2
        obtain ⟨k1, k2, k3⟩ := nm_ok hi o.toCOk
        split
        · rw [evS', q0]
          exact ds_asgO nd k1 k2 k3 (df_lc o.calm nd q1 q2 q3 q4 q5 q6 q7) hsw rfl rfl
        · rw [evS', q0]
          exact ds_asg (de_lc o.calm nd q1 q2 q3 q4 q5 q6 q7) (dg_name nd k1 k2 k3) hsw rfl rfl
      · cases h
  · split at h
    · cases h
    rename_i hc
    have hc' : compB e = false := by simpa using hc
    split at h
    · rename_i i hi
      obtain ⟨k1, k2, k3⟩ := nm_ok hi o.toCOk
      split at h
      · rename_i ie hie
        cases h
        have hF : stepF r c e = some ie := by
          split at hie
          · exact hie
          · cases hie
        apply wrap_ok
        rw [evS']
        exact ds_asgO nd k1 k2 k3 (stepF_ok sn hF o.toCOk) (sole_no hc') rfl rfl
      · simp only [Option.bind_eq_some_iff] at h
        obtain ⟨ie, h2, h3⟩ := h
        cases h3
        apply wrap_ok
        rw [evS']
        exact ds_asg (sn.e c _ ie h2 F X E C o.toCOk) (dg_name nd k1 k2 k3) (sole_no hc') rfl rfl
    · cases h
theorem stepP_ok (sn : Snd r) {ts vs : List Expr} {k k2 : Nat} {p p2 pos : Pos} (h : stepP r c mu ts vs = some s) (o : SOk c F X E C) : DS X E C (.Assign [.Tuple ts k p] (.Tuple vs k2 p2) pos) (evS' F s) := by
  have nd : X.N.Nodup := by rw [o.hN]; exact o.nd
  unfold stepP at h
  split at h
  · simp only [Option.bind_eq_some_iff] at h
    obtain ⟨i, h1, j, h2, h⟩ := h
    split at h
    · rename_i hb
      obtain ⟨b1, b2, b3, b4, b5, b6⟩ := hb
      simp only [Option.bind_eq_some_iff] at h
      obtain ⟨ia, h3, ib, h4, h5⟩ := h
      cases h5
      apply wrap_ok
      rw [evS']
      exact ds_par o.calm nd (by rw [o.hN]; exact idx_ok h1) (by rw [o.hN]; exact idx_ok h2) b1 (by rw [o.sc]; exact b2) (by rw [o.sc]; exact b3) (sn.e c _ ia h3 F X E C o.toCOk) (sn.e c _ ib h4 F X E C o.toCOk) (star_cons b4) (star_cons b5)
        (swS_is o.sc o.kind b6) rfl
    · cases h
  · cases h
theorem asgIx_is {x : Expr} {p : Pos} {env : Env} (h : ixOk a = true) : ∀ v, assign (.Subscript x a p) env v = (do
      let ov ← holding [v] (eval x env)
      let iv ← holding [v, ov] (eval a env)
      standAt p
      holding [v, ov, iv] (setItem ov iv v)
      release [v, ov, iv] []) := by
  intro v
  cases a <;> first | rfl | cases h
theorem drSet_ok {d : Nat × Int} {x : Str} {p0 p1 pos : Pos} {fe : Ev D} (h : drOf c (.Name x p0) a = some d) (o : COk c F X E C) (he : DE X E C e fe) (hc : compB e = false) : DS X E C (.Assign [.Subscript (.Name x p0) a p1] e pos) (sDrSet d.1 d.2 fe) := by
  unfold drOf at h
  split at h
  · rename_i heq
    cases heq
    split at h
    · simp only [Option.bind_eq_some_iff] at h
      obtain ⟨i, h1, h2⟩ := h
      cases h2
      obtain ⟨k1, k2, k3, k4⟩ := slotOf_ok h1 o
      exact ds_drSet k1 k2 k3 k4 he (sole_no hc) rfl
    · cases h
  · cases h
theorem stepAs_ok (sn : Snd r) {tg : Expr} {pos : Pos} (h : stepAs r c mu tg e = some s) (o : SOk c F X E C) : DS X E C (.Assign [tg] e pos) (evS' F s) := by
  unfold stepAs at h
  split at h
  · exact stepN_ok sn h o
  · split at h
    · cases h
    rename_i hc
    have hc' : compB e = false := by simpa using hc
    split at h
    · split at h
      · rename_i hs
        simp only [Option.bind_eq_some_iff] at h
        obtain ⟨t, h1, ie, h2, h3⟩ := h
        cases h3
        apply wrap_ok
        rw [evS']
        exact ds_asg (sn.e c _ ie h2 F X E C o.toCOk) (tgOf_ok o.toCOk h1) (sole_no hc') (swS_is o.sc o.kind hs) rfl
      · exact stepP_ok sn h o
    · rename_i hne
      simp only [Option.bind_eq_some_iff] at h
      obtain ⟨t, h1, ie, h2, h3⟩ := h
      cases h3
      apply wrap_ok
      rw [evS']
      refine ds_asg (sn.e c _ ie h2 F X E C o.toCOk) (tgOf_ok o.toCOk h1) (sole_no hc') ?_ rfl
      cases e <;> first | rfl | exact (hne _ _ _ rfl).elim
  · split at h
    · cases h
    rename_i hc
    have hc' : compB e = false := by simpa using hc
    split at h
    · rename_i d hd
      simp only [Option.bind_eq_some_iff] at h
      obtain ⟨ie, h3, h4⟩ := h
      cases h4
      apply wrap_ok
      rw [evS']
      exact drSet_ok hd o.toCOk (sn.e c _ ie h3 F X E C o.toCOk) hc'
    split at h
    · rename_i hix
      simp only [Option.bind_eq_some_iff] at h
      obtain ⟨i, h1, ia, h2, ie, h3, h4⟩ := h
      cases h4
      apply wrap_ok
      obtain ⟨k1, k2, k3, k4⟩ := slotOf_ok h1 o.toCOk
      rw [evS']
      exact ds_setIx k1 k2 k3 k4 (sn.e c _ ia h2 F X E C o.toCOk) (sn.e c _ ie h3 F X E C o.toCOk) (asgIx_is hix) (sole_no hc') rfl rfl
    · cases h
  · cases h
theorem augSt_is {a : Expr} {ov iv new : Value} (h : ixOk a = true) : augStore a ov iv new = (do holding [new, ov, iv] (setItem ov iv new); release [new, ov, iv] []; pure .next) := by
  cases a <;> first | rfl | cases h
theorem stepX1_ok (sn : Snd r) {pos : Pos} (h : stepX1 r c mu e = some s) (o : SOk c F X E C) : DS X E C (.Expr e pos) (evS' F s) := by
  unfold stepX1 at h
  split at h
  · split at h
    · rename_i hb
      simp only [Bool.and_eq_true, beq_iff_eq] at hb
      obtain ⟨⟨h1, h2⟩, h3⟩ := hb
      subst h1
      simp only [Option.bind_eq_some_iff] at h
      obtain ⟨i, h4, ia, h5, h6⟩ := h
      cases h6
      apply wrap_ok
      obtain ⟨k1, k2, k3, k4⟩ := slotOf_ok h4 o.toCOk
      have sa := Bool.not_eq_true' _ |>.mp h2
      rw [evS']
      exact ds_append k1 k2 k3 k4 (sn.e c _ ia h5 F X E C o.toCOk) ⟨rfl, by rw [star_cons sa]; rfl, by rw [beq_iff_eq]; exact h3, star_cons sa, rfl⟩ rfl
    · cases h
  · split at h
    · rename_i hb
      simp only [Bool.and_eq_true, beq_iff_eq] at hb
      obtain ⟨⟨⟨h1, h2⟩, h2'⟩, h3⟩ := hb
      subst h1
      simp only [Option.bind_eq_some_iff] at h
      obtain ⟨i, h4, ia, h5, ib, h5', h6⟩ := h
      cases h6
      apply wrap_ok
      obtain ⟨k1, k2, k3, k4⟩ := slotOf_ok h4 o.toCOk
      have sa := Bool.not_eq_true' _ |>.mp h2
      have sb := Bool.not_eq_true' _ |>.mp h2'
      rw [evS']
      exact ds_insert k1 k2 k3 k4 (sn.e c _ ia h5 F X E C o.toCOk) (sn.e c _ ib h5' F X E C o.toCOk) ⟨rfl, by rw [star_cons sa, star_cons sb]; rfl, by rw [beq_iff_eq]; exact h3, star_cons sa, star_none (by simp [sb])⟩ (star_cons sb) rfl
    · cases h
  · split at h
    · rename_i hd
      cases h
      rw [evS']
      unfold docB at hd
      split at hd
      · exact ds_doc
      · cases hd
    · split at h
      · cases h
      rename_i hc
      have hc' : compB e = false := by simpa using hc
      simp only [Option.bind_eq_some_iff] at h
      obtain ⟨ie, h2, h3⟩ := h
      cases h3
      apply wrap_ok
      rw [evS']
      exact ds_ex (sn.e c _ ie h2 F X E C o.toCOk) (swaps_no hc')
theorem stepX_ok (sn : Snd r) {pos : Pos} (h : stepX r c mu e = some s) (o : SOk c F X E C) : DS X E C (.Expr e pos) (evS' F s) := by
  unfold stepX at h
  split at h
  · split at h
    · rename_i hb
      simp only [Bool.and_eq_true, beq_iff_eq] at hb
      obtain ⟨⟨⟨⟨h1, h2⟩, h3⟩, h4⟩, h5⟩ := hb
      subst h1
      subst h2
      simp only [Option.bind_eq_some_iff] at h
      obtain ⟨i, h6, j, h7, ia, h8, h9⟩ := h
      cases h9
      apply wrap_ok
      obtain ⟨k1, k2, k3, k4⟩ := slotOf_ok h6 o.toCOk
      obtain ⟨l1, l2, l3, l4⟩ := slotOf_ok h7 o.toCOk
      have sa := Bool.not_eq_true' _ |>.mp h3
      rw [evS']
      exact ds_appPop k1 k2 k3 k4 l1 l2 l3 l4 (sn.e c _ ia h8 F X E C o.toCOk) ⟨rfl, rfl, by rw [beq_iff_eq]; exact h4, rfl, rfl⟩ ⟨rfl, by rw [star_cons sa]; rfl, by rw [beq_iff_eq]; exact h5, star_cons sa, rfl⟩ rfl
    · exact stepX1_ok sn h o
  · split at h
    · rename_i hb
      simp only [Bool.and_eq_true, beq_iff_eq] at hb
      obtain ⟨⟨h1, h2⟩, h3⟩ := hb
      subst h1
      simp only [Option.bind_eq_some_iff] at h
      obtain ⟨i, h4, ia, h5, h6⟩ := h
      cases h6
      apply wrap_ok
      obtain ⟨k1, k2, k3, k4⟩ := slotOf_ok h4 o.toCOk
      have sa := Bool.not_eq_true' _ |>.mp h2
      rw [evS']
      exact ds_extend k1 k2 k3 k4 (sn.e c _ ia h5 F X E C o.toCOk) ⟨rfl, by rw [star_cons sa]; rfl, by rw [beq_iff_eq]; exact h3, star_cons sa, rfl⟩ rfl
    · exact stepX1_ok sn h o
  · exact stepX1_ok sn h o
theorem aug_ok {op : Operator} {g : O2} (h : augOf op = some g) : ∃ r, PIp X op r ∧ OpD X.K r (gInts g.g) := by
  cases op <;> cases h
  · exact ⟨_, iop_add, da_add⟩
  · exact ⟨_, iop_sub, da_sub⟩
  · exact ⟨_, iop_mulW, da_mul⟩
  · exact ⟨_, iop_mod, da_mod⟩
  · exact ⟨_, iop_xor, da_xor⟩
  · exact ⟨_, iop_fdivW, da_div⟩
theorem cB_ok {f : Stmt → Option IS} (h : ∀ st s, f st = some s → DS X E C st (evS' F s)) : ∀ {sts : List Stmt} {s : IS}, cB f sts = some s → DSs X E C sts (evS' F s)
  | [], s, hs => by
    cases hs
    rw [evS']
    exact dss_nil
  | [st], s, hs => dss_one (h st s hs)
  | st :: st2 :: rest, s, hs => by
    unfold cB at hs
    simp only [Option.bind_eq_some_iff] at hs
    obtain ⟨a, h1, b, h2, h3⟩ := hs
    cases h3
    rw [evS']
    exact dss_cons (h st a h1) (cB_ok h h2)
theorem stepD_ok (sn : Snd r) (h : stepD r c mu st = some s) (o : SOk c F X E C) : DS X E C st (evS' F s) := by
  have nd : X.N.Nodup := by rw [o.hN]; exact o.nd
  have hu : X.A.units + 1 + 8 < cLine := by have := o.hu; omega
  unfold stepD at h
  split at h
  · split at h
    · split at h
      · rename_i i hi
        cases h
        obtain ⟨k1, k2, k3⟩ := nm_ok hi o.toCOk
        rw [evS']
        exact ds_dnew o.pw nd k1 k2 k3 (sole_no rfl) rfl rfl
      · cases h
    · cases h
  · split at h
    · cases h
    rename_i hc
    have hc' := Bool.eq_false_iff.mpr hc
    split at h
    · rename_i hix
      simp only [Option.bind_eq_some_iff] at h
      obtain ⟨i, h1, ia, h2, ie, h3, h4⟩ := h
      cases h4
      apply wrap_ok
      obtain ⟨k1, k2, k3, k4⟩ := dctOf_ok h1 o.toCOk
      rw [evS']
      exact ds_dput hu o.pw k1 k2 k3 k4 (sn.e c _ ia h2 F X E C o.toCOk) (sn.e c _ ie h3 F X E C o.toCOk) (asgIx_is hix) (sole_no hc') rfl rfl
    · cases h
  · cases h
theorem stepS_ok (sn : Snd r) {f : Stmt → Option IS} (hf : ∀ st s, f st = some s → DS X E C st (evS' F s)) (h : stepS r c mu f st = some s) (o : SOk c F X E C) : DS X E C st (evS' F s) := by
  unfold stepS at h
  split at h
  · rename_i s' hs
    cases h
    exact stepD_ok sn hs o
  have nd : X.N.Nodup := by rw [o.hN]; exact o.nd
  unfold stepS0 at h
  split at h
  · cases h; rw [evS']; exact ds_pass
  · cases h; rw [evS']; exact ds_brk
  · cases h; rw [evS']; exact ds_cnt
  · cases h; rw [evS']; exact ds_retN
  · simp only [Option.bind_eq_some_iff] at h
    obtain ⟨ie, h2, h3⟩ := h
    cases h3
    rw [evS']
    exact ds_ret (sn.e c _ ie h2 F X E C o.toCOk)
  · split at h
    · rename_i hb
      simp only [Bool.and_eq_true, beq_iff_eq] at hb
      obtain ⟨⟨h1, h2⟩, h3⟩ := hb
      subst h1
      cases h
      rw [evS']
      exact ds_raise o.calm (o.rse h3) (glB_ok h2 o.toCOk)
    · cases h
      rw [evS']
      exact ⟨_, ps_never, fun en Lk k kb kc r D σ H env s sr e G => (G.ns e.symm).elim⟩
  · cases h
    rw [evS']
    exact ⟨_, ps_never, fun en Lk k kb kc r D σ H env s sr e G => (G.ns e.symm).elim⟩
  · exact stepX_ok sn h o
  · exact stepAs_ok sn h o
  · simp only [Option.bind_eq_some_iff] at h
    obtain ⟨g, h1, h⟩ := h
    split at h
    · rename_i i hi
      simp only [Option.bind_eq_some_iff] at h
      obtain ⟨ie, h2, h3⟩ := h
      cases h3
      obtain ⟨k1, k2, k3⟩ := nm_ok hi o.toCOk
      obtain ⟨r0, q1, q2⟩ := aug_ok (X := X) h1
      apply wrap_ok
      rw [evS']
      exact ds_aug q1 q2 nd k1 k2 k3 (sn.e c _ ie h2 F X E C o.toCOk)
    · cases h
  · split at h
    · rename_i hix
      simp only [Option.bind_eq_some_iff] at h
      obtain ⟨g, h1, i, h2, ia, h3, ie, h4, h5⟩ := h
      cases h5
      obtain ⟨k1, k2, k3, k4⟩ := slotOf_ok h2 o.toCOk
      obtain ⟨r0, q1, q2⟩ := aug_ok (X := X) h1
      apply wrap_ok
      rw [evS']
      exact ds_augIx q1 q2 k1 k2 k3 k4 (sn.e c _ ia h3 F X E C o.toCOk) (sn.e c _ ie h4 F X E C o.toCOk) (fun ov iv new => augSt_is hix)
    · cases h
  · simp only [Option.bind_eq_some_iff] at h
    obtain ⟨iq, h1, ia, h2, ib, h3, h4⟩ := h
    cases h4
    apply wrap_ok
    rw [evS']
    exact ds_if (sn.t c _ iq h1 F X E C o.toCOk) (cB_ok hf h2) (cB_ok hf h3)
  · simp only [Option.bind_eq_some_iff] at h
    obtain ⟨iq, h1, ia, h2, h4⟩ := h
    cases h4
    rw [evS']
    exact ds_while o.own (sn.t c _ iq h1 F X E C o.toCOk) (cB_ok hf h2)
  · split at h
    · rename_i hfo
      simp only [Option.bind_eq_some_iff] at h
      obtain ⟨it, h1, t, h2, ia, h3, h4⟩ := h
      cases h4
      apply wrap_ok
      rw [evS']
      exact ds_for o.own o.calm (sn.i c _ _ it h1 F X E C o.toCOk) (tgOf_ok o.toCOk h2) (cB_ok hf h3) (foldOk_is hfo)
    · cases h
  · cases h
theorem cS_ok (sn : Snd r) (o : SOk c F X E C) : ∀ (n : Nat) (st : Stmt) (s : IS), cS r c mu n st = some s → DS X E C st (evS' F s)
  | 0, _, _, h => by cases h
  | n + 1, st, s, h => stepS_ok sn (cS_ok sn o n) h o
/-- a def's body -/
def cDef (c : CC) (mu : List Nat) (body : List Stmt) : Option IS := cB (cS (cs 40) c mu 12) body
theorem cDef_ok {body : List Stmt} (h : cDef c mu body = some s) (o : SOk c F X E C) : DSs X E C body (evS' F s) := cB_ok (cS_ok (cs_ok 40) o 12) h
end
end L2.DL

set_option Elab.async false
set_option linter.all false
set_option maxRecDepth 100000
set_option maxHeartbeats 4000000
/-! D layer 20: defs, by level. -/
namespace L2.DL
open PySem PySem.Spec PyProof.Rows
variable [TabL]

structure DefI where
  ps : List Str
  c : CC
  ir : IS
def startE (N : List Str) (args : List Sl) : En := args ++ List.replicate (N.length - args.length) .no
def run1 (Fk : Nat → Fn) (d : DefI) : Fn := fun args s => evS' Fk d.ir (fun _ s => .ok (.none, s)) (fun _ _ => .stuck) (fun _ _ => .stuck) (startE d.c.N args) s
def FF (tab : Nat → Option DefI) (sp : Nat → Option Fn) : Nat → Nat → Fn
  | 0, _ => fun _ _ => .stuck
  | k + 1, i => match sp i with
    | some f => f
    | none => match tab i with
      | some d => run1 (FF tab sp k) d
      | none => fun _ _ => .stuck

theorem start_get {N : List Str} {vs : List V} {i : Nat} {v : V} (h : vs[i]? = some v) : (L2.start N vs)[i]? = some (some v) := by
  unfold L2.start
  have hi : i < vs.length := (List.getElem?_eq_some_iff.mp h).1
  rw [List.getElem?_append_left (by simpa using hi), List.getElem?_map, h]
  rfl
theorem startE_get {N : List Str} {args : List Sl} {i : Nat} {x : Sl} (h : (startE N args)[i]? = some x) : args[i]? = some x ∨ x = .no := by
  unfold startE at h
  by_cases hi : i < args.length
  · rw [List.getElem?_append_left hi] at h
    exact .inl h
  · rw [List.getElem?_append_right (by omega), List.getElem?_replicate] at h
    split at h
    · cases h; exact .inr rfl
    · cases h
theorem All2.getB {α β : Type} {P : α → β → Prop} {as : List α} {bs : List β} {i : Nat} {b : β} (h : All2 P as bs) (e : bs[i]? = some b) : ∃ a, as[i]? = some a ∧ P a b := h.get e
/-- the state at a def's entry -/
theorem ER.start {K : PySem.W.Frag} {Hc H : Hp} {s : Dr} {da : Option Addr} {vs : List V} {args : List Sl} {N : List Str} (h : ArgsOk K Hc H s da vs args) : ER K (fun _ => da.getD 0) da Hc H (L2.start N vs) (startE N args) s := by
  have ow : ∀ i x, (startE N args)[i]? = some x → own x = true → False := fun i x hx ho => by
    rcases startE_get hx with hx | rfl
    · obtain ⟨v, _, hv⟩ := h.all.getB hx
      cases x with
      | lst _ _ => exact hv
      | no => cases ho
      | val _ => cases ho
      | drw => cases ho
      | scr _ => cases ho
      | dct _ => exact hv
    · cases ho
  refine ⟨h.sub, ?_, fun i x hx => ?_, fun i j x y hi _ ox _ _ => (ow i x hi ox).elim, fun i hi => ?_, h.dr, fun i x hx ho => (ow i x hx ho).elim, h.tabs, h.noT⟩
  · unfold L2.start startE
    rw [List.length_append, List.length_append, List.length_map, List.length_replicate, List.length_replicate, h.all.length]
  · rcases startE_get hx with hx | rfl
    · obtain ⟨v, h1, hv⟩ := h.all.getB hx
      have h2 := start_get (N := N) h1
      cases x with
      | lst _ _ => exact hv.elim
      | dct _ => exact hv.elim
      | no => trivial
      | val d => exact ⟨v, h2, hv⟩
      | drw =>
        obtain ⟨a, rfl, hd⟩ := hv
        show (L2.start N vs)[i]? = some (some (V.ref (da.getD 0)))
        rw [hd]
        exact h2
      | scr ns =>
        obtain ⟨a, rfl, hd⟩ := hv
        exact ⟨a, h2, hd⟩
    · trivial
  · rcases startE_get hi with hx | z
    · obtain ⟨v, _, hv⟩ := h.all.getB hx
      obtain ⟨a, rfl, hd⟩ := hv
      rw [hd]
      rfl
    · cases z

section
variable {P : Program} {w : World} {K : PySem.W.Frag} {mg : Str → Option Value} {base : Heap} {C : Addr} {fns : List (Str × Nat × Nat)} {cst : List (Str × D)} {tab : Nat → Option DefI} {sp : Nat → Option Fn} {rs : Bool} {tf : List Str}
/-- the class of the errors -/
structure ExcF (P : Program) (w : World) (K : PySem.W.Frag) (mg : Str → Option Value) (base : Heap) (C : Addr) : Prop where
  T : OexC K C
  emg : mg "SecretError" = some (.ref C)
  ini : ∃ (fI : Addr) (fd : FuncData) (ps : List Str), PySem.W.findIn K (.ref C) "__init__" = some (some (.ref fI)) ∧ PySem.W.typeIn K (.ref fI) = some (.type "function") ∧ FnOk P w K mg base (L2.CX P w) 3 fI fd ps (spI K C) ∧ L2.Binds K fd ps []
/-- _law_told -/
def ToldF (K : PySem.W.Frag) (mg : Str → Option Value) (C : Addr) : Prop := ∃ (g : Addr) (pg : Arguments) (bg : List Stmt) (sg : Scope) (dV kV doc pm cdv ct oc : Value) (an od : Option Addr) (osl : Array (Option Value)) (Ng : List Str) (a : Str), mg "_law_told" = some (.ref g) ∧ PySem.W.keepIn K (.ref g) = true ∧
  K.lookup g = some ⟨oc, od, .func (PySem.W.fnOf "_law_told" "_law_told" pg bg sg dV kV doc pm an cdv ct), osl⟩ ∧ PySem.W.codeIn K cdv "_law_told" = true ∧ L2.Binds K (PySem.W.fnOf "_law_told" "_law_told" pg bg sg dV kV doc pm an cdv ct) [a] [] ∧ FnScope Ng [a] sg ∧ Ng[0]? = some a ∧ Vis sg a ∧
  (a == ("__debug__" : Str)) = false ∧ (a == ("__classdict__" : Str)) = false ∧ ∀ X : Cx, X.K = K → X.mg = mg → ∀ q, LamX.GivesTo X Ng "_law_told" sg g cdv bg a q (TTold2 C)
/-- one def as the head tells it -/
def HF (K : PySem.W.Frag) (mg : Str → Option Value) (fns : List (Str × Nat × Nat)) (cst : List (Str × D)) (tab : Nat → Option DefI) (sp : Nat → Option Fn) (rs : Bool) (tf : List Str) (p : Str × Nat × Nat) : Prop :=
  ∃ d params body mu f fd, tab p.2.1 = some d ∧ sp p.2.1 = none ∧ d.c.fns = fns ∧ d.c.cst = cst ∧ d.ps.length = p.2.2 ∧ FunD K p.1 p.1 params body d.c.sc [] [] f fd ∧ mg p.1 = some (.ref f) ∧ FnScope d.c.N d.ps d.c.sc ∧ cDef d.c mu body = some d.ir ∧ Binds K fd d.ps [] ∧
    d.c.dp = 2 ∧ (d.c.rse = true → rs = true) ∧ (d.c.tld = true → d.c.nm = p.1 ∧ p.1 ∈ tf ∧ f = He.ga K p.1)
/-- what the walk through the top has told of the program -/
structure PG (P : Program) (w : World) (K : PySem.W.Frag) (mg : Str → Option Value) (base : Heap) (C : Addr) (fns : List (Str × Nat × Nat)) (cst : List (Str × D)) (tab : Nat → Option DefI) (sp : Nat → Option Fn) (rs : Bool) (tf : List Str) : Prop where
  hblt : ∀ x ∈ bNames, mg x = none
  hcst : ∀ x d, cst.lookup x = some d → ∃ u v, mg x = some u ∧ RelV v u ∧ ∀ H, Dv K H v d
  hfns : ∀ x id n, fns.lookup x = some (id, n) → HF K mg fns cst tab sp rs tf (x, id, n)
  exc : rs = true → ExcF P w K mg base C
  told : tf ≠ [] → ToldF K mg C
  tabs : ∀ x ∈ tf, LamX.TabB base mg (He.cT K (x, none)).1 (He.cT K (x, none)).2
  tabIn : ∀ x ∈ tf, ((He.cT K (x, none)).2, lamQ x) ∈ TabL.T
  uniq : ∀ x ∈ tf, ∀ p ∈ TabL.T, p.1 = (He.cT K (x, none)).2 → p.2 = lamQ x
  pw : TabL.PW = some (P, w)
theorem spF_len {n : Nat} {F : Fn} {vs : List V} {H : Hp} {Q : VK} {E : XK} (h : spF K C n F vs H Q E) : vs.length = n := by
  obtain ⟨Hc, s, da, args, hl, ha, _⟩ := h
  rw [ha.all.length, hl]
/-- a def's context is as its code asks -/
theorem SOk.ofCx {F : Nat → Fn} {k : Nat} {ps : List Str} {qual : Str} {f : Addr} {cdv : Value} {A : Around} {outer : List Env} {s : Shared} {H : Hp} {E : XK} {c : CC} (g : PG P w K mg base C fns cst tab sp rs tf) (S : FnScope c.N ps c.sc) (hr : Room (k + 2) (A.deeper (envOfC qual c.sc s.heap.objs.size f cdv))) (h3 : c.fns = fns) (h4 : c.cst = cst) (h5 : c.dp = 2) (h6 : c.rse = true → rs = true)
    (h7 : c.tld = true → c.nm = qual ∧ qual ∈ tf ∧ cdv = .ref (He.cT K (qual, none)).1) (hk : 2 ≤ k)
    (hf : ∀ x id n, fns.lookup x = some (id, n) → ∃ f fd ps, FnOk P w K mg base (L2.CX P w) k f fd ps (spF K C n (F id)) ∧ mg x = some (.ref f) ∧ PySem.W.keepIn K (.ref f) = true ∧ Binds K fd ps []) :
    SOk c F (cxOf (L2.CX P w) P w K mg base c.N qual c.sc f cdv A outer s H E) E C := by
  refine ⟨⟨rfl, S.nd, rfl, rfl, hr.units, g.hblt, ?_, ⟨k, by rw [h5]; exact hr, fun ht => ?_, by rw [h3]; exact hf⟩, fun hre => ?_, fun _ _ => rfl, by rw [h4]; exact g.hcst, g.pw⟩, S.kind, passes_of rfl⟩
  · exact passes_call (takes_of rfl rfl rfl rfl) fun _ _ _ _ h => h
  · obtain ⟨t1, t2, t3⟩ := h7 ht
    obtain ⟨gg, pg, bg, sg, dV, kV, doc, pm, cdv2, ct, oc, an, od, osl, Ng, a, u1, u2, u3, u4, u5, u6, u7, u8, u9, u10, u11⟩ := g.told (fun z => by rw [z] at t2; cases t2)
    refine ⟨by rw [t1]; exact g.tabIn _ t2, ⟨_, by rw [t1]; exact g.tabs _ t2, t3⟩, by rw [t1]; rfl, by rw [t1]; exact g.uniq _ t2, hr, gg, pg, bg, sg, dV, kV, doc, pm, cdv2, ct, oc, an, od, osl, Ng, a, u1, u2, u3, u4, u5, u6, u7, u8, u9, u10, u11 _ rfl rfl⟩
  · obtain ⟨fI, fd, ps2, e1, e2, e3, e4⟩ := (g.exc (h6 hre)).ini
    exact ⟨(g.exc (h6 hre)).T, (g.exc (h6 hre)).emg, takes_of rfl rfl rfl rfl, fI, 3, fd, ps2, e1, e2, e3, hr.mono (by omega), e4⟩
/-- from the code to the promise -/
theorem body_ok {X : Cx} {E : XK} {d : DefI} {F : Nat → Fn} {body : List Stmt} {n : Nat} {vs : List V} {H : Hp} {Q : VK} (hK : X.K = K) (hb : DSs X E C body (evS' F d.ir)) (h : spF K C n (run1 F d) vs H Q E) :
    ∃ t, PSs X body t ∧ t { nx := fun _ H' => Q .non H', rt := Q } (L2.start d.c.N vs) H := by
  subst hK
  obtain ⟨t, p, q⟩ := hb
  refine ⟨t, p, ?_⟩
  obtain ⟨Hc, s, da, args, hl, ha, hp⟩ := h
  have e0 := ER.start (N := d.c.N) ha
  refine q ⟨da, Hc, H, Hc⟩ [] (fun _ s => .ok (.none, s)) (fun _ _ => .stuck) (fun _ _ => .stuck) _ _ (L2.start d.c.N vs) H (startE d.c.N args) s ⟨_, Hc, e0, Nx.refl, fun i x hx ho => ?_, (fun p hp => nomatch hp), Sub.refl _⟩ rfl ?_
  · exact ((e0.lstNe i x hx ho) : _) |> fun _ => by
      rcases startE_get hx with hx | rfl
      · obtain ⟨v, _, hv⟩ := ha.all.getB hx
        cases x with
        | lst _ _ => exact hv.elim
        | no => cases ho
        | val _ => cases ho
        | drw => cases ho
        | scr _ => cases ho
        | dct _ => exact hv.elim
      · cases ho
  · have e1 : run1 F d args s = evS' F d.ir (fun _ s => .ok (.none, s)) (fun _ _ => .stuck) (fun _ _ => .stuck) (startE d.c.N args) s := rfl
    rw [e1] at hp
    have ns : evS' F d.ir (fun _ s => .ok (.none, s)) (fun _ _ => .stuck) (fun _ _ => .stuck) (startE d.c.N args) s ≠ .stuck := fun z => by
      rw [z] at hp; exact hp
    refine ⟨fun env s' σ H' sr e => ?_, fun env s' σ H' sr e => (ns e.symm).elim, fun env s' σ H' sr e => (ns e.symm).elim, fun dd s' v Hc' H' e nn sc dr hd => ?_, fun c e dx H' nn hx => ?_, ns⟩
    · obtain ⟨ad, Hc', x⟩ := sr
      rw [← e] at hp
      exact hp .non Hc' H' x.nx x.er.sub x.er.drA .non
    · rw [e] at hp
      exact hp v Hc' H' nn sc dr hd
    · rw [e] at hp
      exact hp dx H' nn hx
theorem funD_ok {x qual : Str} {params : Arguments} {body : List Stmt} {scope : Scope} {f : Addr} {fd : FuncData} {CX : CXT} {N ps : List Str} {k : Nat} {sp : Sp} (F : FunD K x qual params body scope [] [] f fd) (S : FnScope N ps scope) (len : ∀ vs H Q E, sp vs H Q E → vs.length = ps.length)
    (hbody : ∀ (cdv : Value) (A : Around) (outer : List Env) (s : Shared) (H : Hp) (vs : List V) (Q : VK) (E : XK), (∀ p : Str, f = He.ga K p → cdv = .ref (He.cT K (p, none)).1) → Room k (A.deeper (envOfC qual scope s.heap.objs.size f cdv)) → sp vs H Q E →
      ∃ t, PSs (cxOf CX P w K mg base N qual scope f cdv A outer s H E) body t ∧ t { nx := fun _ H' => Q .non H', rt := Q } (L2.start N vs) H) : FnOk P w K mg base CX (k + 1) f fd ps sp := by
  obtain ⟨oc, od, dV, kV, doc, pm, an, cdv, ct, osl, rfl, lk, hcd, _, _⟩ := F.ex
  refine fn_of lk hcd S len fun A outer s H vs Q E hr hsp => hbody cdv A outer s H vs Q E (fun p hp => ?_) hr hsp
  obtain ⟨c, rfl⟩ := He.codeIn_ref hcd
  subst hp
  rw [show (He.cT K (p, none)).1 = He.codeOf K (p, none) from rfl, He.codeOf_eq (p := (p, none)) lk rfl]
theorem PG.ok (g : PG P w K mg base C fns cst tab sp rs tf) : ∀ (k : Nat) (x : Str) (id n : Nat), fns.lookup x = some (id, n) →
    ∃ f fd ps, FnOk P w K mg base (L2.CX P w) (3 * k + 4) f fd ps (spF K C n (FF tab sp k id)) ∧ mg x = some (.ref f) ∧ PySem.W.keepIn K (.ref f) = true ∧ Binds K fd ps []
  | 0, x, id, n, h => by
    have no : ∀ vs H Q E, spF K C n (FF tab sp 0 id) vs H Q E → False := fun vs H Q E ⟨Hc, s, da, args, hl, ha, hp⟩ => hp
    obtain ⟨d, params, body, mu, f, fd, h1, h2, h3, h4, h5, h6, h7, h8, h9, h10, _⟩ := g.hfns x id n h
    exact ⟨f, fd, d.ps, ⟨fun vs H Q E z => (no vs H Q E z).elim, fun A outer s H args us vs Q E _ _ _ _ z => (no vs H Q E z).elim⟩, h7, h6.kp, h10⟩
  | k + 1, x, id, n, h => by
    obtain ⟨d, params, body, mu, f, fd, h1, h2, h3, h4, h5, h6, h7, h8, h9, h10, h11, h12, h13⟩ := g.hfns x id n h
    refine ⟨f, fd, d.ps, ?_, h7, h6.kp, h10⟩
    have e : FF tab sp (k + 1) id = run1 (FF tab sp k) d := by rw [FF, h2, h1]
    rw [e]
    refine funD_ok (k := 3 * k + 6) h6 h8 (fun vs H Q E z => by rw [spF_len z, h5]) fun cdv A outer s H vs Q E hcd hr hsp => ?_
    refine body_ok rfl (cDef_ok h9 (SOk.ofCx (k := 3 * k + 4) g h8 hr h3 h4 h11 h12 (fun ht => ?_) (by omega) (g.ok k))) hsp
    obtain ⟨z1, z2, z3⟩ := h13 ht
    exact ⟨z1, z2, hcd _ z3⟩
end
end L2.DL

set_option Elab.async false
set_option linter.all false
set_option maxRecDepth 100000
set_option maxHeartbeats 4000000
/-! D layer 21: the law itself. -/
namespace L2.DL
open PySem PySem.Spec PyProof.Rows
variable [TabL]

/-- the law's promise -/
def spLaw (K : PySem.W.Frag) (most : Nat) : Sp := fun vs H Q _ => ∃ (a : Addr) (ns : List Int), vs = [.ref a] ∧ ns.length ≤ most ∧ SqL K H a (ns.map V.int) ∧ Tbs H ∧ ∀ H', Q (.bl true) H'
/-- the draws at their start -/
def dr0 (ns : List Int) (seed : Int) : Dr := ⟨ns, 0, 0, seed⟩
/-- the law's slots behind its first statement -/
def lawE (N : List Str) (dslot : Nat) : En := (List.replicate N.length .no).set dslot .drw
/-- what a run of the law's code behind its first statement must do -/
def LawRun (F : Nat → Fn) (d : DefI) (dslot : Nat) (ir : IS) (ns : List Int) (seed : Int) : Prop :=
  ∃ s', evS' F ir (fun _ s => .ok (.none, s)) (fun _ _ => .stuck) (fun _ _ => .stuck) (lawE d.c.N dslot) (dr0 ns seed) = .ok (.bool true, s')
section
variable {P : Program} {w : World} {K : PySem.W.Frag} {mg : Str → Option Value} {base : Heap} {C : Addr} {fns : List (Str × Nat × Nat)} {cst : List (Str × D)} {tab : Nat → Option DefI} {sp : Nat → Option Fn}
theorem law_body {X : Cx} {F : Nat → Fn} {E : XK} {N : List Str} {most : Nat} {bid dslot : Nat} {d : DefI} {ir : IS} {y x : Str} {py p1 p2 pos pos' : Pos} {rest : List Stmt} {vs : List V} {H : Hp} {Q : VK} (o : SOk d.c F X E C) (hN : d.c.N = N)
    (hf : d.c.fns.lookup ("_law_begin" : Str) = some (bid, 1)) (hg : glB d.c.sc "_law_begin" = true) (hx : slotOf d.c x = some 0) (hy : tgOf d.c 1 (.Name y py) = some (.nm dslot)) (hd0 : dslot ≠ 0)
    (hr : DSs X E C rest (evS' F ir)) (hsp : spLaw X.K most vs H Q E)
    (hb : ∀ (ns : List Int), ns.length ≤ most → ∃ seed : Int, 0 ≤ seed ∧ (∀ s, ∃ s', F bid [.scr ns] s = .ok (.list [.list (ns.map .int), .int 0, .int 0, .int seed], s')) ∧ LawRun F d dslot ir ns seed) :
    ∃ t, PSs X (.Assign [.Name y py] (.Call (.Name "_law_begin" p1) [.Name x p2] [] pos) pos' :: rest) t ∧ t { nx := fun _ H' => Q .non H', rt := Q } (L2.start N vs) H := by
  obtain ⟨a, ns, rfl, hl, hS, hT, hQ⟩ := hsp
  obtain ⟨seed, hs0, hbeg, s', hrun⟩ := hb ns hl
  subst hN
  have nd : X.N.Nodup := by rw [o.hN]; exact o.nd
  obtain ⟨k1, k2, k3⟩ := nm_ok hy o.toCOk
  obtain ⟨j1, j2, j3, j4⟩ := slotOf_ok hx o.toCOk
  obtain ⟨kk, hroom0, _, hfs⟩ := o.lev
  obtain ⟨fa, fd, ps, FO, hm, hk, hbd⟩ := hfs _ bid 1 hf
  have hroom : Room kk X.A := hroom0.mono (Nat.le_add_right _ _)
  have hcall : DE X E C (.Call (.Name "_law_begin" p1) [.Name x p2] [] pos) (evCall 1 (F bid) (evArgV 0 evArgs0)) :=
    de_call FO hroom (glB_ok hg o.toCOk) hm hk hbd o.pass (daa_var j1 j2 j3 j4 daa_nil rfl) (by decide +kernel) rfl rfl
  obtain ⟨te, pe, re⟩ := hcall
  obtain ⟨tr, pr, qr⟩ := hr
  refine ⟨_, pss_cons (ps_asg pe (pg_name nd k1 k2 k3) rfl rfl rfl) pr, ?_⟩
  -- the start: nothing stands but what is written
  have emp : Sub (fun _ => none) H := fun _ _ z => nomatch z
  have hsq : ∃ Hc : Hp, Sub Hc H ∧ NoT Hc ∧ SqL X.K Hc a (ns.map V.int) := by
    rcases hS with h | h
    · rcases h with h | ⟨ob, h⟩
      · refine ⟨fun b => if b = a then H a else none, fun b o z => ?_, fun b o z => ?_, .inl (.inl (by simp [h]))⟩
        · by_cases hb : b = a
          · subst hb; simpa using z
          · simp [hb] at z
        · by_cases hb : b = a
          · subst hb
            have z' : H b = some o := by simpa using z
            rw [h] at z'
            cases z'
            exact fun _ q => nomatch q
          · simp [hb] at z
      · refine ⟨fun b => if b = a then H a else none, fun b o z => ?_, fun b o z => ?_, .inl (.inr ⟨ob, by simp [h]⟩)⟩
        · by_cases hb : b = a
          · subst hb; simpa using z
          · simp [hb] at z
        · by_cases hb : b = a
          · subst hb
            have z' : H b = some o := by simpa using z
            rw [h] at z'
            cases z'
            exact fun _ q => nomatch q
          · simp [hb] at z
    · exact ⟨_, emp, (fun _ _ z => nomatch z), .inr h⟩
  obtain ⟨Hc, hsub, hnT, hsq⟩ := hsq
  have ao : ArgsOk X.K Hc H (dr0 [] 0) none [.ref a] [.scr ns] := ⟨hsub, ⟨⟨a, rfl, hsq⟩, trivial⟩, (fun _ z => nomatch z), (by show (0 : Nat) ≤ 1; decide), hT, hnT⟩
  have e0 := ER.start (N := d.c.N) ao
  have hs1 : (startE d.c.N [.scr ns])[0]? = some (.scr ns) := by unfold startE; rfl
  have hds : (startE d.c.N [.scr ns]).length = d.c.N.length := by
    rw [← e0.len]
    unfold L2.start
    have h0 : 0 < d.c.N.length := by
      have := (List.getElem?_eq_some_iff.mp j1).1
      rw [o.hN] at this
      exact this
    rw [List.length_append, List.length_map, List.length_replicate]
    show 1 + (d.c.N.length - 1) = _
    omega
  have hdl : dslot < (startE d.c.N [.scr ns]).length := by
    rw [hds]
    have := (List.getElem?_eq_some_iff.mp k1).1
    rwa [o.hN] at this
  obtain ⟨sb, hbeg⟩ := hbeg (dr0 [] 0)
  refine re (fun _ => (none : Option Addr).getD 0) none Hc H (L2.start d.c.N [.ref a]) (startE d.c.N [.scr ns]) (dr0 [] 0) _ e0 ?_
  have hev : evCall 1 (F bid) (evArgV 0 evArgs0) (startE d.c.N [.scr ns]) (dr0 [] 0) = .ok (.list [.list (ns.map .int), .int 0, .int 0, .int seed], dr0 [] 0) := by
    unfold evCall evArgV
    rw [hs1]
    show (if [Sl.scr ns].length = 1 then (match drwN [Sl.scr ns] with
      | 0 => (F bid [Sl.scr ns] (dr0 [] 0)).bind fun q => .ok (q.1, dr0 [] 0)
      | 1 => F bid [Sl.scr ns] (dr0 [] 0)
      | _ => .stuck) else .stuck) = _
    rw [if_pos (show [Sl.scr ns].length = 1 from rfl)]
    show (F bid [Sl.scr ns] (dr0 [] 0)).bind (fun q => .ok (q.1, dr0 [] 0)) = _
    rw [hbeg]
    rfl
  rw [hev]
  intro v Hc1 H1 n1 e1 hd
  cases hd with
  | lst h1 h2 =>
    rename_i p vs
    cases h2 with
    | cons r1 r2 =>
      cases r2 with
      | cons r3 r4 =>
        cases r4 with
        | cons r5 r6 =>
          cases r6 with
          | cons r7 r8 =>
            cases r3; cases r5; cases r7; cases r8
            cases r1 with
            | lst q1 q2 =>
              rename_i b ws
              have hws := DvAll.map_int q2
              subst hws
              have hbp : b ≠ p := fun z => by
                subst z
                rw [h1] at q1
                have z2 := Option.some.inj q1
                have z3 : [V.ref b, V.int 0, V.int 0, V.int seed] = ns.map V.int := by injection z2
                cases ns with
                | nil => cases z3
                | cons n ns => cases z3
              -- the law's own moment: only the script's copy stands
              let Hc2 : Hp := fun c => if c = b then some (.lst (ns.map V.int)) else none
              have s2 : Sub Hc2 H1 := fun c o z => by
                by_cases hc : c = b
                · subst hc
                  have z' : some (HO.lst (ns.map V.int)) = some o := by simpa [Hc2] using z
                  cases z'
                  exact e1.sub _ _ q1
                · simp [Hc2, hc] at z
              have np : Hc2 p = none := by
                show (if p = b then _ else none) = none
                rw [if_neg (Ne.symm hbp)]
              have e2 : ER X.K (fun _ => p) (some p) Hc2 H1 ((L2.start d.c.N [.ref a]).set dslot (some (.ref p))) (lawE d.c.N dslot) (dr0 ns seed) := by
                have hdN : dslot < d.c.N.length := by rw [← hds]; exact hdl
                have back : ∀ (i : Nat) (x : Sl), (lawE d.c.N dslot)[i]? = some x → (i = dslot ∧ x = .drw) ∨ x = .no := fun i x hx => by
                  unfold lawE at hx
                  by_cases h1 : i = dslot
                  · subst h1
                    rw [List.getElem?_set_self (by rw [List.length_replicate]; exact hdN)] at hx
                    cases hx
                    exact .inl ⟨rfl, rfl⟩
                  · rw [List.getElem?_set_ne (Ne.symm h1), List.getElem?_replicate] at hx
                    split at hx
                    · cases hx; exact .inr rfl
                    · cases hx
                refine ⟨s2, ?_, fun i x hx => ?_, fun i j x y hi hj ox oy _ => ?_, fun i hi => rfl, fun a' ha => ?_, fun i x hx ho => ?_, e1.tabs, fun c o z => ?_⟩
                · unfold lawE
                  rw [List.length_set, List.length_set, List.length_replicate, e0.len, hds]
                · rcases back i x hx with ⟨rfl, rfl⟩ | rfl
                  · show (List.set _ i _)[i]? = _
                    rw [List.getElem?_set_self (by rw [e0.len]; exact hdl)]
                  · trivial
                · rcases back i x hi with ⟨_, rfl⟩ | rfl <;> cases ox
                · cases ha
                  exact ⟨⟨b, e1.sub _ _ h1, by simp [Hc2, dr0], Int.le_refl _, Int.le_refl _, hs0⟩, np⟩
                · rcases back i x hx with ⟨_, rfl⟩ | rfl <;> cases ho
                · by_cases hc : c = b
                  · subst hc
                    have z' : some (HO.lst (ns.map V.int)) = some o := by simpa [Hc2] using z
                    cases z'
                    exact nT_lst
                  · simp [Hc2, hc] at z
              have noOwn : ∀ i x, (lawE d.c.N dslot)[i]? = some x → own x = true → False := fun i x hx ho => by
                unfold lawE at hx
                by_cases h1 : i = dslot
                · subst h1
                  rw [List.getElem?_set_self (by rw [List.length_replicate, ← hds]; exact hdl)] at hx
                  cases hx; cases ho
                · rw [List.getElem?_set_ne (Ne.symm h1), List.getElem?_replicate] at hx
                  split at hx
                  · cases hx; cases ho
                  · cases hx
              refine qr ⟨some p, Hc2, H1, Hc2⟩ [] (fun _ s => .ok (.none, s)) (fun _ _ => .stuck) (fun _ _ => .stuck) (.ok (.bool true, s')) _ _ H1 (lawE d.c.N dslot) (dr0 ns seed) ⟨_, Hc2, e2, Nx.refl, fun i x hx ho => (noOwn i x hx ho).elim, (fun p hp => nomatch hp), Sub.refl _⟩ hrun ?_
              refine ⟨fun env s2 σ H2 sr e => ?_, (fun env s2 σ H2 sr e => nomatch e), (fun env s2 σ H2 sr e => nomatch e), fun dd s2 v Hc' H' e nn sc dr hd => ?_, (fun c e => nomatch e), (fun z => nomatch z)⟩
              · cases e
              · cases e
                cases hd
                exact hQ H'
end
end L2.DL

set_option Elab.async false
set_option linter.all false
set_option maxRecDepth 100000
set_option maxHeartbeats 4000000
/-! D layer 22: from the head to the law. -/
namespace L2.DL
open PySem PySem.Spec PyProof.Rows
variable [TabL]

section
variable {P : Program} {w : World} {K : PySem.W.Frag} {mg : Str → Option Value} {base : Heap} {C : Addr} {fns : List (Str × Nat × Nat)} {cst : List (Str × D)} {tab : Nat → Option DefI} {sp : Nat → Option Fn} {rs : Bool} {tf : List Str}
def AllF {α : Type} (P : α → Prop) : List α → Prop
  | [] => True
  | a :: l => P a ∧ AllF P l
theorem AllF.mem {α : Type} {P : α → Prop} : ∀ {l : List α} {a : α}, AllF P l → a ∈ l → P a
  | b :: l, a, h, hm => by
    rcases List.mem_cons.mp hm with rfl | hm
    · exact h.1
    · exact AllF.mem h.2 hm
theorem lookup_in {β : Type} {x : Str} {v : β} : ∀ {l : List (Str × β)}, l.lookup x = some v → (x, v) ∈ l
  | (y, u) :: l, h => by
    rw [List.lookup_cons] at h
    by_cases e : x = y
    · subst e
      simp at h
      subst h
      exact List.mem_cons_self
    · have e' : (x == y) = false := by simpa using e
      rw [e'] at h
      exact List.mem_cons_of_mem _ (lookup_in h)
/-- a constant of the module -/
def HC (K : PySem.W.Frag) (mg : Str → Option Value) (p : Str × D) : Prop := ∃ u v, mg p.1 = some u ∧ RelV v u ∧ ∀ H, Dv K H v p.2
theorem PG.of (hb : ∀ x ∈ bNames, mg x = none) (hc : AllF (HC K mg) cst) (hf : AllF (HF K mg fns cst tab sp rs tf) fns) (h1 : rs = true → ExcF P w K mg base C) (h2 : tf ≠ [] → ToldF K mg C) (h3 : ∀ x ∈ tf, LamX.TabB base mg (He.cT K (x, none)).1 (He.cT K (x, none)).2)
    (h4 : ∀ x ∈ tf, ((He.cT K (x, none)).2, lamQ x) ∈ TabL.T) (h5 : ∀ x ∈ tf, ∀ p ∈ TabL.T, p.1 = (He.cT K (x, none)).2 → p.2 = lamQ x) (h6 : TabL.PW = some (P, w)) : PG P w K mg base C fns cst tab sp rs tf where
  hblt := hb
  hcst := fun x d h => hc.mem (lookup_in h)
  hfns := fun x id n h => hf.mem (lookup_in h)
  exc := h1
  told := h2
  tabs := h3
  tabIn := h4
  uniq := h5
  pw := h6
/-- the law's def: its first statement, the rest -/
def isHead (y x : Str) : List Stmt → Bool
  | .Assign [.Name y' _] (.Call (.Name b _) [.Name x' _] [] _) _ :: _ => y' == y && b == ("_law_begin" : Str) && x' == x
  | _ => false
theorem isHead_is {y x : Str} {body : List Stmt} (h : isHead y x body = true) : ∃ py p1 p2 pos pos', body = .Assign [.Name y py] (.Call (.Name "_law_begin" p1) [.Name x p2] [] pos) pos' :: body.tail := by
  unfold isHead at h
  split at h
  · simp only [Bool.and_eq_true, beq_iff_eq] at h
    obtain ⟨⟨rfl, rfl⟩, rfl⟩ := h
    exact ⟨_, _, _, _, _, rfl⟩
  · cases h
theorem law_ok {params : Arguments} {body : List Stmt} {f : Addr} {fd : FuncData} {d : DefI} {mu : List Nat} {ir : IS} {y x : Str} {bid dslot k most : Nat} (g : PG P w K mg base C fns cst tab sp rs tf) (F : FunD K "law" "law" params body d.c.sc [] [] f fd) (S : FnScope d.c.N [x] d.c.sc)
    (h3 : d.c.fns = fns) (h4 : d.c.cst = cst) (h5 : d.c.dp = 2) (h6 : d.c.rse = true → rs = true) (h7 : d.c.tld = false) (hh : isHead y x body = true) (hir : cDef d.c mu body.tail = some ir)
    (hf : fns.lookup ("_law_begin" : Str) = some (bid, 1)) (hg : glB d.c.sc "_law_begin" = true) (hx : slotOf d.c x = some 0) (hy : tgOf d.c 1 (.Name y ⟨0, 0, 0, 0⟩) = some (.nm dslot)) (hd0 : dslot ≠ 0)
    (hb : ∀ (ns : List Int), ns.length ≤ most → ∃ seed : Int, 0 ≤ seed ∧ (∀ s, ∃ s', FF tab sp k bid [.scr ns] s = .ok (.list [.list (ns.map .int), .int 0, .int 0, .int seed], s')) ∧ LawRun (FF tab sp k) d dslot ir ns seed) :
    FnOk P w K mg base (L2.CX P w) (3 * k + 7) f fd [x] (spLaw K most) := by
  refine funD_ok (k := 3 * k + 6) F S (fun vs H Q E z => ?_) fun cdv A outer s H vs Q E hcd hr hsp => ?_
  · obtain ⟨a, ns, rfl, _⟩ := z
    rfl
  · have o : SOk d.c (FF tab sp k) (cxOf (L2.CX P w) P w K mg base d.c.N "law" d.c.sc f cdv A outer s H E) E C := SOk.ofCx (k := 3 * k + 4) g S hr h3 h4 h5 h6 (fun ht => by rw [h7] at ht; cases ht) (by omega) (g.ok k)
    obtain ⟨py, p1, p2, pos, pos', e⟩ := isHead_is hh
    rw [e]
    exact law_body (d := d) o rfl (by rw [h3]; exact hf) hg hx hy hd0 (cDef_ok hir o) hsp hb
/-- a promise that lets nothing out, whatever one calls being let out -/
theorem fn_free {CX' : CXT} {k : Nat} {f : Addr} {fd : FuncData} {ps : List Str} {spp : Sp} (F : FnOk P w K mg base (L2.CX P w) k f fd ps spp) (h : ∀ vs H Q E, spp vs H Q E → spp vs H Q EF) : FnOk P w K mg base CX' k f fd ps spp :=
  ⟨F.len, fun A outer s H args us vs Q E hr e0 hb hv hs => codeAny_mono (F.run A outer s H args us vs Q EF hr e0 hb hv (h _ _ _ _ hs)) fun r s' q => by
    cases r with
    | ok fl => cases fl <;> exact q
    | error e =>
      obtain ⟨_, _, _, _, _, _, _, _, _, _, _, _, z⟩ := q
      exact z.elim⟩
theorem spLaw_free {most : Nat} : ∀ vs H Q E, spLaw K most vs H Q E → spLaw K most vs H Q EF := fun _ _ _ _ h => h
/-- nothing is let out where nothing may be -/
theorem cx_no {H : Hp} {s : Shared} {e : Value} {s' : Shared} (h : L2.CX P w [] H s (fun _ _ _ => False) e s') : False := by
  obtain ⟨_, _, _, _, _, _, _, _, _, _, _, _, h⟩ := h
  exact h
end
end L2.DL

set_option Elab.async false
set_option linter.all false
set_option maxRecDepth 100000
set_option maxHeartbeats 4000000
/-! D layer 23: the error's own __init__ (super). -/
namespace L2.DL
open PySem PySem.Spec PyProof.Rows
variable [TabL]

section
variable {prog : Program} {w : World} {A : Around} {E : Value → Shared → Prop} {h : Heap} {g : Array GenState} {d : Drawn} {t : Nat} {os : OsState}
variable {nm q : Str} {C N : Addr} {bs bm : List Value} {hdct : Bool} {sn : List Str} {sub : List Value} {ab : Bool} {col : Option Bool} {dd : Option Addr} {k0 k1 k2 k3 k5 : Option Value}
/-- ValueError.__init__ bound to e, called -/
theorem call_bwV {u e t0 : Addr} {rest : List Value} {Q : Value → Shared → Prop}
    (hC : h.get? C = some (excClassObj nm q C N bs bm hdct sn sub ab col dd k0 k1 k2 k3 k5 "ValueError.__new__")) (he : h.get? e = some (HandSPX.excO C t0)) (hu : h.get? u = some (PySem.W.kxs_mw "ValueError.__init__" e)) (hrest : rest.length ≤ sizeLine)
    (hq : ∀ h' t1, (∀ b o, b ≠ e → h.get? b = some o → h'.get? b = some o) → h'.get? e = some (HandSPX.excO C t1) → Q .none ⟨h', g, d, t, os⟩) :
    wpAny (model prog w) A (call (.ref u) rest) Q E ⟨h, g, d, t, os⟩ := by
  refine wpAny_call (codeAny_of_tree ?_)
  show wpAny _ A.in1 (callAny (.ref u) ⟨rest, []⟩) _ _ _
  simp only [callAny]
  refine wpAny_bind (wpAny_load hu ?_)
  simp only [PySem.W.kxs_mw, show (Value.type "method-wrapper" == Value.type "method" || Value.type "method-wrapper" == Value.type "builtin_function_or_method" || Value.type "method-wrapper" == Value.type "method-wrapper") = true by decide, if_true]
  refine PySem.W.KFB.if_so (by decide) ?_
  refine wpAny_bind (PySem.ESX.check_bound PySem.F.excBase_ValueError hC he rfl ?_)
  refine wpAny_bind (wpAny_pure (wpAny_pure ?_))
  refine ⟨Code.quiet_builtin _ (by decide +kernel), codeAny_builtin PySem.F.excBase_ValueError.initEntry ?_⟩
  rw [Around.under_plainId PySem.F.excBase_ValueError.init.plain _]
  wp_walk
  refine hq _ h.objs.size (fun b o hb ho => ?_) ?_
  · rw [Heap.get?_update_other _ _ (Ne.symm hb)]
    exact Heap.get?_push_of_some _ ho
  · rw [Heap.get?_update_self _ (Heap.get?_push_of_some _ he) rfl]
    rfl
end

theorem he_line {o : Expr} {m : Str} {apos pos : Pos} {env : Env} {e : Expr} (hs : star e = false) (hl : (apos.endLine == pos.line) = true) : eval (.Call (.Attribute o m apos) [e] [] pos) env = (do
    let ov ← attributeBase o m env (eval o env)
    standAt apos.atName
    let (f, first) ← holding [ov] (getMethod ov m (L2.plainOf o env))
    callWith pos f first (backTo pos (starEach [e] env)) []) := by
  have h1 : eval (.Call (.Attribute o m apos) [e] [] pos) env = (do
    let ov ← attributeBase o m env (eval o env)
    standAt apos.atName
    methodCall o m apos pos env ov ([e].length + ([] : List Keyword).length) (backTo pos (starEach [e] env)) (backToKw pos (keywordEach [] env))) := rfl
  rw [h1]
  congr 1
  funext ov
  congr 1
  funext _
  exact L2.mcall_line (by rw [star_cons hs]; rfl) hl
/-- what must be known of the class's __init__ -/
structure InitF (P : Program) (K : PySem.W.Frag) (C fI : Addr) (fd : FuncData) : Prop where
  ex : ∃ (qual : Str) (params : Arguments) (body : List Stmt) (scope : Scope) (dV kV doc pm : Value) (an : Option Addr) (cda : Addr) (ct : Value) (cc : Addr) (oc : Value) (od : Option Addr) (osl : Array (Option Value)) (vs : Array Value) (file : Str) (tf : Tok) (ccl : Value) (cdd : Option Addr) (ccs : Array (Option Value)) (cl : Value) (cld : Option Addr) (csl : Array (Option Value)) (ar : Arg),
    fd = PySem.W.fnX "__init__" qual params body scope [("__class__", cc)] dV kV doc pm an (.ref cda) ct ∧ K.lookup fI = some ⟨oc, od, .func fd, osl⟩ ∧ PySem.W.codeIn K (.ref cda) qual = true ∧ K.lookup cda = some ⟨ccl, cdd, .fields vs, ccs⟩ ∧ vs[2]? = some (.str file tf) ∧ ((P.main.file : Str) == file) = true ∧
    K.lookup cc = some ⟨cl, cld, .cell (some (.ref C)), csl⟩ ∧ (params.posonlyargs ++ params.args).head? = some ar ∧ ar.arg = "self" ∧
    scope.kind = .function ∧ scope.isCoroutine = false ∧ scope.isGenerator = false ∧ (∀ x ∈ scope.names, x.2 ≠ .cell) ∧ scope.names.lookup ("super" : Str) = some .globalImplicit ∧ scope.names.lookup ("__class__" : Str) = some .free ∧ scope.names.lookup ("self" : Str) = some .local ∧ scope.names.lookup ("code" : Str) = some .local ∧
    ∃ (p0 p1 p2 p3 p4 p5 p6 p7 p8 p9 : Pos), (p2.endLine == p4.line) = true ∧ body = [.Expr (.Call (.Attribute (.Call (.Name "super" p0) [] [] p1) "__init__" p2) [.Name "code" p3] [] p4) p5, .Assign [.Attribute (.Name "self" p6) "code" p7] (.Name "code" p8) p9]
  sup : PySem.W.nsIn K mainGlobals "super" = some none
  top : (P.main.scope.names.lookup ("super" : Str)).isSome = false
  mro : PySem.W.mroIn K C (.ref C) = some true
  sub : PySem.W.subIn K (.ref C) (.type "ValueError") = some true
  find : PySem.W.ks_superIn K C C "__init__" = some (some (.builtin "ValueError.__init__"))
  no : PySem.W.findIn K (.ref C) "code" = some none
  opq : PySem.W.nsIn K cStatics "thirdparty.any" = some none
section
variable {P : Program} {w : World} {K : PySem.W.Frag} {mg : Str → Option Value} {base : Heap} {C fI : Addr} {fd : FuncData}
theorem init_ok (I0 : InitF P K C fI fd) (T : OexC K C) (hsup : mg "super" = none) (k : Nat) : FnOk P w K mg base (L2.CX P w) (k + 1) fI fd ["self", "code"] (spI K C) := by
  obtain ⟨qual, params, body, scope, dV, kV, doc, pm, an, cda, ct, cc, oc, od, osl, vs, file, tf, ccl, cdd, ccs, cl, cld, csl, ar, rfl, lk, hcd, lkc, hvs, hfile, lcell, hp, har, s1, s2, s3, s4, s5, s6, s7, s8, p0, p1, p2, p3, p4, p5, p6, p7, p8, p9, hline, rfl⟩ := I0.ex
  refine ⟨fun vs H Q E z => ?_, fun A outer s H args us vs' Q E hr e0 hb hv hs => ?_⟩
  · obtain ⟨a, x, rfl, _⟩ := z; rfl
  obtain ⟨a, x, rfl, _, ha, hQ⟩ := hs
  obtain ⟨u1, u2, rfl, r1, r2⟩ := hv.two
  obtain rfl : u1 = Value.ref a := r1
  obtain ⟨tx, rfl⟩ : ∃ tx, u2 = Value.str x tx := r2
  have KX : K.In s.heap := e0.mod.kin.keeps fun b o e => (e0.bs b o e).1
  have lim : s.heap.NoLimit := e0.mod.nolimit.keeps fun b o e => (e0.bs b o e).1
  refine ks_codeAny_call_defAt (binds := [(("self" : Str), Value.ref a), (("code" : Str), Value.str x tx)]) hr.depth (KX _ _ lk) rfl lim (PySem.W.codeRec_of KX hcd) rfl hb s4 (fun y hy => ?_) (fun h₀ hns hk => ?_) s2 s3 s1
  · rcases List.mem_cons.mp hy with rfl | hy
    · exact s7
    · rcases List.mem_cons.mp hy with rfl | hy
      · exact s8
      · cases hy
  obtain ⟨hp0, g, dr, tk, os⟩ := s
  -- a frame like ours, without the captured name
  obtain ⟨scF, hscF⟩ : ∃ scF : Scope, scF = { scope with names := [(("self" : Str), NameKind.local), (("code" : Str), NameKind.local)] } := ⟨_, rfl⟩
  have SF : FnScope ["self", "code"] ["self", "code"] scF := by
    subst hscF
    exact ⟨s1, s2, s3, by decide +kernel, rfl, fun y hy => .inl (by
      rcases List.mem_cons.mp hy with rfl | hy
      · rfl
      · rcases List.mem_cons.mp hy with rfl | hy
        · rfl
        · cases hy), fun y hy => by
      rcases List.mem_cons.mp hy with rfl | hy
      · decide
      · rcases List.mem_cons.mp hy with rfl | hy
        · decide
        · cases hy⟩
  have I : Inv (cxOf (L2.CX P w) P w K mg base ["self", "code"] qual scF fI (.ref cda) A outer ⟨hp0, g, dr, tk, os⟩ H E) [] (L2.start ["self", "code"] [.ref a, .str x]) H ⟨h₀, g, dr, tk + 2, os⟩ := by
    refine inv_start SF hr.hd e0 rfl hv ⟨⟨⟨h₀, _, rfl⟩, ?_, hk, Nat.le_refl _⟩, ?_, ?_, ?_⟩
    · have e : (bindL (envOfC qual scF hp0.objs.size fI (.ref cda)).kindOf ([("self" : Str), "code"].zip [Value.ref a, Value.str x tx]) fun _ => none) = fun y => ([(("self" : Str), Value.ref a), (("code" : Str), Value.str x tx)] : List (Str × Value)).reverse.lookup y := by
        have k1 : (envOfC qual scF hp0.objs.size fI (.ref cda)).kindOf "self" = some .local := by subst hscF; rfl
        have k2 : (envOfC qual scF hp0.objs.size fI (.ref cda)).kindOf "code" = some .local := by subst hscF; rfl
        show bindL (envOfC qual scF hp0.objs.size fI (.ref cda)).kindOf [(("self" : Str), Value.ref a), (("code" : Str), Value.str x tx)] (fun _ => none) = _
        unfold bindL bindL bindL
        rw [if_pos k1, if_pos k2]
        funext y
        show _ = ([(("code" : Str), Value.str x tx), (("self" : Str), Value.ref a)] : List (Str × Value)).lookup y
        by_cases h1 : y = "code"
        · rw [if_pos h1, List.lookup_cons, h1]
          simp
        · rw [if_neg h1, List.lookup_cons, show (y == ("code" : Str)) = false by simpa using h1]
          by_cases h2 : y = "self"
          · rw [if_pos h2, h2]
            simp
          · rw [if_neg h2]
            simp [List.lookup_cons, show (y == ("self" : Str)) = false by simpa using h2]
      show h₀.Ns hp0.objs.size _
      rw [e]
      exact hns
    · intro n c z
      subst hscF
      cases z
    · subst hscF
      exact List.Pairwise.nil
    · intro n c z
      subst hscF
      cases z
  obtain ⟨t1, hoa⟩ := exo_at I.hok ha
  obtain ⟨nm, q, N, bs, bm, sn, sub, ab, col, dd, k0, k1, k2, k3, k5, hC, hbm⟩ := T.cls
  have K1 : K.In h₀ := I.kIn
  have hclo : PySem.W.clsIn K C = some { name := nm, bases := bs, mro := .ref C :: bm, ns := N, qualname := q, hasDict := true, slotNames := sn, subclasses := sub, abstract := ab, collection := col, hasDel := false } := by unfold PySem.W.clsIn; rw [hC] <;> rfl
  have hCo := K1 _ _ hC
  have hmod := e0.mod
  obtain ⟨mb, hmb1, hmb2⟩ := hmod.blt
  have bk : ∀ b o, base.get? b = some o → h₀.get? b = some o := fun b o e => hk b o (e0.bs b o e).1
  have aC : a ≠ C := fun z => by
    subst z
    rw [hoa] at hCo
    cases hCo
  have Lna : hp0.objs.size ≠ a := fun z => by
    have := e0.hok.fresh (a := hp0.objs.size) (Nat.le_refl _)
    rw [z, ha] at this
    cases this
  have cv : ∀ (m : Str → Option Value), m = (fun y => ([(("self" : Str), Value.ref a), (("code" : Str), Value.str x tx)] : List (Str × Value)).reverse.lookup y) → m "code" = some (.str x tx) ∧ m "self" = some (.ref a) := fun m e => by
    subst e
    exact ⟨by kernel_rfl, by kernel_rfl⟩
  obtain ⟨cv1, cv2⟩ := cv _ rfl
  refine PySem.ks_wpAt_execs_cons (PySem.ks_wpAt_Expr_any (PySem.ks_wpAt_MethodCall (pl := L2.plainOf (.Call (.Name "super" p0) [] [] p1) _) ?_ (he_line rfl hline)) ?_ rfl)
  · refine PySem.ks_wpAt_super_base s5 s6 (by decide +kernel) rfl (K1 _ _ lk) rfl hp rfl (K1 _ _ lkc) rfl hvs hfile I0.top ?_
    refine PySem.W.ks_loadName_global s1 s5 (Calls.loadGlobal_builtin (hmod.glob.keeps bk) hsup (hmb1.keeps bk) ((hmb2 _ (by decide +kernel)).trans (by kernel_rfl : bootBuiltins "super" = some (.type "super"))) ⟨rfl, ?_⟩)
    refine wpAny_loadName_free s1 s6 rfl ⟨_, K1 _ _ lcell, rfl⟩ ?_
    refine wpAny_loadName_local s1 (by rw [har]; exact s7) hns (by rw [har]; exact cv2) ?_
    refine PySem.ks_wpAny_isType_cls hCo rfl ⟨rfl, ?_⟩
    refine PySem.ks_wpAny_call_super hCo rfl hoa rfl (fun c z => nomatch z) (PySem.W.looks_mroIn K1 I0.mro) (fun h1 hso k1 => ?_)
    have K2 : K.In h1 := K1.keeps k1
    have hoa1 := k1 _ _ hoa
    have ia : PySem.W.InstAt h1 a { cls := .ref C, data := .fields #[.ref t1, .none, .none, .none, .bool false, .none] } C none := ⟨hoa1, rfl, rfl, trivial⟩
    refine PySem.W.kxs_getMethod PySem.W.kxs_ValueError hso (PySem.W.looks_opaque K2 I0.opq) (l₀ := .ref C :: bm) (fun A Q E s k q => wpAny_bind ((PySem.W.looks_clsIn K2 hclo) A _ E s k (wpAny_pure q))) rfl K2 (by
      have z := I0.find
      unfold PySem.W.ks_superIn at z
      rw [hclo] at z
      exact z) (ia.type.andThen (PySem.W.looks_subIn K2 I0.sub)) aC (by decide +kernel) ?_
    have k2 : ∀ b o, h1.get? b = some o → (h1.push (PySem.W.kxs_mw "ValueError.__init__" a)).get? b = some o := fun b o e => Heap.get?_push_of_some _ e
    have hmw : (h1.push (PySem.W.kxs_mw "ValueError.__init__" a)).get? h1.objs.size = some (PySem.W.kxs_mw "ValueError.__init__" a) := Heap.get?_push_at rfl rfl
    show wpAny _ _ (callWith p4 (.ref h1.objs.size) [] ((false, eval (.Name "code" p3) _) :: backTo p4 (starEach [] _)) []) _ _ _
    refine PySem.W.kxs_callWith (i := "ValueError.__init__") (x := a) rfl (Calls.evalArgs_plain (Calls.spliced_cons (wpAny_Name (wpAny_loadName_local s1 s8 ((hns.keeps k1).keeps k2) cv1 ?_) (by decide +kernel))))
    refine Calls.spliced_nil ⟨hmw, ?_⟩
    refine call_bwV (k2 _ _ (K2 _ _ hC)) (k2 _ _ hoa1) hmw (by show 1 ≤ sizeLine; rw [sizeLine_eq]; omega) fun h3 t3 k3 hx3 => ?_
    -- behind the call: nothing that is tracked has changed
    have J1 : Inv (cxOf (L2.CX P w) P w K mg base ["self", "code"] qual scF fI (.ref cda) A outer ⟨hp0, g, dr, tk, os⟩ H E) [] (L2.start ["self", "code"] [.ref a, .str x]) H ⟨h1.push (PySem.W.kxs_mw "ValueError.__init__" a), g, dr, tk + 2 + 1, os⟩ := I.kept (t' := tk + 2 + 1) fun b o e => k2 _ _ (k1 _ _ e)
    have J := J1.write (t' := tk + 2 + 1) (x := a) (e := a) (o := exo a C none) (by rw [ha]; exact True.intro) (.inl rfl) k3 ⟨_, hx3⟩ (exo_ok hx3)
    have eu : upd H a (exo a C none) = H := by
      funext b
      by_cases hb : b = a
      · rw [hb, upd_same, ha]
      · rw [upd_ne hb]
    rw [eu] at J
    have ns3 : h3.Ns hp0.objs.size (fun y => ([(("self" : Str), Value.ref a), (("code" : Str), Value.str x tx)] : List (Str × Value)).reverse.lookup y) := by
      obtain ⟨oL, es, ep, q1, q2⟩ := (hns.keeps k1).keeps k2
      exact ⟨oL, es, ep, k3 _ _ Lna q1, q2⟩
    show PySem.wpAt _ _ _ (execs [.Assign [.Attribute (.Name "self" p6) "code" p7] (.Name "code" p8) p9] _) _ _ _
    refine PySem.ks_wpAt_execs_cons (PySem.ks_wpAt_Assign_Attr (wpAt_of_wpAny (wpAny_Name (wpAny_loadName_local s1 s8 ns3 cv1 ?_) (by decide +kernel))) rfl)
    refine wpAny_Name (wpAny_loadName_local s1 s7 ns3 cv2 ?_) (by decide +kernel)
    refine ost_new T J ha I0.no (show RelV (.str x) (.str x tx) from ⟨_, rfl⟩) fun dx s4 hd hne J4 => ?_
    exact wpAt_of_wpAny (wpAny_execs_nil ⟨.non, _, J4.os, J4.bare, J4.base, J4.hok, rfl, hQ dx hd hne⟩)
  · simp [interactive, callEnv, newEnv, PySem.W.fnX, s1]
end
end L2.DL

set_option Elab.async false
set_option linter.all false
set_option maxRecDepth 100000
set_option maxHeartbeats 4000000
/-! D layer 24: the errors' class, looked at by the head. -/
namespace L2.DL
open PySem PySem.Spec PyProof.Rows
variable [TabL]

def oexB (K : PySem.W.Frag) (C : Addr) : Bool := match K.lookup C with
  | some ⟨.type "type", _, .cls cd, sl⟩ => (match cd.mro, sl.toList with
    | .ref C' :: bm, [_, _, _, _, some (.builtin n), _] => C' == C && n == "ValueError.__new__" && !cd.hasDel && cd.hasDict && PySem.HandSPX.refsVE bm
    | _, _ => false)
  | _ => false
theorem oexB_ok {K : PySem.W.Frag} {C : Addr} (h : oexB K C = true) : ∃ nm q N bs bm sn sub ab col dd k0 k1 k2 k3 k5, K.lookup C = some (excClassObj nm q C N bs bm true sn sub ab col dd k0 k1 k2 k3 k5 "ValueError.__new__") ∧ PySem.HandSPX.refsVE bm = true := by
  unfold oexB at h
  split at h
  · rename_i dd cd sl hl
    split at h
    · rename_i C' bm k0 k1 k2 k3 n k5 hm hs
      simp only [Bool.and_eq_true, beq_iff_eq, Bool.not_eq_true'] at h
      obtain ⟨⟨⟨⟨rfl, rfl⟩, h3⟩, h4⟩, h5⟩ := h
      obtain ⟨nm, bs, mro, ns, qn, hd, sn, sb, ab, col, del⟩ := cd
      dsimp only at hm h3 h4
      subst hm; subst h3; subst h4
      refine ⟨nm, qn, ns, bs, bm, sn, sb, ab, col, dd, k0, k1, k2, k3, k5, ?_, h5⟩
      rw [hl]
      have e : sl = #[k0, k1, k2, k3, some (.builtin "ValueError.__new__"), k5] := by
        rw [← Array.toArray_toList (xs := sl), hs]
      rw [e]
    · cases h
  · cases h
def isInitBody : List Stmt → Bool
  | [.Expr (.Call (.Attribute (.Call (.Name a _) [] [] _) b p2) [.Name c _] [] p4) _, .Assign [.Attribute (.Name d _) e _] (.Name f _) _] =>
    a == ("super" : Str) && b == ("__init__" : Str) && c == ("code" : Str) && d == ("self" : Str) && e == ("code" : Str) && f == ("code" : Str) && p2.endLine == p4.line
  | _ => false
theorem isInitBody_ok {body : List Stmt} (h : isInitBody body = true) : ∃ (p0 p1 p2 p3 p4 p5 p6 p7 p8 p9 : Pos), (p2.endLine == p4.line) = true ∧ body = [.Expr (.Call (.Attribute (.Call (.Name "super" p0) [] [] p1) "__init__" p2) [.Name "code" p3] [] p4) p5, .Assign [.Attribute (.Name "self" p6) "code" p7] (.Name "code" p8) p9] := by
  unfold isInitBody at h
  split at h
  · simp only [Bool.and_eq_true, beq_iff_eq] at h
    obtain ⟨⟨⟨⟨⟨⟨rfl, rfl⟩, rfl⟩, rfl⟩, rfl⟩, rfl⟩, h7⟩ := h
    exact ⟨_, _, _, _, _, _, _, _, _, _, by rw [beq_iff_eq]; exact h7, rfl⟩
  · cases h
def parB : Arguments → Bool
  | ⟨[], [a, b], none, [], [], none, []⟩ => a.arg == ("self" : Str) && b.arg == ("code" : Str)
  | _ => false
def scopeB (sc : Scope) : Bool := decide (sc.kind = .function) && !sc.isCoroutine && !sc.isGenerator && sc.names.all (fun x => !decide (x.2 = .cell)) && decide (sc.names.lookup ("super" : Str) = some .globalImplicit) && decide (sc.names.lookup ("__class__" : Str) = some .free) &&
  decide (sc.names.lookup ("self" : Str) = some .local) && decide (sc.names.lookup ("code" : Str) = some .local)
def initB (P : Program) (K : PySem.W.Frag) (C fI : Addr) : Bool := match K.lookup fI with
  | some ⟨_, _, .func fd, _⟩ => (match fd.body, fd.closure, fd.code with
    | .stmts body, [(cn, cc)], .ref cda => fd.name == ("__init__" : Str) && cn == ("__class__" : Str) && decide (fd.globals = mainGlobals) && decide (fd.builtins = builtinsNs) && isInitBody body && parB fd.params && scopeB fd.scope && decide (fd.defaults = .none) && PySem.W.codeIn K (.ref cda) fd.qualname &&
      (match K.lookup cda with
        | some ⟨_, _, .fields vs, _⟩ => (match (vs[2]? : Option Value) with
          | some (Value.str file _) => (P.main.file : Str) == file
          | _ => false)
        | _ => false) &&
      (match K.lookup cc with
        | some ⟨_, _, .cell (some (.ref D)), _⟩ => D == C
        | _ => false)
    | _, _, _ => false)
  | _ => false
/-- all that is asked of the class -/
def excB (P : Program) (K : PySem.W.Frag) : Bool := oexB K (He.ga K "SecretError") && initB P K (He.ga K "SecretError") (He.ma K (He.ga K "SecretError") "__init__") &&
  decide (PySem.W.findIn K (.ref (He.ga K "SecretError")) "__setattr__" = some (some (.builtin "object.__setattr__"))) && decide (PySem.W.subIn K (.ref (He.ga K "SecretError")) (.type "BaseException") = some true) && decide (PySem.W.typeIn K (.ref (He.ga K "SecretError")) = some (.type "type")) && PySem.W.keepIn K (.ref (He.ga K "SecretError")) &&
  decide (PySem.W.findIn K (.ref (He.ga K "SecretError")) "__init__" = some (some (.ref (He.ma K (He.ga K "SecretError") "__init__")))) && decide (PySem.W.typeIn K (.ref (He.ma K (He.ga K "SecretError") "__init__")) = some (.type "function")) &&
  decide (PySem.W.nsIn K mainGlobals "super" = some none) && !(P.main.scope.names.lookup ("super" : Str)).isSome && decide (PySem.W.mroIn K (He.ga K "SecretError") (.ref (He.ga K "SecretError")) = some true) && decide (PySem.W.subIn K (.ref (He.ga K "SecretError")) (.type "ValueError") = some true) &&
  decide (PySem.W.ks_superIn K (He.ga K "SecretError") (He.ga K "SecretError") "__init__" = some (some (.builtin "ValueError.__init__"))) && decide (PySem.W.findIn K (.ref (He.ga K "SecretError")) "code" = some none) && decide (PySem.W.nsIn K cStatics "thirdparty.any" = some none) &&
  decide (PySem.W.nsIn K mainGlobals "SecretError" = some (some (.ref (He.ga K "SecretError")))) && xfB K (He.ga K "SecretError") && decide (PySem.W.exmOne K (.ref (He.ga K "SecretError")) (.ref (He.ga K "SecretError")) = some true)
section
variable {P : Program} {w : World} {K : PySem.W.Frag} {mg : Str → Option Value} {base h : Heap}
theorem initB_ok {C fI : Addr} (hI : initB P K C fI = true) : ∃ fd, L2.Binds K fd ["self", "code"] [] ∧ (PySem.W.nsIn K mainGlobals "super" = some none → (P.main.scope.names.lookup ("super" : Str)).isSome = false → PySem.W.mroIn K C (.ref C) = some true → PySem.W.subIn K (.ref C) (.type "ValueError") = some true →
    PySem.W.ks_superIn K C C "__init__" = some (some (.builtin "ValueError.__init__")) → PySem.W.findIn K (.ref C) "code" = some none → PySem.W.nsIn K cStatics "thirdparty.any" = some none → InitF P K C fI fd) := by
  unfold initB at hI
  split at hI
  · rename_i oc od fd osl hl
    split at hI
    · rename_i body cn cc cda hb hc hcd
      simp only [Bool.and_eq_true, beq_iff_eq, decide_eq_true_eq] at hI
      obtain ⟨⟨⟨⟨⟨⟨⟨⟨⟨⟨h1, h2⟩, h3⟩, h4⟩, h5⟩, h6⟩, h7⟩, h8⟩, h9⟩, h10⟩, h11⟩ := hI
      subst h2
      obtain ⟨nm, qn, pr, bd, sc, gl, clo, df, kd, dc, pm, an, cd, ctp, bl⟩ := fd
      dsimp only at *
      subst h1; subst hb; subst hc; subst hcd; subst h3; subst h4; subst h8
      refine ⟨⟨"__init__", qn, pr, .stmts body, sc, mainGlobals, [("__class__", cc)], .none, kd, dc, pm, an, .ref cda, ctp, builtinsNs⟩, ?_, fun g1 g2 g3 g4 g5 g6 g7 => ⟨?_, g1, g2, g3, g4, g5, g6, g7⟩⟩
      · unfold parB at h6
        split at h6
        · rename_i a b
          simp only [Bool.and_eq_true, beq_iff_eq] at h6
          obtain ⟨q1, q2⟩ := h6
          refine .all fun us hl => ?_
          match us, hl with
          | [u, v], _ =>
            show _ = pure [(("self" : Str), u), (("code" : Str), v)]
            clear h10 h11 hl h5 h7 h9
            cases a
            cases b
            dsimp only at q1 q2
            subst q1
            subst q2
            kernel_rfl
        · cases h6
      · split at h10
        · rename_i ccl cdd vs ccs hlc
          split at h10
          · rename_i file tf hv
            split at h11
            · rename_i cl cld D csl hlcc
              have hD : D = C := by simpa using h11
              subst hD
              unfold parB at h6
              split at h6
              · rename_i a b
                simp only [Bool.and_eq_true, beq_iff_eq] at h6
                unfold scopeB at h7
                simp only [Bool.and_eq_true, decide_eq_true_eq, Bool.not_eq_true', List.all_eq_true, decide_eq_false_iff_not] at h7
                obtain ⟨⟨⟨⟨⟨⟨⟨s1, s2⟩, s3⟩, s4⟩, s5⟩, s6⟩, s7⟩, s8⟩ := h7
                exact ⟨qn, _, body, sc, _, _, _, _, _, cda, _, cc, oc, od, osl, vs, file, tf, ccl, cdd, ccs, cl, cld, csl, a, rfl, hl, h9, hlc, hv, h10, hlcc, rfl, h6.1, s1, s2, s3, s4, s5, s6, s7, s8, isInitBody_ok h5⟩
              · cases h6
            · cases h11
          · cases h10
        · cases h10
    · cases hI
  · cases hI
theorem excB_ok (c : excB P K = true) (X : K.In h) (G : h.Ns mainGlobals mg) : ExcF P w K mg base (He.ga K "SecretError") ∧ XfC K (He.ga K "SecretError") ∧ PySem.W.exmOne K (.ref (He.ga K "SecretError")) (.ref (He.ga K "SecretError")) = some true ∧ PySem.W.findIn K (.ref (He.ga K "SecretError")) "code" = some none := by
  unfold excB at c
  simp only [Bool.and_eq_true, decide_eq_true_eq, Bool.not_eq_true'] at c
  obtain ⟨⟨⟨⟨⟨⟨⟨⟨⟨⟨⟨⟨⟨⟨⟨⟨⟨c1, c2⟩, c3⟩, c4⟩, c5⟩, c6⟩, c7⟩, c8⟩, c9⟩, c10⟩, c11⟩, c12⟩, c13⟩, c14⟩, c15⟩, c16⟩, c17⟩, c18⟩ := c
  obtain ⟨fd, b1, b2⟩ := initB_ok c2
  have T : OexC K (He.ga K "SecretError") := ⟨oexB_ok c1, c3, c4, c5, c6⟩
  exact ⟨⟨T, PySem.W.mg_of X G c16, _, fd, ["self", "code"], c7, c8, init_ok (b2 c9 c10 c11 c12 c13 c14 c15) T (PySem.W.mg_none_of X G c9) 2, b1⟩, xfB_ok c17, c18, c14⟩
/-- try: return a() / except SecretError as n: return n.code -/
def isTold : List Stmt → Option (Str × Str)
  | [.Try [.Return (some (.Call (.Name a _) [] [] _)) _] [.ExceptHandler (some (.Name e _)) (some n) [.Return (some (.Attribute (.Name n' _) c _)) _] _] [] [] _] => if e == ("SecretError" : Str) && n' == n && c == ("code" : Str) then some (a, n) else none
  | _ => none
theorem told_ok (w : World) (base : Heap) {params : Arguments} {body : List Stmt} {scope : Scope} {fd : FuncData} {a n : Str} (F : FunD K "_law_told" "_law_told" params body scope [] [] (He.ga K "_law_told") fd) (hm : mg "_law_told" = some (.ref (He.ga K "_law_told"))) (c : excB P K = true) (X : K.In h) (G : h.Ns mainGlobals mg) (ht : isTold body = some (a, n))
    (S : FnScope [a, n] [a] scope) (hb : L2.Binds K fd [a] []) (hln : scope.names.lookup n = some .local) (hva : Vis scope a) (hge : scope.names.lookup ("SecretError" : Str) = some .globalImplicit) (h1 : (a == ("__debug__" : Str)) = false) (h2 : (a == ("__classdict__" : Str)) = false) (h3 : (n == ("__debug__" : Str)) = false) (h4 : (n == ("__classdict__" : Str)) = false) :
    ToldF K mg (He.ga K "SecretError") := by
  obtain ⟨E, xf, xm, no⟩ := excB_ok (w := w) (base := base) c X G
  obtain ⟨oc, od, dV, kV, doc, pm, an, cdv, ct, osl, rfl, lk, hcd, _, _⟩ := F.ex
  unfold isTold at ht
  split at ht
  · split at ht
    · rename_i hc
      simp only [Bool.and_eq_true, beq_iff_eq] at hc
      obtain ⟨⟨rfl, rfl⟩, rfl⟩ := hc
      cases ht
      refine ⟨_, params, _, scope, dV, kV, doc, pm, cdv, ct, oc, an, od, osl, [a, _], a, hm, F.kp, lk, hcd, hb, S, rfl, hva, h1, h2, fun X e1 e2 q => ?_⟩
      subst e1; subst e2
      exact told_gives2 (i := 1) hge E.emg (by decide +kernel) (fun f => rfl) S.nd rfl hln h3 h4 xm xf no
    · cases ht
  · cases ht
end
end L2.DL

set_option Elab.async false
set_option linter.all false
set_option maxRecDepth 100000
set_option maxHeartbeats 4000000
/-! D layer 25: the end, with tables. -/
namespace L2.DL
open PySem PySem.Spec PyProof.Rows

def exB (P : Program) (tfs : List Str) (exc : Bool) (K : PySem.W.Frag) : Bool := (!exc || excB P K) && decide ((tfs.map fun x => (He.cT K (x, none)).2).Nodup)
theorem exB_exc {P : Program} {tfs : List Str} {K : PySem.W.Frag} (h : exB P tfs true K = true) : excB P K = true := by
  unfold exB at h
  simpa using (Bool.and_eq_true_iff.mp h).1
theorem exB_nd {P : Program} {tfs : List Str} {e : Bool} {K : PySem.W.Frag} (h : exB P tfs e K = true) : (tfs.map fun x => (He.cT K (x, none)).2).Nodup := by
  unfold exB at h
  simpa using (Bool.and_eq_true_iff.mp h).2
theorem nodup_inj {α β : Type} {f : α → β} : ∀ {l : List α} {a b : α}, (l.map f).Nodup → a ∈ l → b ∈ l → f a = f b → a = b
  | x :: l, a, b, h, ha, hb, e => by
    rw [List.map_cons, List.nodup_cons] at h
    rcases List.mem_cons.mp ha with e1 | ha2
    · rcases List.mem_cons.mp hb with e2 | hb2
      · rw [e1, e2]
      · exact (h.1 (by rw [← e1, e]; exact List.mem_map.mpr ⟨b, hb2, rfl⟩)).elim
    · rcases List.mem_cons.mp hb with e2 | hb2
      · exact (h.1 (by rw [← e2, ← e]; exact List.mem_map.mpr ⟨a, ha2, rfl⟩)).elim
      · exact nodup_inj h.2 ha2 hb2 e
/-- the tables as the walk has them -/
@[reducible] def tabL (K : PySem.W.Frag) (tfs : List Str) (P : Program) (w : World) : TabL := ⟨tfs.map fun x => ((He.cT K (x, none)).2, lamQ x), some (P, w)⟩
theorem lawAt_of {l : PySem.W.OpenLaw} {w : World} {K : PySem.W.Frag} {mg : Str → Option Value} {fa : Addr} {h : Heap} {n k : Nat} {x : Str} {tfs : List Str} {fd : FuncData} (KX : K.In h) (hT : ∀ y ∈ tfs, h.get? (He.cT K (y, none)).2 = some { cls := .none, data := .fields #[] }) (hout : ∀ y ∈ tfs, K.lookup (He.cT K (y, none)).2 = none)
    (hhd : ∀ y ∈ tfs, PySem.W.codeHdIn K (He.cT K (y, none)).1 (He.cT K (y, none)).2 = true) (hb : ∀ (s : Shared) (u : Value), BindsTo s fd ⟨[u], []⟩ [(x, u)])
    (hF : ∀ base : Heap, K.In base → base.Ns mainGlobals mg → (∀ y ∈ tfs, LamX.TabB base mg (He.cT K (y, none)).1 (He.cT K (y, none)).2) → @FnOk l.prog w K mg base (L2.CX l.prog w) k fa fd [x] (@spLaw (tabL K tfs l.prog w) K n)) :
    LamX.LawAtS l w K (L2.CX l.prog w) k n x mg fa h := by
  refine ⟨fd, tfs.map fun y => He.cT K (y, none), @spLaw (tabL K tfs l.prog w) K n, fun p hp => ?_, fun p hp => ?_, fun p hp => ?_, hb, fun H a ns hl _ ht hS => ?_, fun base h1 h2 h3 => hF base h1 h2 fun y hy => h3 _ (List.mem_map.mpr ⟨y, hy, rfl⟩)⟩
  · obtain ⟨y, hy, rfl⟩ := List.mem_map.mp hp
    exact hT y hy
  · obtain ⟨y, hy, rfl⟩ := List.mem_map.mp hp
    exact hout y hy
  · obtain ⟨y, hy, rfl⟩ := List.mem_map.mp hp
    exact PySem.W.codeHd_of_K KX (hhd y hy)
  · refine ⟨a, ns, rfl, hl, hS, fun p hp => ?_, fun _ => rfl⟩
    obtain ⟨y, hy, rfl⟩ := List.mem_map.mp hp
    exact LamX.TabS.nil (ht _ (List.mem_map.mpr ⟨y, hy, rfl⟩))
end L2.DL

/-! ### a look at the heap that follows closures -/
namespace L2.DL
open PySem PySem.Spec PyProof.Rows
def cellsOf (g : Addr → Option Obj) (as : List Addr) : List Addr := as.flatMap fun a => match g a with
  | some o => (match o.data with
    | .func fd => fd.closure.map (·.2)
    | _ => [])
  | none => []
def asY (g : Addr → Option Obj) (n : Nat) : List Addr := He.asD g n ++ (cStatics :: cellsOf g (He.asD g n))
def frY (g : Addr → Option Obj) (n : Nat) : PySem.W.Frag := He.frT g (asY g n)
def obsY (n : Nat) (fa : List He.Fa) (fn : List He.DefD) (tf : List He.Defn) (ex : PySem.W.Frag → Bool) (g : Addr → Option Obj) : He.AlX := (He.obsT fa fn [] (frY g n), ex (frY g n) && He.tabsB g tf (frY g n))
theorem saysY {n : Nat} {fa : List He.Fa} {fn : List He.DefD} {tf : List He.Defn} {ex : PySem.W.Frag → Bool} {w : World} {h : Heap} (e : obsY n fa fn tf ex h.get? = He.valX fn [] w) : He.SaysX fa fn [] tf ex w h (frY h.get? n) := by
  have ⟨e1, e2⟩ := Prod.mk.inj e
  obtain ⟨h1, h2⟩ := Bool.and_eq_true_iff.mp e2
  have tab : ∀ p ∈ tf, PySem.W.codeHdIn (frY h.get? n) (He.cT (frY h.get? n) p).1 (He.cT (frY h.get? n) p).2 = true ∧ ∃ o, h.get? (He.cT (frY h.get? n) p).2 = some o ∧ He.emptyTab o = true := fun p hp => by
    obtain ⟨a, b⟩ := Bool.and_eq_true_iff.mp (List.all_eq_true.mp h2 p hp)
    refine ⟨a, ?_⟩
    split at b
    · rename_i o ho; exact ⟨o, ho, b⟩
    · cases b
  refine ⟨e1, h1, fun p hp => (tab p hp).1, fun p hp => ?_, fun p hp => ?_⟩
  · obtain ⟨_, o, ho, z⟩ := tab p hp
    exact He.frT_none ho z
  · obtain ⟨_, o, ho, z⟩ := tab p hp
    rw [ho, He.emptyTab_eq z]
def hookY (n : Nat) (fa : List He.Fa) (fn : List He.DefD) (tf : List He.Defn) (ex : PySem.W.Frag → Bool) : PySem.W.Hook where
  α := He.AlX
  obs := fun s => obsY n fa fn tf ex s.heap.get?
  val := fun w => He.valX fn [] w
  says := fun w h => ∃ K : PySem.W.Frag, K.In h ∧ He.SaysX fa fn [] tf ex w h K
  of := fun _ _ e => ⟨_, He.frT_in, saysY e⟩
  keeps := fun _ _ _ ⟨K, hK, c⟩ k => ⟨K, PySem.W.Frag.In.keeps hK k, ⟨c.t, c.more, c.hd, c.out, fun p hp => k _ _ (c.empty p hp)⟩⟩
theorem obsY_eq {n : Nat} {fa : List He.Fa} {fn : List He.DefD} {tf : List He.Defn} {ex : PySem.W.Frag → Bool} {g : Addr → Option Obj} {s : Shared} (h : ∀ a, g a = s.heap.get? a) : obsY n fa fn tf ex g = (hookY n fa fn tf ex).obs s := by
  rw [funext h]
  rfl
/-! ### constants of the module: ints, tuples of them -/
mutual
/-- the value that reads as plain data -/
def litV (K : PySem.W.Frag) : Nat → D → Value → Option V
  | _, .int i, .int j _ => if i = j then some (.int i) else none
  | _, .str i, .str j _ => if i = j then some (.str i) else none
  | _, .bool i, .bool j => if i = j then some (.bl i) else none
  | n + 1, .tuple ds, .ref a => match K.lookup a with
    | some o => match o.data with
      | .seq its _ => if o.cls = .type "tuple" ∧ its.size ≤ 1000 then (litVs K n ds its.toList).map fun _ => .ref a else none
      | _ => none
    | none => none
  | _, _, _ => none
def litVs (K : PySem.W.Frag) : Nat → List D → List Value → Option (List V)
  | _, [], [] => some []
  | n + 1, d :: ds, v :: vs => (litV K n d v).bind fun x => (litVs K n ds vs).map fun xs => x :: xs
  | _, _, _ => none
end
theorem lit_ok {K : PySem.W.Frag} : ∀ n : Nat, (∀ (d : D) (v : Value) (x : V), litV K n d v = some x → RelV x v ∧ ∀ H, Dv K H x d) ∧ ∀ (ds : List D) (vs : List Value) (xs : List V), litVs K n ds vs = some xs → Vals xs vs ∧ ∀ H, DvAll K H xs ds := by
  intro n
  induction n with
  | zero =>
    constructor
    · intro d v x h
      unfold litV at h
      split at h
      · split at h
        · rename_i e; cases h; subst e; exact ⟨⟨_, rfl⟩, fun _ => .int _⟩
        · cases h
      · split at h
        · rename_i e; cases h; subst e; exact ⟨⟨_, rfl⟩, fun _ => .str _⟩
        · cases h
      · split at h
        · rename_i e; cases h; subst e; exact ⟨rfl, fun _ => .bl _⟩
        · cases h
      · omega
      · cases h
    · intro ds vs xs h
      unfold litVs at h
      split at h
      · cases h; exact ⟨.nil, fun _ => .nil⟩
      · omega
      · cases h
  | succ n ih =>
    obtain ⟨ih1, ih2⟩ := ih
    constructor
    · intro d v x h
      unfold litV at h
      split at h
      · split at h
        · rename_i e; cases h; subst e; exact ⟨⟨_, rfl⟩, fun _ => .int _⟩
        · cases h
      · split at h
        · rename_i e; cases h; subst e; exact ⟨⟨_, rfl⟩, fun _ => .str _⟩
        · cases h
      · split at h
        · rename_i e; cases h; subst e; exact ⟨rfl, fun _ => .bl _⟩
        · cases h
      · rename_i m ds a hm
        cases hm
        split at h
        · rename_i o ho
          split at h
          · rename_i its c hd
            split at h
            · rename_i hc
              cases hx : litVs K n ds its.toList with
              | none => rw [hx] at h; cases h
              | some xs =>
                rw [hx] at h
                cases h
                obtain ⟨h1, h2⟩ := ih2 ds its.toList xs hx
                exact ⟨rfl, fun H => .tup (.inr ⟨o, its, c, ho, hc.1, hd, by rw [sizeLine_eq]; have := hc.2; omega, h1⟩) (h2 H)⟩
            · cases h
          · cases h
        · cases h
      · cases h
    · intro ds vs xs h
      unfold litVs at h
      split at h
      · cases h; exact ⟨.nil, fun _ => .nil⟩
      · rename_i m d ds v vs hm
        cases hm
        cases hx : litV K n d v with
        | none => rw [hx] at h; cases h
        | some x =>
          rw [hx] at h
          cases hy : litVs K n ds vs with
          | none => rw [hy] at h; cases h
          | some ys =>
            rw [hy] at h
            cases h
            obtain ⟨h1, h2⟩ := ih1 d v x hx
            obtain ⟨h3, h4⟩ := ih2 ds vs ys hy
            exact ⟨.cons h1 h3, fun H => .cons (h2 H) (h4 H)⟩
      · cases h
/-- the module's constants are so -/
def cstB (K : PySem.W.Frag) : List (Str × D) → Bool
  | [] => true
  | p :: ps => (match PySem.W.nsIn K mainGlobals p.1 with
    | some (some v) => (litV K 40 p.2 v).isSome
    | _ => false) && cstB K ps
theorem cstB_ok {K : PySem.W.Frag} {h : Heap} {mg : Str → Option Value} (X : K.In h) (G : h.Ns mainGlobals mg) : ∀ {l : List (Str × D)}, cstB K l = true → AllF (HC K mg) l
  | [], _ => trivial
  | p :: ps, e => by
    unfold cstB at e
    rw [Bool.and_eq_true] at e
    refine ⟨?_, cstB_ok X G e.2⟩
    have e1 := e.1
    split at e1
    · rename_i v hv
      cases hx : litV K 40 p.2 v with
      | none => rw [hx] at e1; cases e1
      | some x =>
        obtain ⟨h1, h2⟩ := (lit_ok 40).1 p.2 v x hx
        exact ⟨v, x, PySem.W.mg_of X G hv, h1, h2⟩
    · cases e1
end L2.DL

set_option Elab.async false
set_option linter.all false
set_option maxRecDepth 100000
set_option maxHeartbeats 4000000
/-! D layer 26: the draws, in plain terms. -/
namespace L2.DL
open PySem PySem.Spec PyProof.Rows
variable [TabL]
abbrev kI (n : Int) : IX := .c (.int n)
def irTake : IS := IS.seq (IS.ite (IX.tif (IX.tev (IX.b2 (O2.eq) (IX.dr 0 2) (kI 0))) (IX.tev (IX.b2 (O2.lt) (IX.dr 0 1) (IX.bi (Bi.len) (IX.cons (IX.dr 0 0) (IX.nil))))) (IX.ff)) (IS.seq (IS.drSet 0 2 (IX.bi (Bi.abs) (IX.cons (IX.bi (Bi.int) (IX.cons (IX.ix (IX.dr 0 0) (IX.dr 0 1)) (IX.nil))) (IX.nil)))) (IS.seq (IS.drSet 0 1 (IX.b2 (O2.add) (IX.dr 0 1) (kI 1))) (IS.ite (IX.tev (IX.b2 (O2.lt) (IX.dr 0 2) (IX.b2 (O2.pow) (kI 10) (kI 18)))) (IS.seq (IS.asg (Tg.nm 3) (IX.bi (Bi.int) (IX.cons (IX.dr 0 2) (IX.nil)))) (IS.seq (IS.drSet 0 2 (kI 0)) (IS.ret (IX.b2 (O2.mod) (IX.pk 3) (IX.pk 1))))) (IS.skip)))) (IS.skip)) (IS.seq (IS.ite (IX.tev (IX.b2 (O2.gt) (IX.dr 0 2) (kI 0))) (IS.seq (IS.asg (Tg.nm 2) (IX.b2 (O2.mod) (IX.bi (Bi.int) (IX.cons (IX.dr 0 2) (IX.nil))) (IX.pk 1))) (IS.seq (IS.drSet 0 2 (IX.b2 (O2.div) (IX.bi (Bi.int) (IX.cons (IX.dr 0 2) (IX.nil))) (IX.pk 1))) (IS.ret (IX.var 2)))) (IS.skip)) (IS.seq (IS.drSet 0 3 (IX.b2 (O2.mod) (IX.bi (Bi.int) (IX.cons (IX.b2 (O2.add) (IX.b2 (O2.mul) (IX.dr 0 3) (kI 48271)) (kI 11)) (IX.nil))) (kI 2147483647))) (IS.ret (IX.b2 (O2.mod) (IX.bi (Bi.int) (IX.cons (IX.b2 (O2.div) (IX.dr 0 3) (kI 3)) (IX.nil))) (IX.pk 1)))))
/-- the draws stand well -/
structure DrOk (s : Dr) : Prop where
  scr : s.scr.length ≤ 64
  pos : 0 ≤ s.pos
  cur : 0 ≤ s.cur
  seed : 0 ≤ s.seed
  seed2 : s.seed < 2147483647
abbrev st0 : Sf → Fn := fun f args s => f (fun _ s => .ok (.none, s)) (fun _ _ => .stuck) (fun _ _ => .stuck) args s
def Took (m : Int) (r : R (D × Dr)) : Prop := ∃ (t : Int) (s' : Dr), r = .ok (.int t, s') ∧ 0 ≤ t ∧ t < m ∧ DrOk s'
theorem Took.of {m : Int} {x y : R (D × Dr)} (e : x = y) (h : Took m y) : Took m x := e ▸ h
/-- the third part: the seed goes on -/
theorem take3 (F : Nat → Fn) {m : Int} (hm : 0 < m) {s : Dr} (hs : DrOk s) (k kb kc : En → Dr → R (D × Dr)) : 
    Took m (evS' F (IS.seq (IS.drSet 0 3 (IX.b2 (O2.mod) (IX.bi (Bi.int) (IX.cons (IX.b2 (O2.add) (IX.b2 (O2.mul) (IX.dr 0 3) (kI 48271)) (kI 11)) (IX.nil))) (kI 2147483647))) (IS.ret (IX.b2 (O2.mod) (IX.bi (Bi.int) (IX.cons (IX.b2 (O2.div) (IX.dr 0 3) (kI 3)) (IX.nil))) (IX.pk 1)))) k kb kc [.drw, .val (.int m), .no, .no] s) := by
  have hmul : mulB s.seed 48271 = true := by
    unfold mulB
    have h1 : s.seed.natAbs < 2 ^ 31 := by have := hs.seed; have := hs.seed2; omega
    have h2 : s.seed.natAbs.log2 < 31 := by
      by_cases h0 : s.seed.natAbs = 0
      · rw [h0]; decide
      · exact (Nat.log2_lt h0).mpr h1
    have h3 : (48271 : Int).natAbs.log2 = 15 := by decide
    rw [Nat.ble_eq, h3]; omega
  have hd3 : divB 3 = true := by decide
  have hk := hs.seed
  have hpos : 0 ≤ (s.seed * 48271 + 11) % 2147483647 := Int.emod_nonneg _ (by decide)
  have hlt : (s.seed * 48271 + 11) % 2147483647 < 2147483647 := Int.emod_lt_of_pos _ (by decide)
  refine ⟨(s.seed * 48271 + 11) % 2147483647 / 3 % m, { s with seed := (s.seed * 48271 + 11) % 2147483647 }, ?_, Int.emod_nonneg _ (by omega), Int.emod_lt_of_pos _ hm, ⟨hs.scr, hs.pos, hs.cur, hpos, hlt⟩⟩
  simp [evS', sSeq, sDrSet, evE, evA, evDr, onDrw, ev2, evB1, evCons, evNil, evC, evPk, O2.g, Bi.g, gMul, gAdd, gMod, gDiv, gInt, Dr.get, Dr.put, R.bind, R.ofO, hmul, hd3, hpos, hm, sRet, frzE, frz1, kI]
/-- the second part: what is left of a number -/
theorem take2 (F : Nat → Fn) {m : Int} (hm : 0 < m) (hb : divB m = true) {s : Dr} (hs : DrOk s) (rest : IS) (hr : ∀ k kb kc, Took m (evS' F rest k kb kc [.drw, .val (.int m), .no, .no] s)) (k kb kc : En → Dr → R (D × Dr)) :
    Took m (evS' F (IS.seq (IS.ite (IX.tev (IX.b2 (O2.gt) (IX.dr 0 2) (kI 0))) (IS.seq (IS.asg (Tg.nm 2) (IX.b2 (O2.mod) (IX.bi (Bi.int) (IX.cons (IX.dr 0 2) (IX.nil))) (IX.pk 1))) (IS.seq (IS.drSet 0 2 (IX.b2 (O2.div) (IX.bi (Bi.int) (IX.cons (IX.dr 0 2) (IX.nil))) (IX.pk 1))) (IS.ret (IX.var 2)))) (IS.skip)) rest) k kb kc [.drw, .val (.int m), .no, .no] s) := by
  have hc := hs.cur
  by_cases h0 : 0 < s.cur
  · have hq : 0 ≤ s.cur / m := Int.ediv_nonneg hc (by omega)
    refine ⟨s.cur % m, { s with cur := s.cur / m }, ?_, Int.emod_nonneg _ (by omega), Int.emod_lt_of_pos _ hm, ⟨hs.scr, hs.pos, hq, hs.seed, hs.seed2⟩⟩
    simp [evS', sSeq, sIf, sAsg, sDrSet, evT, evE, evA, evB, evDr, evVar, onDrw, ev2, evB1, evCons, evNil, evC, evPk, O2.g, Bi.g, gI, gMod, gDiv, gInt, Dr.get, Dr.put, R.bind, R.ofO, hb, hm, h0, hq, sRet, frzE, frz1, kI, bindT, setE]
  · have e : evS' F (IS.seq (IS.ite (IX.tev (IX.b2 (O2.gt) (IX.dr 0 2) (kI 0))) (IS.seq (IS.asg (Tg.nm 2) (IX.b2 (O2.mod) (IX.bi (Bi.int) (IX.cons (IX.dr 0 2) (IX.nil))) (IX.pk 1))) (IS.seq (IS.drSet 0 2 (IX.b2 (O2.div) (IX.bi (Bi.int) (IX.cons (IX.dr 0 2) (IX.nil))) (IX.pk 1))) (IS.ret (IX.var 2)))) (IS.skip)) rest) k kb kc [.drw, .val (.int m), .no, .no] s = evS' F rest k kb kc [.drw, .val (.int m), .no, .no] s := by
      simp [evS', sSeq, sIf, sSkip, evT, evE, evB, evDr, onDrw, ev2, evC, O2.g, gI, Dr.get, R.bind, R.ofO, h0, kI]
    rw [e]
    exact hr k kb kc
def irTake1 : IS := IS.ite (IX.tif (IX.tev (IX.b2 (O2.eq) (IX.dr 0 2) (kI 0))) (IX.tev (IX.b2 (O2.lt) (IX.dr 0 1) (IX.bi (Bi.len) (IX.cons (IX.dr 0 0) (IX.nil))))) (IX.ff)) (IS.seq (IS.drSet 0 2 (IX.bi (Bi.abs) (IX.cons (IX.bi (Bi.int) (IX.cons (IX.ix (IX.dr 0 0) (IX.dr 0 1)) (IX.nil))) (IX.nil)))) (IS.seq (IS.drSet 0 1 (IX.b2 (O2.add) (IX.dr 0 1) (kI 1))) (IS.ite (IX.tev (IX.b2 (O2.lt) (IX.dr 0 2) (IX.b2 (O2.pow) (kI 10) (kI 18)))) (IS.seq (IS.asg (Tg.nm 3) (IX.bi (Bi.int) (IX.cons (IX.dr 0 2) (IX.nil)))) (IS.seq (IS.drSet 0 2 (kI 0)) (IS.ret (IX.b2 (O2.mod) (IX.pk 3) (IX.pk 1))))) (IS.skip)))) (IS.skip)
theorem take1 (F : Nat → Fn) {m : Int} (hm : 0 < m) {s : Dr} (hs : DrOk s) (kk kb kc : En → Dr → R (D × Dr)) (hk : ∀ s, DrOk s → Took m (kk [.drw, .val (.int m), .no, .no] s)) : Took m (evS' F irTake1 kk kb kc [.drw, .val (.int m), .no, .no] s) := by
  unfold irTake1
  by_cases h0 : s.cur = 0
  · by_cases h1 : s.pos < s.scr.length
    · have hp := hs.pos
      obtain ⟨n, hn⟩ : ∃ n, s.scr[s.pos.toNat]? = some n := ⟨_, List.getElem?_eq_getElem (by omega)⟩
      have hn2 := (List.getElem?_eq_some_iff.mp hn).2
      have hat : L2.atI (s.scr.map PyData.int) s.pos = some (.int n) := by
        unfold L2.atI L2.ixN
        simp [hn, hn2, hp, h1]
      have ha : 0 ≤ (if n < 0 then -n else n) := by split <;> omega
      have hp1 : 0 ≤ s.pos + 1 := by omega
      obtain ⟨c, hc⟩ : ∃ c, c = (if n < 0 then -n else n) := ⟨_, rfl⟩
      rw [← hc] at ha
      by_cases h3 : c < 1000000000000000000
      · refine ⟨c % m, { s with cur := 0, pos := s.pos + 1 }, ?_, Int.emod_nonneg _ (by omega), Int.emod_lt_of_pos _ hm, ⟨hs.scr, hp1, Int.le_refl 0, hs.seed, hs.seed2⟩⟩
        simp [evS', sSeq, sIf, sAsg, sDrSet, evT, evIf, evE, evA, evB, evDr, evVar, onDrw, ev2, evB1, evCons, evNil, evC, evPk, O2.g, Bi.g, gI, gEq, dep, PyData.eqv, gLen, gIx, gAbs, gAdd, gPow, gMod, gDiv, gInt, Dr.get, Dr.put, R.bind, R.ofO, hm, h0, h1, hat, ← hc, ha, hp1, h3, sRet, frzE, frz1, kI, bindT, setE]
      · refine Took.of (y := kk [.drw, .val (.int m), .no, .no] { s with cur := c, pos := s.pos + 1 }) ?_ (hk _ ⟨hs.scr, hp1, ha, hs.seed, hs.seed2⟩)
        simp [evS', sSeq, sIf, sSkip, sAsg, sDrSet, evT, evIf, evE, evA, evB, evDr, evVar, onDrw, ev2, evB1, evCons, evNil, evC, evPk, O2.g, Bi.g, gI, gEq, dep, PyData.eqv, gLen, gIx, gAbs, gAdd, gPow, gMod, gDiv, gInt, Dr.get, Dr.put, R.bind, R.ofO, hm, h0, h1, hat, ← hc, ha, hp1, h3, sRet, frzE, frz1, kI, bindT, setE]
    · refine Took.of (y := kk [.drw, .val (.int m), .no, .no] s) ?_ (hk _ hs)
      simp [evS', sSeq, sIf, sSkip, evT, evIf, evE, evA, evB, evDr, onDrw, ev2, evB1, evCons, evNil, evC, O2.g, Bi.g, gI, gEq, dep, PyData.eqv, gLen, Dr.get, R.bind, R.ofO, h0, h1, kI]
  · refine Took.of (y := kk [.drw, .val (.int m), .no, .no] s) ?_ (hk _ hs)
    simp [evS', sSeq, sIf, sSkip, evT, evIf, evE, evA, evB, evFF, evDr, onDrw, ev2, evB1, evCons, evNil, evC, O2.g, Bi.g, gI, gEq, dep, PyData.eqv, gLen, Dr.get, R.bind, R.ofO, h0, kI]
/-- one draw -/
theorem take_ok (F : Nat → Fn) {d : DefI} {m : Int} (h1 : d.ir = irTake) (h2 : d.c.N.length = 4) (hm : 0 < m) (hb : divB m = true) {s : Dr} (hs : DrOk s) : Took m (run1 F d [.drw, .val (.int m)] s) := by
  unfold run1 startE
  rw [h1, h2]
  exact take1 F hm hs _ _ _ fun s hs => take2 F hm hb hs _ (fun k kb kc => take3 F hm hs k kb kc) _ _ _
end L2.DL

set_option Elab.async false
set_option linter.all false
set_option maxRecDepth 100000
set_option maxHeartbeats 4000000
set_option exponentiation.threshold 100000
/-! D layer 27: how the draws begin, in plain terms. -/
namespace L2.DL
open PySem PySem.Spec PyProof.Rows
variable [TabL]
def irBegin : IS := IS.seq (IS.asg (Tg.nm 1) (kI 1)) (IS.seq (IS.forS [] (IX.scI 0) (Tg.nm 2) (IS.asg (Tg.nm 1) (IX.b2 (O2.mod) (IX.b2 (O2.add) (IX.b2 (O2.add) (IX.b2 (O2.mul) (IX.pk 1) (kI 69621)) (IX.b2 (O2.mod) (IX.bi (Bi.int) (IX.cons (IX.pk 2) (IX.nil))) (kI 2147483629))) (kI 7)) (kI 2147483647)))) (IS.ret (IX.lst (IX.cons (IX.scL 0) (IX.cons (kI 0) (IX.cons (kI 0) (IX.cons (IX.var 1) (IX.nil))))))))
def seedF : List Int → Int → Int
  | [], c => c
  | n :: ns, c => seedF ns ((c * 69621 + n % 2147483629 + 7) % 2147483647)
theorem seedF_ok : ∀ (ns : List Int) {c : Int}, 0 ≤ c → c < 2147483647 → 0 ≤ seedF ns c ∧ seedF ns c < 2147483647
  | [], _, h, h2 => ⟨h, h2⟩
  | _ :: ns, _, _, _ => seedF_ok ns (Int.emod_nonneg _ (by decide)) (Int.emod_lt_of_pos _ (by decide))
theorem mulB_small {i j : Int} (h : i.natAbs < 2 ^ 1000) (h2 : j.natAbs < 2 ^ 1000) : mulB i j = true := by
  have lg : ∀ n : Nat, n < 2 ^ 1000 → n.log2 < 1000 := fun n h => by
    by_cases h0 : n = 0
    · rw [h0]; decide
    · exact (Nat.log2_lt h0).mpr h
  unfold mulB
  have := lg _ h
  have := lg _ h2
  rw [Nat.ble_eq]; omega
theorem mulB_i {i j : Int} (h : 0 ≤ i) (h2 : i < 2147483648) (h3 : 0 ≤ j) (h4 : j < 2147483648) : mulB i j = true := by
  have e : 2147483648 ≤ 2 ^ 1000 := by
    have : (2147483648 : Nat) = 2 ^ 31 := by decide
    rw [this]
    exact Nat.pow_le_pow_right (by decide) (by decide)
  exact mulB_small (Nat.lt_of_lt_of_le (by omega) e) (Nat.lt_of_lt_of_le (by omega) e)
theorem begin_for (F : Nat → Fn) (ms : List Int) (k kb kc : En → Dr → R (D × Dr)) : ∀ (ns : List Int) (c : Int) (x : Sl) (s : Dr), 0 ≤ c → c < 2147483647 → (∀ l xs, x ≠ .lst l xs) → ∃ y,
    forL (Tg.nm 2) (evS' F (IS.asg (Tg.nm 1) (IX.b2 (O2.mod) (IX.b2 (O2.add) (IX.b2 (O2.add) (IX.b2 (O2.mul) (IX.pk 1) (kI 69621)) (IX.b2 (O2.mod) (IX.bi (Bi.int) (IX.cons (IX.pk 2) (IX.nil))) (kI 2147483629))) (kI 7)) (kI 2147483647)))) [] k (ns.map .int) [.scr ms, .val (.int c), x] s = k [.scr ms, .val (.int (seedF ns c)), y] s
  | [], c, x, s, h, h2, hx => ⟨x, by simp [forL, lockE, seedF]⟩
  | n :: ns, c, x, s, h, h2, hx => by
    obtain ⟨y, e⟩ := begin_for F ms k kb kc ns ((c * 69621 + n % 2147483629 + 7) % 2147483647) (.val (.int n)) s (Int.emod_nonneg _ (by decide)) (Int.emod_lt_of_pos _ (by decide)) (fun _ _ => nofun)
    refine ⟨y, ?_⟩
    have hm : mulB c 69621 = true := mulB_i h (by omega) (by decide) (by decide)
    rw [seedF, ← e]
    have hs : bindT (.nm 2) (.int n) [Sl.scr ms, .val (.int c), x] = some [Sl.scr ms, .val (.int c), .val (.int n)] := by
      cases x with
      | lst l xs => exact (hx l xs rfl).elim
      | _ => rfl
    have hs1 : ∀ v, bindT (.nm 1) v [Sl.scr ms, .val (.int c), .val (.int n)] = some [Sl.scr ms, .val v, .val (.int n)] := fun _ => rfl
    simp [forL, evS', sAsg, evE, evA, evPk, ev2, evB1, evCons, evNil, evC, O2.g, Bi.g, gMul, gAdd, gMod, gInt, R.bind, R.ofO, hm, kI, hs, hs1]
theorem ev_for {F : Nat → Fn} {vs : List Nat} {it : IX} {t : Tg} {a b : IS} {k kb kc : Kn} {env : En} {s : Dr} : evS' F (IS.seq (IS.forS vs it t a) b) k kb kc env s = (evI F it env s).bind fun p => forL t (evS' F a) (openIn vs env) (evS' F b k kb kc) p.1 (lockE true (openIn vs env) env) p.2 := rfl
theorem R.ok_bind {α β : Type} {a : α} {f : α → R β} : (R.ok a).bind f = f a := rfl
theorem begin_ok (F : Nat → Fn) {d : DefI} (h1 : d.ir = irBegin) (h2 : d.c.N.length = 3) (ns : List Int) (hl : ns.length ≤ 64) (s : Dr) : run1 F d [.scr ns] s = .ok (.list [.list (ns.map .int), .int 0, .int 0, .int (seedF ns 1)], s) := by
  unfold run1 startE
  rw [h1, h2]
  unfold irBegin
  obtain ⟨y, e⟩ := begin_for F ns (evS' F (IS.ret (IX.lst (IX.cons (IX.scL 0) (IX.cons (kI 0) (IX.cons (kI 0) (IX.cons (IX.var 1) (IX.nil))))))) (fun _ s => .ok (.none, s)) (fun _ _ => .stuck) (fun _ _ => .stuck)) (fun _ _ => .stuck) (fun _ _ => .stuck) ns 1 .no s (by decide) (by decide) (fun _ _ => nofun)
  have hf : fitB ns.length = true := by
    unfold fitB
    rw [Nat.ble_eq]; omega
  have e2 : ∀ k kb kc, evS' F (IS.seq (IS.asg (Tg.nm 1) (kI 1)) k) (fun _ s => .ok (.none, s)) kb kc ([Sl.scr ns] ++ List.replicate (3 - [Sl.scr ns].length) .no) s = evS' F k (fun _ s => .ok (.none, s)) kb kc [Sl.scr ns, .val (.int 1), .no] s := fun k kb kc => by
    simp [evS', sSeq, sAsg, evE, evC, bindT, setE, R.bind, R.ofO, List.replicate, kI]
  rw [e2]
  rw [ev_for]
  have e3 : evI F (IX.scI 0) [Sl.scr ns, .val (.int 1), .no] s = .ok (ns.map .int, s) := by
    simp [evI, evScI, onScr, hf]
  rw [e3]
  rw [R.ok_bind]
  have e4 : lockE true (openIn [] [Sl.scr ns, .val (.int 1), .no]) [Sl.scr ns, .val (.int 1), .no] = [Sl.scr ns, .val (.int 1), .no] := by
    simp [openIn, lockE]
  have e5 : openIn [] [Sl.scr ns, .val (.int 1), .no] = [] := by simp [openIn]
  rw [e4, e5, e]
  simp [evS', sRet, evE, evA, evLst, evCons, evNil, evScL, onScr, evC, evVar, frzE, frz1, R.bind, R.ofO, kI]
  decide
end L2.DL

set_option Elab.async false
set_option linter.all false
set_option maxRecDepth 100000
set_option maxHeartbeats 4000000
/-! D layer 28: comprehensions in plain terms. -/
namespace L2.DL
open PySem PySem.Spec PyProof.Rows
variable [TabL]
/-- a comprehension that draws nothing: a filter and a map -/
theorem lc_map {t : Tg} {own : List Nat} {ft : Ev Bool} {fe : Ev D} {env : En} {s : Dr} (q : D → Bool) (f : D → D) : ∀ {xs : List D}, (∀ x ∈ xs, ∃ env2, bindT t x (wipeE env own) = some env2 ∧ ft env2 s = .ok (q x, s) ∧ (q x = true → fe env2 s = .ok (f x, s))) → lcLoop t own ft fe env xs s = .ok ((xs.filter q).map f, s)
  | [], _ => rfl
  | x :: xs, h => by
    obtain ⟨env2, h1, h2, h3⟩ := h x (List.mem_cons_self ..)
    have ih := lc_map q f (xs := xs) fun y hy => h y (List.mem_cons_of_mem _ hy)
    rw [lcLoop, h1]
    cases hq : q x with
    | false =>
      simp only [R.ofO, R.bind, h2, R.calm, hq, List.filter_cons, ih]
      rfl
    | true =>
      simp only [R.ofO, R.bind, h2, R.calm, hq, h3 hq, List.filter_cons, ih]
      rfl
/-- a comprehension of draws -/
theorem lc_draw {t : Tg} {own : List Nat} {ft : Ev Bool} {fe : Ev D} {env : En} (P : D → Prop) : ∀ {xs : List D} {s : Dr}, DrOk s → (∀ x ∈ xs, ∃ env2, bindT t x (wipeE env own) = some env2 ∧ ∀ s, DrOk s → ft env2 s = .ok (true, s) ∧ ∃ d s', fe env2 s = .ok (d, s') ∧ P d ∧ DrOk s') →
    ∃ ds s', lcLoop t own ft fe env xs s = .ok (ds, s') ∧ ds.length = xs.length ∧ (∀ d ∈ ds, P d) ∧ DrOk s'
  | [], s, hs, _ => ⟨[], s, rfl, rfl, (fun _ h => nomatch h), hs⟩
  | x :: xs, s, hs, h => by
    obtain ⟨env2, h1, h2⟩ := h x (List.mem_cons_self ..)
    obtain ⟨h3, d, s1, h4, h5, h6⟩ := h2 s hs
    obtain ⟨ds, s2, i1, i2, i3, i4⟩ := lc_draw P (xs := xs) h6 fun y hy => h y (List.mem_cons_of_mem _ hy)
    refine ⟨d :: ds, s2, ?_, by rw [List.length_cons, List.length_cons, i2], fun e he => ?_, i4⟩
    · rw [lcLoop, h1]
      simp only [R.ofO, R.bind, h3, R.calm, h4, i1, if_true]
    · rcases List.mem_cons.mp he with rfl | he
      · exact h5
      · exact i3 _ he
/-- a for that never leaves, drawing nothing: an invariant on the slots -/
theorem forL_inv {t : Tg} {f : Sf} {nl : List Nat} {k : Kn} {s : Dr} (I : List D → En → Prop) (r : R (D × Dr)) (hend : ∀ env, I [] env → k (lockE false nl env) s = r)
    (step : ∀ x xs env (kk kb : Kn), I (x :: xs) env → (∀ env', I xs env' → kk env' s = r) → ∃ env1, bindT t x env = some env1 ∧ f kk kb kk env1 s = r) : ∀ (xs : List D) (env : En), I xs env → forL t f nl k xs env s = r
  | [], env, h => by rw [forL]; exact hend env h
  | x :: xs, env, h => by
    obtain ⟨env1, h1, h2⟩ := step x xs env (forL t f nl k xs) (fun env s => k (lockE false nl env) s) h fun env' h' => forL_inv I r hend step xs env' h'
    rw [forL, h1]
    exact h2
/-- a for that leaves at the first item that says so, drawing nothing -/
theorem forL_first {t : Tg} {f : Sf} {nl : List Nat} {k : Kn} {s : Dr} (I : En → Prop) (g : D → Option (R (D × Dr))) (r : R (D × Dr)) (hend : ∀ env, I env → k (lockE false nl env) s = r) : ∀ (xs : List D)
    (step : ∀ x ∈ xs, ∀ env (kk kb : Kn), I env → ∃ env1, bindT t x env = some env1 ∧ ((∃ z, g x = some z ∧ f kk kb kk env1 s = z) ∨ (g x = none ∧ ∃ env2, I env2 ∧ f kk kb kk env1 s = kk env2 s))) (env : En), I env → forL t f nl k xs env s = (xs.findSome? g).getD r
  | [], _, env, h => by rw [forL]; exact hend env h
  | x :: xs, step, env, h => by
    obtain ⟨env1, h1, h2⟩ := step x (List.mem_cons_self ..) env (forL t f nl k xs) (fun env s => k (lockE false nl env) s) h
    rw [forL, h1, List.findSome?_cons]
    show f _ _ _ env1 s = _
    rcases h2 with ⟨z, h3, h4⟩ | ⟨h3, env2, h5, h6⟩
    · rw [h3]
      exact h4
    · rw [h3, h6]
      exact forL_first I g r hend xs (fun y hy => step y (List.mem_cons_of_mem _ hy)) env2 h5
end L2.DL

set_option Elab.async false
set_option linter.all false
set_option maxRecDepth 100000
set_option maxHeartbeats 4000000
set_option exponentiation.threshold 100000
/-! D layer 29: the plain run by rewriting. -/
namespace L2.DL
open PySem PySem.Spec PyProof.Rows
variable [TabL]

/-! ### the run goes on behind what is known -/
/-- what comes behind: an instance, so that rewriting does not go in -/
class Ct (α β : Type) where
  run : α → R β
def bnd {α β : Type} (r : R α) [f : Ct α β] : R β := r.bind f.run
/-- two ways -/
class Br (α : Type) where
  t : Unit → R α
  e : Unit → R α
def iteR {α : Type} (c : Bool) [b : Br α] : R α := if c = true then b.t () else b.e ()
@[simp] theorem iteR_t {α : Type} {c : Bool} {b : Br α} (h : c = true) : iteR c = b.t () := by
  unfold iteR
  exact if_pos h
@[simp] theorem iteR_f {α : Type} {c : Bool} {b : Br α} (h : c = false) : iteR c = b.e () := by
  unfold iteR
  exact if_neg (by rw [h]; decide)
@[simp] theorem bnd_ok {α β : Type} {a : α} {f : Ct α β} : bnd (.ok a) = f.run a := Eq.trans rfl rfl
@[simp] theorem bnd_err {α β : Type} {c : Str} {f : Ct α β} : @bnd α β (.err c) f = .err c := Eq.trans rfl rfl
@[simp] theorem bnd_stuck {α β : Type} {f : Ct α β} : @bnd α β .stuck f = .stuck := Eq.trans rfl rfl
@[simp] theorem bnd_bnd {α β γ : Type} {r : R α} {f : Ct α β} {g : Ct β γ} : @bnd β γ (@bnd α β r f) g = @bnd α γ r ⟨fun a => @bnd β γ (f.run a) g⟩ := by cases r <;> rfl
@[simp] theorem bnd_iteR {α β : Type} {c : Bool} {b : Br α} {f : Ct α β} : @bnd α β (@iteR α c b) f = @iteR β c ⟨fun _ => @bnd α β (b.t ()) f, fun _ => @bnd α β (b.e ()) f⟩ := by cases c <;> rfl
@[simp] theorem bind_is {α β : Type} {r : R α} {f : α → R β} : R.bind r f = bnd r (f := ⟨f⟩) := Eq.trans rfl rfl
@[simp] theorem R.ofO_some {α : Type} {a : α} : R.ofO (some a) = .ok a := Eq.trans rfl rfl
/-- ends well, and so -/
def Wp {α : Type} (r : R (α × Dr)) (Q : α → Dr → Prop) : Prop := ∃ a s, r = .ok (a, s) ∧ Q a s
theorem Wp.cong {α : Type} {r r' : R (α × Dr)} {Q : α → Dr → Prop} (h : r = r') : Wp r Q = Wp r' Q := by rw [h]
@[simp] theorem Wp.ok {α : Type} {a : α} {s : Dr} {Q : α → Dr → Prop} : Wp (.ok (a, s)) Q = Q a s := by
  apply propext
  constructor
  · rintro ⟨a, s, h, q⟩; cases h; exact q
  · exact fun q => ⟨_, _, rfl, q⟩
theorem Wp.eq {α : Type} {r : R (α × Dr)} {v : α} {s : Dr} (h : Wp r fun d s' => d = v ∧ s' = s) : r = .ok (v, s) := by
  obtain ⟨a, s', e, rfl, rfl⟩ := h
  exact e
theorem Wp.of {α : Type} {r r' : R (α × Dr)} {Q : α → Dr → Prop} (e : r = r') (h : Wp r' Q) : Wp r Q := e ▸ h
theorem R.bnd_ok {α β : Type} {a : α} {f : α → R β} : R.bind (.ok a) f = f a := rfl
theorem R.bind_bind {α β γ : Type} {r : R α} {f : α → R β} {g : β → R γ} : R.bind (R.bind r f) g = R.bind r fun a => R.bind (f a) g := by cases r <;> rfl
theorem Wp.ite_of {α : Type} {c : Bool} {b : Br (α × Dr)} {Q : α → Dr → Prop} (h1 : c = true → Wp (b.t ()) Q) (h2 : c = false → Wp (b.e ()) Q) : Wp (iteR c) Q := by
  cases c with
  | true => exact h1 rfl
  | false => exact h2 rfl
theorem Wp.bnd_of {α β : Type} {r : R (α × Dr)} {f : Ct (α × Dr) (β × Dr)} {Q : β → Dr → Prop} (P : α → Dr → Prop) (h : Wp r P) (h2 : ∀ a s, P a s → Wp (f.run (a, s)) Q) : Wp (bnd r) Q := by
  obtain ⟨a, s, rfl, p⟩ := h
  exact h2 a s p
theorem Wp.bind {α β : Type} {r : R (α × Dr)} {f : α × Dr → R (β × Dr)} {Q : β → Dr → Prop} (P : α → Dr → Prop) (h : Wp r P) (h2 : ∀ a s, P a s → Wp (f (a, s)) Q) : Wp (r.bind f) Q := by
  obtain ⟨a, s, rfl, p⟩ := h
  exact h2 a s p
theorem Wp.ite {α : Type} {c : Prop} [Decidable c] {a b : R (α × Dr)} {Q : α → Dr → Prop} (h1 : c → Wp a Q) (h2 : ¬c → Wp b Q) : Wp (if c then a else b) Q := by
  split
  · exact h1 ‹_›
  · exact h2 ‹_›

/-! ### slots -/
/-- a slot -/
def slot (i : Nat) (env : En) : Option Sl := env[i]?
@[simp] theorem slot_zero {x : Sl} {xs : En} : slot 0 (x :: xs) = some x := Eq.trans rfl rfl
@[simp] theorem slot_succ {i : Nat} {x : Sl} {xs : En} : slot (i + 1) (x :: xs) = slot i xs := by
  unfold slot
  rw [List.getElem?_cons_succ]
/-- no list of one's own -/
def Sl.nl : Sl → Bool
  | .lst _ _ => false
  | _ => true
@[simp] theorem Sl.nl_val {d : D} : (Sl.val d).nl = true := Eq.trans rfl rfl
@[simp] theorem Sl.nl_no : Sl.no.nl = true := Eq.trans rfl rfl
@[simp] theorem Sl.nl_drw : Sl.drw.nl = true := Eq.trans rfl rfl
def varR (o : Option Sl) (s : Dr) : R (D × Dr) := match o with
  | some (.val d) => .ok (d, s)
  | _ => .stuck
def pkR (o : Option Sl) (s : Dr) : R (D × Dr) := match o with
  | some (.val d) => .ok (d, s)
  | some (.lst _ xs) => .ok (.list xs, s)
  | _ => .stuck
@[simp] theorem varR_val {d : D} {s : Dr} : varR (some (.val d)) s = .ok (d, s) := Eq.trans rfl rfl
@[simp] theorem pkR_val {d : D} {s : Dr} : pkR (some (.val d)) s = .ok (d, s) := Eq.trans rfl rfl
@[simp] theorem pkR_lst {b : Bool} {xs : List D} {s : Dr} : pkR (some (.lst b xs)) s = .ok (.list xs, s) := Eq.trans rfl rfl
def argR (o : Option Sl) (fr : Ev (List Sl)) (env : En) (s : Dr) : R (List Sl × Dr) := match o with
  | some (.val d) => (fr env s).bind fun q => .ok (.val d :: q.1, q.2)
  | some .drw => (fr env s).bind fun q => .ok (.drw :: q.1, q.2)
  | some (.scr ns) => (fr env s).bind fun q => .ok (.scr ns :: q.1, q.2)
  | _ => .stuck
@[simp] theorem argR_val {d : D} {fr : Ev (List Sl)} {env : En} {s : Dr} : argR (some (.val d)) fr env s = bnd (fr env s) (f := ⟨fun q => .ok (.val d :: q.1, q.2)⟩) := Eq.trans rfl rfl
@[simp] theorem argR_drw {fr : Ev (List Sl)} {env : En} {s : Dr} : argR (some .drw) fr env s = bnd (fr env s) (f := ⟨fun q => .ok (.drw :: q.1, q.2)⟩) := Eq.trans rfl rfl
@[simp] theorem argR_scr {ns : List Int} {fr : Ev (List Sl)} {env : En} {s : Dr} : argR (some (.scr ns)) fr env s = bnd (fr env s) (f := ⟨fun q => .ok (.scr ns :: q.1, q.2)⟩) := Eq.trans rfl rfl
def setR (o : Option Sl) (i : Nat) (x : Sl) (env : En) : Option En := match o with
  | some (.lst true _) => none
  | some _ => some (env.set i x)
  | none => none
@[simp] theorem setR_val {d : D} {i : Nat} {x : Sl} {env : En} : setR (some (.val d)) i x env = some (env.set i x) := Eq.trans rfl rfl
@[simp] theorem setR_no {i : Nat} {x : Sl} {env : En} : setR (some .no) i x env = some (env.set i x) := Eq.trans rfl rfl
@[simp] theorem setR_lst {xs : List D} {i : Nat} {x : Sl} {env : En} : setR (some (.lst false xs)) i x env = some (env.set i x) := Eq.trans rfl rfl
@[simp] theorem setR_nl {y : Sl} {i : Nat} {x : Sl} {env : En} (h : y.nl = true) : setR (some y) i x env = some (env.set i x) := by
  cases y <;> first | rfl | cases h
@[simp] theorem setE_is {i : Nat} {x : Sl} {env : En} : setE i x env = setR (slot i env) i x env := by
  unfold setE setR
  rfl
@[simp] theorem bindT_nm {i : Nat} {d : D} {env : En} : bindT (.nm i) d env = setE i (.val d) env := by rw [bindT]
@[simp] theorem bindT_tup {ts : Tg} {ds : List D} {env : En} : bindT (.tup ts) (.tuple ds) env = bindTs ts ds env := by rw [bindT]
@[simp] theorem bindTs_nil {env : En} : bindTs .tnil [] env = some env := by rw [bindTs]
@[simp] theorem bindTs_cons {a r : Tg} {d : D} {ds : List D} {env : En} : bindTs (.tcons a r) (d :: ds) env = (bindT a d env).bind fun env' => bindTs r ds env' := by rw [bindTs]
@[simp] theorem wipeE_nil {env : En} : wipeE env [] = env := by rw [wipeE]
@[simp] theorem wipeE_cons {env : En} {v : Nat} {vs : List Nat} : wipeE env (v :: vs) = (wipeE env vs).set v .no := by rw [wipeE]
@[simp] theorem frz1_val {d : D} : frz1 (.val d) = .val d := Eq.trans rfl rfl
@[simp] theorem frz1_no : frz1 .no = .no := Eq.trans rfl rfl
@[simp] theorem frz1_drw : frz1 .drw = .drw := Eq.trans rfl rfl
@[simp] theorem frz1_scr {ns : List Int} : frz1 (.scr ns) = .scr ns := Eq.trans rfl rfl
@[simp] theorem frz1_lst {b : Bool} {xs : List D} : frz1 (.lst b xs) = .val (.list xs) := Eq.trans rfl rfl
@[simp] theorem frz1_nl {y : Sl} (h : y.nl = true) : frz1 y = y := by cases y <;> first | rfl | cases h
@[simp] theorem frzE_nil : frzE [] = [] := Eq.trans rfl rfl
@[simp] theorem frzE_cons {x : Sl} {xs : En} : frzE (x :: xs) = frz1 x :: frzE xs := Eq.trans rfl rfl
def frzR (o : Option Sl) (i : Nat) (env : En) : En := match o with
  | some (.lst false xs) => env.set i (.val (.list xs))
  | _ => env
@[simp] theorem frzR_lst {xs : List D} {i : Nat} {env : En} : frzR (some (.lst false xs)) i env = env.set i (.val (.list xs)) := Eq.trans rfl rfl
@[simp] theorem frzR_val {d : D} {i : Nat} {env : En} : frzR (some (.val d)) i env = env := Eq.trans rfl rfl
@[simp] theorem frzR_no {i : Nat} {env : En} : frzR (some .no) i env = env := Eq.trans rfl rfl
@[simp] theorem frzI_is {i : Nat} {env : En} : frzI i env = frzR (slot i env) i env := by
  unfold frzI frzR
  rfl
@[simp] theorem hide1_val {d : D} : hide1 (.val d) = .val d := Eq.trans rfl rfl
@[simp] theorem hide1_no : hide1 .no = .no := Eq.trans rfl rfl
@[simp] theorem hide1_drw : hide1 .drw = .no := Eq.trans rfl rfl
@[simp] theorem hide1_lst {b : Bool} {xs : List D} : hide1 (.lst b xs) = .lst b xs := Eq.trans rfl rfl
@[simp] theorem hideE_nil : hideE [] = [] := Eq.trans rfl rfl
@[simp] theorem hideE_cons {x : Sl} {xs : En} : hideE (x :: xs) = hide1 x :: hideE xs := Eq.trans rfl rfl
@[simp] theorem isOpen_val {d : D} : isOpen (some (.val d)) = false := Eq.trans rfl rfl
@[simp] theorem isOpen_no : isOpen (some .no) = false := Eq.trans rfl rfl
@[simp] theorem isOpen_lst {b : Bool} {xs : List D} : isOpen (some (.lst b xs)) = !b := by cases b <;> rfl
@[simp] theorem isOpen_nl {y : Sl} (h : y.nl = true) : isOpen (some y) = false := by cases y <;> first | rfl | cases h
@[simp] theorem openIn_nil {env : En} : openIn [] env = [] := Eq.trans rfl rfl
@[simp] theorem openIn_cons {i : Nat} {is : List Nat} {env : En} : openIn (i :: is) env = if isOpen (slot i env) then i :: openIn is env else openIn is env := by
  unfold openIn slot
  rw [List.filter_cons]
@[simp] theorem lockE_nil {b : Bool} {env : En} : lockE b [] env = env := Eq.trans rfl rfl
@[simp] theorem lockE_cons {b : Bool} {i : Nat} {is : List Nat} {env : En} : lockE b (i :: is) env = lockG b (i :: is) 0 env := Eq.trans rfl rfl
@[simp] theorem lockG_nil {b : Bool} {vs : List Nat} {n : Nat} : lockG b vs n [] = [] := Eq.trans rfl rfl
@[simp] theorem lockG_cons {b : Bool} {vs : List Nat} {n : Nat} {x : Sl} {xs : En} : lockG b vs n (x :: xs) = (if vs.contains n then lkS b x else x) :: lockG b vs (n + 1) xs := Eq.trans rfl rfl
@[simp] theorem lkS_lst {b c : Bool} {xs : List D} : lkS b (.lst c xs) = .lst b xs := Eq.trans rfl rfl
@[simp] theorem lkS_val {b : Bool} {d : D} : lkS b (.val d) = .val d := Eq.trans rfl rfl
@[simp] theorem lkS_no {b : Bool} : lkS b .no = .no := Eq.trans rfl rfl
def lstR (o : Option Sl) (f : List D → R (D × Dr)) : R (D × Dr) := match o with
  | some (.lst false xs) => f xs
  | _ => .stuck
@[simp] theorem lstR_lst {xs : List D} {f : List D → R (D × Dr)} : lstR (some (.lst false xs)) f = f xs := Eq.trans rfl rfl
@[simp] theorem onLst_is {i : Nat} {env : En} {f : List D → R (D × Dr)} : onLst i env f = lstR (slot i env) f := by
  unfold onLst lstR
  rfl

/-! ### expressions -/
section
variable {F : Nat → Fn} {env : En} {s : Dr} {a b c as it q e lo hi : IX}
@[simp] theorem xE_var {i : Nat} : evE F (.var i) env s = varR (slot i env) s := by rw [evE]; rfl
@[simp] theorem xE_pk {i : Nat} : evE F (.pk i) env s = pkR (slot i env) s := by rw [evE]; rfl
@[simp] theorem xE_c {d : D} : evE F (.c d) env s = .ok (d, s) := by rw [evE]; rfl
@[simp] theorem xE_b2 {g : O2} : evE F (.b2 g a b) env s = bnd (evE F a env s) (f := ⟨fun p => bnd (evE F b env p.2) (f := ⟨fun q => bnd (R.ofO (g.g p.1 q.1)) (f := ⟨fun z => .ok (z, q.2)⟩)⟩)⟩) := by rw [evE]; rfl
def chR (o : Option D) [b : Br (D × Dr)] : R (D × Dr) := match o with
  | some (.bool true) => b.t ()
  | some (.bool false) => b.e ()
  | _ => .stuck
@[simp] theorem chR_bl {k : Bool} {b : Br (D × Dr)} : chR (some (.bool k)) = iteR k := by cases k <;> rfl
@[simp] theorem xE_ch {g g' : O2} : evE F (.ch g g' a b c) env s = bnd (evE F a env s) (f := ⟨fun p => bnd (evE F b env p.2) (f := ⟨fun q => chR (g.g p.1 q.1) (b := ⟨fun _ => bnd (evE F c env q.2) (f := ⟨fun u => bnd (R.ofO (g'.g q.1 u.1)) (f := ⟨fun z => .ok (z, u.2)⟩)⟩), fun _ => .ok (.bool false, q.2)⟩)⟩)⟩) := by
  rw [evE]
  rfl
@[simp] theorem xE_andV : evE F (.andV a b) env s = bnd (evE F a env s) (f := ⟨fun p => bnd (R.ofO (gTru p.1)) (f := ⟨fun k => iteR k (b := ⟨fun _ => evE F b env p.2, fun _ => .ok p⟩)⟩)⟩) := by rw [evE]; rfl
@[simp] theorem xE_orV : evE F (.orV a b) env s = bnd (evE F a env s) (f := ⟨fun p => bnd (R.ofO (gTru p.1)) (f := ⟨fun k => iteR k (b := ⟨fun _ => .ok p, fun _ => evE F b env p.2⟩)⟩)⟩) := by rw [evE]; rfl
@[simp] theorem xE_notV : evE F (.notV a) env s = bnd (evE F a env s) (f := ⟨fun p => bnd (R.ofO (gTru p.1)) (f := ⟨fun k => .ok (.bool (!k), p.2)⟩)⟩) := by rw [evE]; rfl
@[simp] theorem xE_neg : evE F (.neg a) env s = bnd (evE F a env s) (f := ⟨fun p => bnd (R.ofO (gNeg p.1)) (f := ⟨fun z => .ok (z, p.2)⟩)⟩) := by rw [evE]; rfl
@[simp] theorem xE_ife : evE F (.ife c a b) env s = bnd (evT F c env s) (f := ⟨fun p => iteR p.1 (b := ⟨fun _ => evE F a env p.2, fun _ => evE F b env p.2⟩)⟩) := by rw [evE]; rfl
@[simp] theorem xE_ix : evE F (.ix a b) env s = bnd (evE F a env s) (f := ⟨fun p => bnd (evE F b env p.2) (f := ⟨fun q => bnd (R.ofO (gIx p.1 q.1)) (f := ⟨fun z => .ok (z, q.2)⟩)⟩)⟩) := by rw [evE]; rfl
@[simp] theorem xE_sl : evE F (.sl a lo hi) env s = bnd (evE F a env s) (f := ⟨fun p => bnd (evO F lo env p.2) (f := ⟨fun l => bnd (evO F hi env l.2) (f := ⟨fun h => bnd (R.ofO (gSl p.1 l.1 h.1)) (f := ⟨fun z => .ok (z, h.2)⟩)⟩)⟩)⟩) := by rw [evE]; rfl
@[simp] theorem xE_tup : evE F (.tup as) env s = bnd (evA F as env s) (f := ⟨fun p => if fitB p.1.length = true then .ok (.tuple p.1, p.2) else .stuck⟩) := by rw [evE]; rfl
@[simp] theorem xE_lst : evE F (.lst as) env s = bnd (evA F as env s) (f := ⟨fun p => if fitB p.1.length = true then .ok (.list p.1, p.2) else .stuck⟩) := by rw [evE]; rfl
@[simp] theorem xE_bi {f : Bi} : evE F (.bi f as) env s = bnd (evA F as env s) (f := ⟨fun p => bnd (R.ofO (f.g p.1)) (f := ⟨fun z => .ok (z, p.2)⟩)⟩) := by rw [evE]; rfl
def callR (n : Nat) (F : Fn) (p : List Sl × Dr) : R (D × Dr) := if p.1.length = n then (match drwN p.1 with
  | 0 => (F p.1 p.2).bind fun q => .ok (q.1, p.2)
  | 1 => F p.1 p.2
  | _ => .stuck) else .stuck
@[simp] theorem xE_call {f n : Nat} : evE F (.call f n as) env s = bnd (evS F as env s) (f := ⟨fun p => callR n (F f) p⟩) := by rw [evE]; rfl
@[simp] theorem xE_lc {t : Tg} {own : List Nat} : evE F (.lc it t own q e) env s = evLc (evI F it) t own (evT F q) (evE F e) env s := by rw [evE]
def lR (d : D) (s : Dr) : R (D × Dr) := match d with
  | .list xs => .ok (.list xs, s)
  | _ => .stuck
@[simp] theorem lR_list {xs : List D} : lR (.list xs) s = .ok (.list xs, s) := Eq.trans rfl rfl
@[simp] theorem xE_fl : evE F (.fl a) env s = bnd (evE F a env s) (f := ⟨fun p => lR p.1 p.2⟩) := by rw [evE]; rfl
def rgaR (ds : List D) (s : Dr) : R ((Int × Int) × Dr) := match ds with
  | [.int j] => if inR j && fitB j.toNat then .ok ((0, j), s) else .stuck
  | [.int i, .int j] => if inR i && inR j && fitB (j - i).toNat then .ok ((i, j), s) else .stuck
  | _ => .stuck
@[simp] theorem xE_listRg : evE F (.listRg as) env s = bnd (evA F as env s) (f := ⟨fun q => bnd (rgaR q.1 q.2) (f := ⟨fun p => .ok (.list (rngD p.1.1 (p.1.2 - p.1.1).toNat 1), p.2)⟩)⟩) := by
  rw [evE]
  show ((evA F as env s).bind _).bind _ = _
  rw [R.bind_bind]
  rfl
@[simp] theorem xE_tupRg : evE F (.tupRg as) env s = bnd (evA F as env s) (f := ⟨fun q => bnd (rgaR q.1 q.2) (f := ⟨fun p => .ok (.tuple (rngD p.1.1 (p.1.2 - p.1.1).toNat 1), p.2)⟩)⟩) := by
  rw [evE]
  show ((evA F as env s).bind _).bind _ = _
  rw [R.bind_bind]
  rfl
def toldR (r : R (D × Dr)) (s : Dr) : R (D × Dr) := match r with
  | .ok (d, _) => .ok (d, s)
  | .err c => .ok (.str c, s)
  | .stuck => .stuck
@[simp] theorem toldR_ok {d : D} {s' : Dr} : toldR (.ok (d, s')) s = .ok (d, s) := Eq.trans rfl rfl
@[simp] theorem toldR_err {c : Str} : toldR (.err c) s = .ok (.str c, s) := Eq.trans rfl rfl
@[simp] theorem xE_told : evE F (.told a) env s = toldR (evE F a (hideE env) s) s := by rw [evE]; rfl
@[simp] theorem xE_rev : evE F (.rev a) env s = bnd (evE F a env s) (f := ⟨fun p => bnd (R.ofO (gRev p.1)) (f := ⟨fun z => .ok (z, p.2)⟩)⟩) := by rw [evE]; rfl
def idxR (d : D) (f : List D → R (D × Dr)) : R (D × Dr) := match d with
  | .list ds => f ds
  | _ => .stuck
@[simp] theorem idxR_list {ds : List D} {f : List D → R (D × Dr)} : idxR (.list ds) f = f ds := Eq.trans rfl rfl
@[simp] theorem xE_idx {i : Nat} : evE F (.idx i a) env s = bnd (pkR (slot i env) s) (f := ⟨fun p => idxR p.1 fun ds => bnd (evE F a env p.2) (f := ⟨fun q => bnd (R.ofO (gIndex ds q.1)) (f := ⟨fun z => .ok (z, q.2)⟩)⟩)⟩) := by rw [evE]; rfl
@[simp] theorem xT_tru : evT F (.tru a) env s = bnd (evE F a env s) (f := ⟨fun p => bnd (R.ofO (gTru p.1)) (f := ⟨fun k => .ok (k, p.2)⟩)⟩) := by rw [evT]; rfl
def bR (d : D) (s : Dr) : R (Bool × Dr) := match d with
  | .bool b => .ok (b, s)
  | _ => .stuck
@[simp] theorem bR_bl {b : Bool} : bR (.bool b) s = .ok (b, s) := Eq.trans rfl rfl
@[simp] theorem xT_tev : evT F (.tev a) env s = bnd (evE F a env s) (f := ⟨fun p => bR p.1 p.2⟩) := by rw [evT]; rfl
@[simp] theorem xT_tnot : evT F (.tnot a) env s = bnd (evT F a env s) (f := ⟨fun p => .ok (!p.1, p.2)⟩) := by rw [evT]; rfl
@[simp] theorem xT_tif : evT F (.tif c a b) env s = bnd (evT F c env s) (f := ⟨fun p => iteR p.1 (b := ⟨fun _ => evT F a env p.2, fun _ => evT F b env p.2⟩)⟩) := by rw [evT]; rfl
@[simp] theorem xT_tt : evT F .tt env s = .ok (true, s) := by rw [evT]; rfl
@[simp] theorem xT_ff : evT F .ff env s = .ok (false, s) := by rw [evT]; rfl
@[simp] theorem xA_nil : evA F .nil env s = .ok ([], s) := by rw [evA]; rfl
@[simp] theorem xA_cons : evA F (.cons a as) env s = bnd (evE F a env s) (f := ⟨fun p => bnd (evA F as env p.2) (f := ⟨fun q => .ok (p.1 :: q.1, q.2)⟩)⟩) := by rw [evA]; rfl
@[simp] theorem xS_nil : evS F .nil env s = .ok ([], s) := by rw [evS]; rfl
@[simp] theorem xS_argC : evS F (.argC a as) env s = bnd (evE F a env s) (f := ⟨fun p => bnd (evS F as env p.2) (f := ⟨fun q => .ok (.val p.1 :: q.1, q.2)⟩)⟩) := by rw [evS]; rfl
@[simp] theorem xS_argV {i : Nat} : evS F (.argV i as) env s = argR (slot i env) (evS F as) env s := by rw [evS]; rfl
@[simp] theorem xI_seq : evI F (.seq a) env s = bnd (evE F a env s) (f := ⟨fun p => bnd (R.ofO (gSeq p.1)) (f := ⟨fun xs => .ok (xs, p.2)⟩)⟩) := by rw [evI]; rfl
def enR (ds : List D) (s : Dr) : R (List D × Dr) := match ds with
  | [d] => (R.ofO (gSeq d)).bind fun xs => .ok (enumD 0 xs, s)
  | _ => .stuck
@[simp] theorem enR_one {d : D} : enR [d] s = bnd (R.ofO (gSeq d)) (f := ⟨fun xs => .ok (enumD 0 xs, s)⟩) := Eq.trans rfl rfl
@[simp] theorem xI_enum : evI F (.enum as) env s = bnd (evA F as env s) (f := ⟨fun p => enR p.1 p.2⟩) := by rw [evI]; rfl
def z2R (ds : List D) (s : Dr) : R (List D × Dr) := match ds with
  | [d, e] => (R.ofO (gSeq d)).bind fun xs => (R.ofO (gSeq e)).bind fun ys => .ok (zipD2 xs ys, s)
  | _ => .stuck
@[simp] theorem z2R_two {d e : D} : z2R [d, e] s = bnd (R.ofO (gSeq d)) (f := ⟨fun xs => bnd (R.ofO (gSeq e)) (f := ⟨fun ys => .ok (zipD2 xs ys, s)⟩)⟩) := Eq.trans rfl rfl
@[simp] theorem xI_zip2 : evI F (.zip2 as) env s = bnd (evA F as env s) (f := ⟨fun p => z2R p.1 p.2⟩) := by rw [evI]; rfl
def z3R (ds : List D) (s : Dr) : R (List D × Dr) := match ds with
  | [d, e, g] => (R.ofO (gSeq d)).bind fun xs => (R.ofO (gSeq e)).bind fun ys => (R.ofO (gSeq g)).bind fun zs => .ok (zipD3 xs ys zs, s)
  | _ => .stuck
@[simp] theorem z3R_three {d e g : D} : z3R [d, e, g] s = bnd (R.ofO (gSeq d)) (f := ⟨fun xs => bnd (R.ofO (gSeq e)) (f := ⟨fun ys => bnd (R.ofO (gSeq g)) (f := ⟨fun zs => .ok (zipD3 xs ys zs, s)⟩)⟩)⟩) := Eq.trans rfl rfl
@[simp] theorem xI_zip3 : evI F (.zip3 as) env s = bnd (evA F as env s) (f := ⟨fun p => z3R p.1 p.2⟩) := by rw [evI]; rfl
def rg1R (ds : List D) (s : Dr) : R (List D × Dr) := match ds with
  | [.int j] => if inR j && fitB j.toNat then .ok (rngD 0 j.toNat 1, s) else .stuck
  | _ => .stuck
def rg2R (ds : List D) (s : Dr) : R (List D × Dr) := match ds with
  | [.int i, .int j] => if inR i && inR j && fitB (j - i).toNat then .ok (rngD i (j - i).toNat 1, s) else .stuck
  | _ => .stuck
@[simp] theorem xI_rng1 : evI F (.rng1 as) env s = bnd (evA F as env s) (f := ⟨fun p => rg1R p.1 p.2⟩) := by rw [evI]; rfl
@[simp] theorem xI_rng2 : evI F (.rng2 as) env s = bnd (evA F as env s) (f := ⟨fun p => rg2R p.1 p.2⟩) := by rw [evI]; rfl
def rg3R (ds : List D) (s : Dr) : R (List D × Dr) := match ds with
  | [.int i, .int j, .int c] => if decide (c ≠ 0) && decide (c.natAbs < 1073741824) && Builtin.Range.small i j c && decide (0 ≤ Builtin.Range.rangeSize i j c) && fitB (Builtin.Range.rangeSize i j c).toNat then .ok (rngD i (Builtin.Range.rangeSize i j c).toNat c, s) else .stuck
  | _ => .stuck
@[simp] theorem xI_rng3 : evI F (.rng3 as) env s = bnd (evA F as env s) (f := ⟨fun p => rg3R p.1 p.2⟩) := by rw [evI]; rfl
@[simp] theorem xO_none : evO F .none env s = .ok (none, s) := by rw [evO]; rfl
def oR (d : D) (s : Dr) : R (Option Int × Dr) := match d with
  | .int i => .ok (some i, s)
  | _ => .stuck
@[simp] theorem oR_int {i : Int} : oR (.int i) s = .ok (some i, s) := Eq.trans rfl rfl
@[simp] theorem xO_tru : evO F (.tru a) env s = bnd (evE F a env s) (f := ⟨fun p => oR p.1 p.2⟩) := by rw [evO]; rfl
end

/-! ### statements -/
section
variable {F : Nat → Fn} {env : En} {s : Dr} {e c it : IX} {a b : IS} {k kb kc : Kn} {t : Tg} {i j : Nat}
@[simp] theorem xS_skip : evS' F .skip k kb kc env s = k env s := Eq.trans rfl rfl
@[simp] theorem xS_brk : evS' F .brk k kb kc env s = kb env s := Eq.trans rfl rfl
@[simp] theorem xS_cnt : evS' F .cnt k kb kc env s = kc env s := Eq.trans rfl rfl
@[simp] theorem xS_retN : evS' F .retN k kb kc env s = .ok (.none, s) := Eq.trans rfl rfl
@[simp] theorem xS_ex : evS' F (.ex e) k kb kc env s = bnd (evE F e env s) (f := ⟨fun p => k env p.2⟩) := Eq.trans rfl rfl
@[simp] theorem xS_asg : evS' F (.asg t e) k kb kc env s = bnd (evE F e env s) (f := ⟨fun p => bnd (R.ofO (bindT t p.1 env)) (f := ⟨fun env' => k env' p.2⟩)⟩) := Eq.trans rfl rfl
def asgOR (d : D) (i : Nat) (env : En) (k : Kn) (s : Dr) : R (D × Dr) := match d with
  | .list xs => (R.ofO (setE i (.lst false xs) env)).bind fun env' => k env' s
  | _ => .stuck
@[simp] theorem asgOR_list {xs : List D} : asgOR (.list xs) i env k s = bnd (R.ofO (setE i (.lst false xs) env)) (f := ⟨fun env' => k env' s⟩) := Eq.trans rfl rfl
@[simp] theorem xS_asgO : evS' F (.asgO i e) k kb kc env s = bnd (evE F e env s) (f := ⟨fun p => asgOR p.1 i env k p.2⟩) := Eq.trans rfl rfl
@[simp] theorem xS_ret : evS' F (.ret e) k kb kc env s = evE F e (frzE env) s := Eq.trans rfl rfl
@[simp] theorem xS_frz : evS' F (.frz i a) k kb kc env s = evS' F a k kb kc (frzI i env) s := Eq.trans rfl rfl
@[simp] theorem xS_seqS : evS' F (.seq a b) k kb kc env s = evS' F a (evS' F b k kb kc) kb kc env s := Eq.trans rfl rfl
@[simp] theorem xS_ite : evS' F (.ite c a b) k kb kc env s = bnd (evT F c env s) (f := ⟨fun p => iteR p.1 (b := ⟨fun _ => evS' F a k kb kc env p.2, fun _ => evS' F b k kb kc env p.2⟩)⟩) := Eq.trans rfl rfl
@[simp] theorem xS_whl {n : Nat} : evS' F (.whl n c a) k kb kc env s = whileF (evT F c) (evS' F a) k n env s := Eq.trans rfl rfl
@[simp] theorem xS_for {vs : List Nat} : evS' F (.forS vs it t a) k kb kc env s = bnd (evI F it env s) (f := ⟨fun p => forL t (evS' F a) (openIn vs env) k p.1 (lockE true (openIn vs env) env) p.2⟩) := Eq.trans rfl rfl
@[simp] theorem xS_app : evS' F (.app i e) k kb kc env s = onLst i env fun xs => bnd (evE F e env s) (f := ⟨fun p => bnd (R.ofO (fApp p.1 xs)) (f := ⟨fun ys => k (env.set i (.lst false ys)) p.2⟩)⟩) := Eq.trans rfl rfl
@[simp] theorem xS_ins {e2 : IX} : evS' F (.ins i e e2) k kb kc env s = onLst i env fun xs => bnd (evE F e env s) (f := ⟨fun p => bnd (evE F e2 env p.2) (f := ⟨fun q => bnd (R.ofO (fIns p.1 q.1 xs)) (f := ⟨fun ys => k (env.set i (.lst false ys)) q.2⟩)⟩)⟩) := Eq.trans rfl rfl
@[simp] theorem xS_setIx {e2 : IX} : evS' F (.setIx i e e2) k kb kc env s = onLst i env fun xs => bnd (evE F e2 env s) (f := ⟨fun p => bnd (evE F e env p.2) (f := ⟨fun q => bnd (R.ofO (fSet q.1 p.1 xs)) (f := ⟨fun ys => k (env.set i (.lst false ys)) q.2⟩)⟩)⟩) := Eq.trans rfl rfl
def augR (g : D → D → Option D) (o : Option Sl) (i : Nat) (e : R (D × Dr)) (env : En) (k : Kn) : R (D × Dr) := match o with
  | some (.val x) => e.bind fun p => (R.ofO (g x p.1)).bind fun z => (R.ofO (setE i (.val z) env)).bind fun env' => k env' p.2
  | _ => .stuck
@[simp] theorem augR_val {g : D → D → Option D} {x : D} {e : R (D × Dr)} : augR g (some (.val x)) i e env k = bnd e (f := ⟨fun p => bnd (R.ofO (g x p.1)) (f := ⟨fun z => bnd (R.ofO (setE i (.val z) env)) (f := ⟨fun env' => k env' p.2⟩)⟩)⟩) := Eq.trans rfl rfl
@[simp] theorem xS_aug {g : O2} : evS' F (.aug g i e) k kb kc env s = augR (gInts g.g) (slot i env) i (evE F e env s) env k := by
  show sAug (gInts g.g) i (evE F e) k kb kc env s = _
  unfold sAug augR
  rfl
@[simp] theorem xS_par {e2 : IX} : evS' F (.par i j e e2) k kb kc env s = bnd (evE F e env s) (f := ⟨fun p => bnd (evE F e2 env p.2) (f := ⟨fun q => bnd (R.ofO (setE i (.val p.1) env)) (f := ⟨fun env1 => bnd (R.ofO (setE j (.val q.1) env1)) (f := ⟨fun env2 => k env2 q.2⟩)⟩)⟩)⟩) := Eq.trans rfl rfl
@[simp] theorem xS_raise {c : Str} : evS' F (.raise c) k kb kc env s = .err c := Eq.trans rfl rfl
end

/-! ### values -/
@[simp] theorem o2_add : O2.g .add = gAdd := Eq.trans rfl rfl
@[simp] theorem o2_sub : O2.g .sub = gSub := Eq.trans rfl rfl
@[simp] theorem o2_mul : O2.g .mul = gMul := Eq.trans rfl rfl
@[simp] theorem o2_pow : O2.g .pow = gPow := Eq.trans rfl rfl
@[simp] theorem o2_div : O2.g .div = gDiv := Eq.trans rfl rfl
@[simp] theorem o2_mod : O2.g .mod = gMod := Eq.trans rfl rfl
@[simp] theorem o2_xor : O2.g .xor = gXor := Eq.trans rfl rfl
@[simp] theorem o2_and : O2.g .and = gAnd := Eq.trans rfl rfl
@[simp] theorem o2_or : O2.g .or = gOr := Eq.trans rfl rfl
@[simp] theorem o2_eq : O2.g .eq = gEq := Eq.trans rfl rfl
@[simp] theorem o2_ne : O2.g .ne = gNe := Eq.trans rfl rfl
@[simp] theorem o2_lt : O2.g .lt = gI fun i j => decide (i < j) := Eq.trans rfl rfl
@[simp] theorem o2_le : O2.g .le = gI fun i j => decide (i ≤ j) := Eq.trans rfl rfl
@[simp] theorem o2_gt : O2.g .gt = gI fun i j => decide (j < i) := Eq.trans rfl rfl
@[simp] theorem o2_ge : O2.g .ge = gI fun i j => decide (j ≤ i) := Eq.trans rfl rfl
@[simp] theorem o2_in : O2.g .in_ = gIn false := Eq.trans rfl rfl
@[simp] theorem o2_nin : O2.g .nin = gIn true := Eq.trans rfl rfl
@[simp] theorem o2_is : O2.g .is = gIs false := Eq.trans rfl rfl
@[simp] theorem o2_isn : O2.g .isn = gIs true := Eq.trans rfl rfl
@[simp] theorem bi_len : Bi.g .len = gLen := Eq.trans rfl rfl
@[simp] theorem bi_any : Bi.g .any = gAny := Eq.trans rfl rfl
@[simp] theorem bi_all : Bi.g .all = gAll := Eq.trans rfl rfl
@[simp] theorem bi_sum : Bi.g .sum = gSum := Eq.trans rfl rfl
@[simp] theorem bi_max : Bi.g .max = gMax := Eq.trans rfl rfl
@[simp] theorem bi_min : Bi.g .min = gMin := Eq.trans rfl rfl
@[simp] theorem bi_abs : Bi.g .abs = gAbs := Eq.trans rfl rfl
@[simp] theorem bi_int : Bi.g .int = gInt := Eq.trans rfl rfl
@[simp] theorem bi_list : Bi.g .list = gList := Eq.trans rfl rfl
@[simp] theorem bi_tuple : Bi.g .tuple = gTuple := Eq.trans rfl rfl
@[simp] theorem gAdd_int {i j : Int} : gAdd (.int i) (.int j) = some (.int (i + j)) := Eq.trans rfl rfl
@[simp] theorem gSub_int {i j : Int} : gSub (.int i) (.int j) = some (.int (i - j)) := Eq.trans rfl rfl
@[simp] theorem gI_int {p : Int → Int → Bool} {i j : Int} : gI p (.int i) (.int j) = some (.bool (p i j)) := Eq.trans rfl rfl
@[simp] theorem gXor_int {i j : Int} : gXor (.int i) (.int j) = some (.int (Builtin.bitXor i j)) := Eq.trans rfl rfl
@[simp] theorem gNeg_int {i : Int} : gNeg (.int i) = some (.int (-i)) := Eq.trans rfl rfl
@[simp] theorem gInt_int {i : Int} : gInt [.int i] = some (.int i) := Eq.trans rfl rfl
@[simp] theorem gInts_is {g : D → D → Option D} {i j : Int} : gInts g (.int i) (.int j) = g (.int i) (.int j) := Eq.trans rfl rfl
@[simp] theorem gTru_bl {b : Bool} : gTru (.bool b) = some b := Eq.trans rfl rfl
@[simp] theorem gTru_non : gTru .none = some false := Eq.trans rfl rfl
@[simp] theorem gTru_int {i : Int} : gTru (.int i) = some (i != 0) := Eq.trans rfl rfl
@[simp] theorem gTru_list {xs : List D} : gTru (.list xs) = some (!xs.isEmpty) := Eq.trans rfl rfl
@[simp] theorem gTru_tuple {xs : List D} : gTru (.tuple xs) = some (!xs.isEmpty) := Eq.trans rfl rfl
@[simp] theorem gLen_list {xs : List D} : gLen [.list xs] = some (.int xs.length) := Eq.trans rfl rfl
@[simp] theorem gLen_tuple {xs : List D} : gLen [.tuple xs] = some (.int xs.length) := Eq.trans rfl rfl
@[simp] theorem gTuple_list {xs : List D} : gTuple [.list xs] = some (.tuple xs) := Eq.trans rfl rfl
@[simp] theorem gTuple_tuple {xs : List D} : gTuple [.tuple xs] = some (.tuple xs) := Eq.trans rfl rfl
@[simp] theorem gList_list {xs : List D} : gList [.list xs] = some (.list xs) := Eq.trans rfl rfl
@[simp] theorem gList_tuple {xs : List D} : gList [.tuple xs] = some (.list xs) := Eq.trans rfl rfl
@[simp] theorem gSeq_list {xs : List D} : gSeq (.list xs) = some xs := Eq.trans rfl rfl
@[simp] theorem gSeq_tuple {xs : List D} : gSeq (.tuple xs) = some xs := Eq.trans rfl rfl
@[simp] theorem gIs_none {neg : Bool} : gIs neg .none .none = some (.bool (!neg)) := Eq.trans rfl rfl
@[simp] theorem gIs_tup {xs : List D} {neg : Bool} : gIs neg (.tuple xs) .none = some (.bool neg) := Eq.trans rfl rfl
@[simp] theorem gIs_list {xs : List D} {neg : Bool} : gIs neg (.list xs) .none = some (.bool neg) := Eq.trans rfl rfl
@[simp] theorem gIs_int {i : Int} {neg : Bool} : gIs neg (.int i) .none = some (.bool neg) := Eq.trans rfl rfl
@[simp] theorem gIs_bl {a b neg : Bool} : gIs neg (.bool a) (.bool b) = some (.bool (if neg = true then !decide (a = b) else decide (a = b))) := Eq.trans rfl rfl
@[simp] theorem fitB_le' {n : Nat} : (fitB n = true) = (n ≤ 16777216) := by
  unfold fitB
  rw [Nat.ble_eq]
@[simp] theorem gMod_pos {i j : Int} (h : 0 < j) : gMod (.int i) (.int j) = some (.int (i % j)) := by
  show (if decide (0 < j) then _ else _) = _
  rw [decide_eq_true h]; rfl
theorem divB_small {j : Int} (h : 0 < j) (h2 : j < 1000000000000000000) : divB j = true := by
  unfold divB
  rw [decide_eq_true h, Bool.true_and, Nat.ble_eq]
  have h3 : j.natAbs < 2 ^ 60 := by omega
  by_cases h0 : j.natAbs = 0
  · rw [h0]; decide
  · have := (Nat.log2_lt h0).mpr h3
    omega
@[simp] theorem gDiv_pos {i j : Int} (h : 0 < j) (h2 : j < 1000000000000000000) : gDiv (.int i) (.int j) = some (.int (i / j)) := by
  show (if divB j then _ else _) = _
  rw [divB_small h h2]; rfl
theorem mulB_18 {i j : Int} (h : -1000000000000000000 < i) (h2 : i < 1000000000000000000) (h3 : -1000000000000000000 < j) (h4 : j < 1000000000000000000) : mulB i j = true := by
  have e : 2 ^ 60 ≤ 2 ^ 1000 := Nat.pow_le_pow_right (by decide) (by decide)
  exact mulB_small (Nat.lt_of_lt_of_le (by omega) e) (Nat.lt_of_lt_of_le (by omega) e)
@[simp] theorem gMul_small {i j : Int} (h : -1000000000000000000 < i) (h2 : i < 1000000000000000000) (h3 : -1000000000000000000 < j) (h4 : j < 1000000000000000000) : gMul (.int i) (.int j) = some (.int (i * j)) := by
  show (if mulB i j then _ else _) = _
  rw [mulB_18 h h2 h3 h4]; rfl
@[simp] theorem gEq_int {i j : Int} : gEq (.int i) (.int j) = some (.bool (decide (i = j))) := by
  show some (PyData.bool (PyData.eqv (.int i) (.int j))) = _
  rw [PyData.eqv]
  rfl
@[simp] theorem gNe_int {i j : Int} : gNe (.int i) (.int j) = some (.bool (!decide (i = j))) := by
  show some (PyData.bool (!PyData.eqv (.int i) (.int j))) = _
  rw [PyData.eqv]
  rfl
end L2.DL

set_option Elab.async false
set_option linter.all false
set_option maxRecDepth 100000
set_option maxHeartbeats 4000000
/-! D layer 30: values of plain types as data. -/
namespace L2.DL
open PySem PySem.Spec PyProof.Rows
variable [TabL]

/-- a plain value as data: tuples for lists and pairs -/
class Enc (α : Type) where
  enc : α → D
  lv : Nat
  dp : ∀ (a : α) (n : Nat), lv ≤ n → dep n (enc a) = true
  eqv : ∀ a b : α, PyData.eqv (enc a) (enc b) = true ↔ a = b
  nn : ∀ a : α, PyData.eqv (enc a) .none = false
  nn2 : ∀ a : α, PyData.eqv .none (enc a) = false
open Enc (enc)
instance : Enc Int where
  enc := .int
  lv := 0
  dp a n _ := by cases n <;> rfl
  eqv a b := by rw [PyData.eqv, beq_iff_eq]
  nn a := by rw [PyData.eqv]
  nn2 a := by rw [PyData.eqv]
instance : Enc Bool where
  enc := .bool
  lv := 0
  dp a n _ := by cases n <;> rfl
  eqv a b := by rw [PyData.eqv, beq_iff_eq]
  nn a := by rw [PyData.eqv]
  nn2 a := by rw [PyData.eqv]
theorem eqvAll_enc {α : Type} [Enc α] : ∀ xs ys : List α, PyData.eqvAll (xs.map enc) (ys.map enc) = true ↔ xs = ys
  | [], [] => by simp [PyData.eqvAll]
  | [], y :: ys => by simp [PyData.eqvAll]
  | x :: xs, [] => by simp [PyData.eqvAll]
  | x :: xs, y :: ys => by
    rw [List.map_cons, List.map_cons, PyData.eqvAll, Bool.and_eq_true, Enc.eqv, eqvAll_enc xs ys, List.cons.injEq]
instance {α : Type} [Enc α] : Enc (List α) where
  enc xs := .tuple (xs.map enc)
  lv := Enc.lv α + 1
  dp a n h := by
    cases n with
    | zero => omega
    | succ n =>
      rw [dep, List.all_eq_true]
      intro d hd
      obtain ⟨x, _, rfl⟩ := List.mem_map.mp hd
      exact Enc.dp x n (by omega)
  eqv a b := by rw [PyData.eqv]; exact eqvAll_enc a b
  nn a := by rw [PyData.eqv]
  nn2 a := by rw [PyData.eqv]
instance {α β : Type} [Enc α] [Enc β] : Enc (α × β) where
  enc p := .tuple [enc p.1, enc p.2]
  lv := max (Enc.lv α) (Enc.lv β) + 1
  dp a n h := by
    cases n with
    | zero => omega
    | succ n =>
      rw [dep, List.all_cons, List.all_cons, List.all_nil, Enc.dp a.1 n (by omega), Enc.dp a.2 n (by omega)]
      rfl
  eqv a b := by
    rw [PyData.eqv, PyData.eqvAll, PyData.eqvAll, PyData.eqvAll, Bool.and_true, Bool.and_eq_true, Enc.eqv, Enc.eqv, Prod.ext_iff]
  nn a := by rw [PyData.eqv]
  nn2 a := by rw [PyData.eqv]
/-- None or a value -/
def encO {α : Type} [Enc α] : Option α → D
  | none => .none
  | some a => enc a
@[simp] theorem encO_none {α : Type} [Enc α] : encO (none : Option α) = .none := Eq.trans rfl rfl
@[simp] theorem encO_some {α : Type} [Enc α] {a : α} : encO (some a) = enc a := Eq.trans rfl rfl
@[simp] theorem enc_int {i : Int} : enc i = .int i := Eq.trans rfl rfl
@[simp] theorem enc_bool {b : Bool} : enc b = .bool b := Eq.trans rfl rfl
theorem enc_pair {α β : Type} [Enc α] [Enc β] {p : α × β} : enc p = .tuple [enc p.1, enc p.2] := rfl
@[simp] theorem enc_mk {α β : Type} [Enc α] [Enc β] {a : α} {b : β} : enc (a, b) = .tuple [enc a, enc b] := Eq.trans rfl rfl
theorem enc_list {α : Type} [Enc α] {xs : List α} : enc xs = .tuple (xs.map enc) := rfl
section
variable {α β : Type} [Enc α] [Enc β]
theorem gTuple_enc {xs : List α} : gTuple [.list (xs.map enc)] = some (enc xs) := rfl
@[simp] theorem gTuple_encT {xs : List α} : gTuple [enc xs] = some (enc xs) := Eq.trans rfl rfl
theorem gList_encT {xs : List α} : gList [enc xs] = some (.list (xs.map enc)) := rfl
@[simp] theorem gLen_enc {xs : List α} : gLen [enc xs] = some (.int xs.length) := by
  show some (PyData.int ((xs.map enc).length : Int)) = _
  rw [List.length_map]
theorem gLen_encL {xs : List α} : gLen [.list (xs.map enc)] = some (.int xs.length) := gLen_enc
theorem gSeq_enc {xs : List α} : gSeq (enc xs) = some (xs.map enc) := rfl
@[simp] theorem bindT_pair {t : Tg} {p : α × β} {env : En} : bindT (.tup t) (enc p) env = bindTs t [enc p.1, enc p.2] env := by
  show bindT (.tup t) (.tuple [enc p.1, enc p.2]) env = _
  rw [bindT_tup]
@[simp] theorem gIs_encO {o : Option α} {neg : Bool} : gIs neg (encO o) .none = some (.bool (if o = none then !neg else neg)) := by
  cases o with
  | none => simp
  | some a =>
    have h := Enc.nn a
    simp only [encO_some, reduceCtorEq, if_false]
    cases hd : enc a with
    | none => rw [hd, PyData.eqv] at h; cases h
    | _ => rfl
@[simp] theorem gIs_enc {xs : List α} {neg : Bool} : gIs neg (enc xs) .none = some (.bool neg) := Eq.trans rfl rfl
@[simp] theorem gIs_encP {p : α × β} {neg : Bool} : gIs neg (enc p) .none = some (.bool neg) := Eq.trans rfl rfl
/-- an item by its place -/
def nth [Inhabited α] (xs : List α) (i : Int) : α := (xs[i.toNat]?).getD default
theorem atI_enc [Inhabited α] {xs : List α} {i : Int} (h : 0 ≤ i) (h2 : i < xs.length) : atI (xs.map enc) i = some (enc (nth xs i)) := by
  have h3 : i.toNat < xs.length := by omega
  unfold atI ixN nth
  simp [h, h2, h3]
@[simp] theorem gIx_enc [Inhabited α] {xs : List α} {i : Int} (h : 0 ≤ i) (h2 : i < xs.length) : gIx (enc xs) (.int i) = some (enc (nth xs i)) := atI_enc h h2
theorem gIx_encL [Inhabited α] {xs : List α} {i : Int} (h : 0 ≤ i) (h2 : i < xs.length) : gIx (.list (xs.map enc)) (.int i) = some (enc (nth xs i)) := atI_enc h h2
theorem gIx_last [Inhabited α] {xs : List α} (h : 0 < xs.length) : gIx (.list (xs.map enc)) (.int (-1)) = some (enc (nth xs (xs.length - 1 : Int))) := by
  show atI (xs.map enc) (-1) = _
  unfold atI ixN nth
  have h1 : xs.length - 1 < xs.length := by omega
  have h2 : ((-1 : Int) + xs.length).toNat = xs.length - 1 := by omega
  have h3 : ((xs.length : Int) - 1).toNat = xs.length - 1 := by omega
  have h4 : -(xs.length : Int) ≤ -1 := by omega
  simp [h1, h2, h3, h4, h]
@[simp] theorem gIx_lastT [Inhabited α] {xs : List α} (h : 0 < xs.length) : gIx (enc xs) (.int (-1)) = some (enc (nth xs (xs.length - 1 : Int))) := gIx_last h
@[simp] theorem gIx_fst {p : α × β} : gIx (enc p) (.int 0) = some (enc p.1) := Eq.trans rfl rfl
@[simp] theorem gIx_snd {p : α × β} : gIx (enc p) (.int 1) = some (enc p.2) := Eq.trans rfl rfl
@[simp] theorem gIx_t2_0 {x y : D} : gIx (.tuple [x, y]) (.int 0) = some x := Eq.trans rfl rfl
@[simp] theorem gIx_t2_1 {x y : D} : gIx (.tuple [x, y]) (.int 1) = some y := Eq.trans rfl rfl
theorem eqv_bool {a b : α} [DecidableEq α] : PyData.eqv (enc a) (enc b) = decide (a = b) := by
  by_cases h : a = b
  · rw [decide_eq_true h]; exact (Enc.eqv a b).mpr h
  · rw [decide_eq_false h]
    cases e : PyData.eqv (enc a) (enc b) with
    | false => rfl
    | true => exact (h ((Enc.eqv a b).mp e)).elim
@[simp] theorem gEq_enc [DecidableEq α] {a b : α} (h : Enc.lv α ≤ 40) : gEq (enc a) (enc b) = some (.bool (decide (a = b))) := by
  unfold gEq
  rw [Enc.dp a 40 h, Enc.dp b 40 h, eqv_bool]
  rfl
@[simp] theorem gNe_enc [DecidableEq α] {a b : α} (h : Enc.lv α ≤ 40) : gNe (enc a) (enc b) = some (.bool (!decide (a = b))) := by
  unfold gNe
  rw [Enc.dp a 40 h, Enc.dp b 40 h, eqv_bool]
  rfl
theorem eqv_encO [DecidableEq α] {a b : Option α} : PyData.eqv (encO a) (encO b) = decide (a = b) := by
  cases a with
  | none => cases b with
    | none => simp [PyData.eqv]
    | some b => simp [Enc.nn2]
  | some a => cases b with
    | none => simp [Enc.nn]
    | some b => simp [eqv_bool]
theorem dep_encO {a : Option α} (h : Enc.lv α ≤ 40) : dep 40 (encO a) = true := by
  cases a with
  | none => rfl
  | some a => exact Enc.dp a 40 h
@[simp] theorem gEq_encO [DecidableEq α] {a b : Option α} (h : Enc.lv α ≤ 40) : gEq (encO a) (encO b) = some (.bool (decide (a = b))) := by
  unfold gEq
  rw [dep_encO h, dep_encO h, eqv_encO]
  rfl
@[simp] theorem gNe_encO [DecidableEq α] {a b : Option α} (h : Enc.lv α ≤ 40) : gNe (encO a) (encO b) = some (.bool (!decide (a = b))) := by
  unfold gNe
  rw [dep_encO h, dep_encO h, eqv_encO]
  rfl
theorem dep_encL {xs : List α} (h : Enc.lv α ≤ 39) : dep 40 (.list (xs.map enc)) = true := by
  rw [dep, List.all_eq_true]
  intro d hd
  obtain ⟨x, _, rfl⟩ := List.mem_map.mp hd
  exact Enc.dp x 39 h
theorem gEq_encL [DecidableEq α] {a b : List α} (h : Enc.lv α ≤ 39) : gEq (.list (a.map enc)) (.list (b.map enc)) = some (.bool (decide (a = b))) := by
  unfold gEq
  rw [dep_encL h, dep_encL h, PyData.eqv]
  have := eqvAll_enc a b
  by_cases e : a = b
  · rw [this.mpr e, decide_eq_true e]; rfl
  · rw [decide_eq_false e]
    cases q : PyData.eqvAll (a.map enc) (b.map enc) with
    | false => rfl
    | true => exact (e (this.mp q)).elim
theorem any_eqv [DecidableEq α] {a : α} : ∀ {xs : List α}, ((xs.map enc).any fun z => PyData.eqv z (enc a)) = decide (a ∈ xs)
  | [] => rfl
  | x :: xs => by
    rw [List.map_cons, List.any_cons, eqv_bool, any_eqv (xs := xs)]
    by_cases h : x = a
    · subst h; simp
    · have h2 : a ≠ x := fun z => h z.symm
      simp [h, h2]
theorem gIn_l {d : D} {ds : List D} {neg : Bool} : gIn neg d (.list ds) = if (dep 40 d && dep 40 (.list ds)) = true then some (.bool (if neg then !(ds.any fun z => PyData.eqv z d) else ds.any fun z => PyData.eqv z d)) else none := by cases d <;> rfl
theorem gIn_t {d : D} {ds : List D} {neg : Bool} : gIn neg d (.tuple ds) = if (dep 40 d && dep 40 (.list ds)) = true then some (.bool (if neg then !(ds.any fun z => PyData.eqv z d) else ds.any fun z => PyData.eqv z d)) else none := by cases d <;> rfl
theorem gIn_encL [DecidableEq α] {a : α} {xs : List α} {neg : Bool} (h : Enc.lv α ≤ 39) : gIn neg (enc a) (.list (xs.map enc)) = some (.bool (if neg = true then !decide (a ∈ xs) else decide (a ∈ xs))) := by
  rw [gIn_l, Enc.dp a 40 (by omega), dep_encL h, any_eqv]
  cases neg <;> rfl
@[simp] theorem gIn_enc [DecidableEq α] {a : α} {xs : List α} {neg : Bool} (h : Enc.lv α ≤ 39) : gIn neg (enc a) (enc xs) = some (.bool (if neg = true then !decide (a ∈ xs) else decide (a ∈ xs))) := by
  show gIn neg (enc a) (.tuple (xs.map enc)) = _
  rw [gIn_t, Enc.dp a 40 (by omega), dep_encL h, any_eqv]
  cases neg <;> rfl
theorem gIn_int {a : Int} {xs : List Int} {neg : Bool} : gIn neg (.int a) (.list (xs.map enc)) = some (.bool (if neg = true then !decide (a ∈ xs) else decide (a ∈ xs))) := gIn_encL (α := Int) (by decide)
@[simp] theorem gIn_intT {a : Int} {xs : List Int} {neg : Bool} : gIn neg (.int a) (enc xs) = some (.bool (if neg = true then !decide (a ∈ xs) else decide (a ∈ xs))) := gIn_enc (α := Int) (by decide)
theorem fApp_enc {a : α} {xs : List α} (h : xs.length < 16777216) : fApp (enc a) (xs.map enc) = some ((xs ++ [a]).map enc) := by
  unfold fApp
  rw [if_pos (by rw [List.length_map, fitB_le']; omega), List.map_append]
  rfl
theorem fApp_int {a : Int} {xs : List Int} (h : xs.length < 16777216) : fApp (.int a) (xs.map enc) = some ((xs ++ [a]).map enc) := fApp_enc h
theorem fApp_pair {a : α} {b : β} {xs : List (α × β)} (h : xs.length < 16777216) : fApp (.tuple [enc a, enc b]) (xs.map enc) = some ((xs ++ [(a, b)]).map enc) := fApp_enc (a := (a, b)) h
@[simp] theorem gAdd_enc {xs ys : List α} (h : xs.length + ys.length ≤ 16777216) : gAdd (enc xs) (enc ys) = some (enc (xs ++ ys)) := by
  show (if fitB ((xs.map enc).length + (ys.map enc).length) then _ else _) = _
  rw [if_pos (by rw [List.length_map, List.length_map, fitB_le']; exact h), ← List.map_append]
  rfl
theorem gAdd_encL {xs ys : List α} (h : xs.length + ys.length ≤ 16777216) : gAdd (.list (xs.map enc)) (.list (ys.map enc)) = some (.list ((xs ++ ys).map enc)) := by
  show (if fitB ((xs.map enc).length + (ys.map enc).length) then _ else _) = _
  rw [if_pos (by rw [List.length_map, List.length_map, fitB_le']; exact h), ← List.map_append]
theorem cut_enc {xs : List α} {lo hi : Option Int} : cutD (xs.map enc) lo hi = ((xs.drop (HT.sIx xs.length 0 lo)).take (HT.sIx xs.length xs.length hi - HT.sIx xs.length 0 lo)).map enc := by
  unfold cutD
  rw [List.length_map, List.map_take, List.map_drop]
@[simp] theorem gRev_enc {xs : List α} : gRev (enc xs) = some (enc xs.reverse) := by
  show some (PyData.tuple (xs.map enc).reverse) = _
  rw [← List.map_reverse]
  rfl
@[simp] theorem gRev_pair {x y : D} : gRev (.tuple [x, y]) = some (.tuple [y, x]) := Eq.trans rfl rfl
end
theorem asI_enc : ∀ {xs : List Int}, asI (xs.map enc) = some xs
  | [] => rfl
  | x :: xs => by
    show (asI (xs.map enc)).map _ = _
    rw [asI_enc]; rfl
theorem asT_enc : ∀ {xs : List Bool}, asT (xs.map enc) = some xs
  | [] => rfl
  | x :: xs => by
    show (asT (xs.map enc)).map _ = _
    rw [asT_enc]; rfl
theorem gAll_enc {xs : List Bool} : gAll [.list (xs.map enc)] = some (.bool (xs.all id)) := by
  show (asT _).map _ = _
  rw [asT_enc]; rfl
theorem gAny_enc {xs : List Bool} : gAny [.list (xs.map enc)] = some (.bool (xs.any id)) := by
  show (asT _).map _ = _
  rw [asT_enc]; rfl
theorem gSum_enc {xs : List Int} : gSum [.list (xs.map enc)] = some (.int xs.sum) := by
  show (asI _).map _ = _
  rw [asI_enc]; rfl
@[simp] theorem gSum_encT {xs : List Int} : gSum [enc xs] = some (.int xs.sum) := gSum_enc
/-- the greatest item -/
def topL : List Int → Int
  | [] => 0
  | n :: r => topI n r
def lowL : List Int → Int
  | [] => 0
  | n :: r => lowI n r
theorem gMax_enc {xs : List Int} (h : 0 < xs.length) : gMax [.list (xs.map enc)] = some (.int (topL xs)) := by
  cases xs with
  | nil => exact absurd h (by decide)
  | cons n r =>
    show (asI ((n :: r).map enc)).bind _ = _
    rw [asI_enc]; rfl
theorem gMin_enc {xs : List Int} (h : 0 < xs.length) : gMin [.list (xs.map enc)] = some (.int (lowL xs)) := by
  cases xs with
  | nil => exact absurd h (by decide)
  | cons n r =>
    show (asI ((n :: r).map enc)).bind _ = _
    rw [asI_enc]; rfl
@[simp] theorem gMax_two {i j : Int} : gMax [.int i, .int j] = some (.int (if j > i then j else i)) := Eq.trans rfl rfl
@[simp] theorem gMin_two {i j : Int} : gMin [.int i, .int j] = some (.int (if j < i then j else i)) := Eq.trans rfl rfl

/-! ### ranges -/
def irange (a b : Int) : List Int := (List.range (b - a).toNat).map fun k => a + (k : Nat)
@[simp] theorem mem_irange {a b x : Int} : x ∈ irange a b ↔ a ≤ x ∧ x < b := by
  unfold irange
  rw [List.mem_map]
  constructor
  · rintro ⟨k, hk, rfl⟩
    have := List.mem_range.mp hk
    omega
  · intro h
    exact ⟨(x - a).toNat, List.mem_range.mpr (by omega), by omega⟩
@[simp] theorem irange_len {a b : Int} : (irange a b).length = (b - a).toNat := by
  unfold irange
  rw [List.length_map, List.length_range]
theorem rngD_irange {a : Int} {n : Nat} : rngD a n 1 = (irange a (a + n)).map enc := by
  unfold rngD irange
  rw [show (a + (n : Int) - a).toNat = n by omega, List.map_map]
  apply List.map_congr_left
  intro k _
  show PyData.int _ = PyData.int _
  rw [Int.mul_one]
theorem inR_18 {i : Int} (h : -1000000000000000000 ≤ i) (h2 : i ≤ 1000000000000000000) : inR i = true := by
  unfold inR
  have e : (2 : Int) ^ 62 = 4611686018427387904 := by decide +kernel
  rw [e, Bool.and_eq_true, decide_eq_true_eq, decide_eq_true_eq]
  omega
theorem rg1R_ok {j : Int} {s : Dr} (h : -16777216 ≤ j) (h2 : j ≤ 16777216) : rg1R [.int j] s = .ok ((irange 0 j).map enc, s) := by
  show (if (inR j && fitB j.toNat) = true then R.ok (rngD 0 j.toNat 1, s) else .stuck) = _
  rw [inR_18 (by omega) (by omega), if_pos (by rw [Bool.true_and, fitB_le']; omega), rngD_irange]
  unfold irange
  rw [show (0 + (j.toNat : Int) - 0).toNat = (j - 0).toNat by omega]
theorem rg2R_ok {i j : Int} {s : Dr} (h : -16777216 ≤ i) (h2 : i ≤ 8000000) (h3 : -16777216 ≤ j) (h4 : j ≤ 8000000) (h5 : j - i ≤ 16777216) : rg2R [.int i, .int j] s = .ok ((irange i j).map enc, s) := by
  show (if (inR i && inR j && fitB (j - i).toNat) = true then R.ok (rngD i (j - i).toNat 1, s) else .stuck) = _
  rw [inR_18 (by omega) (by omega), inR_18 (by omega) (by omega), if_pos (by rw [Bool.true_and, Bool.true_and, fitB_le']; omega), rngD_irange]
  unfold irange
  rw [show (i + ((j - i).toNat : Int) - i).toNat = (j - i).toNat by omega]
/-- each with its place -/
def enumL {α : Type} : Int → List α → List (Int × α)
  | _, [] => []
  | k, x :: xs => (k, x) :: enumL (k + 1) xs
theorem enumD_enc {α : Type} [Enc α] : ∀ {k : Nat} {xs : List α}, enumD k (xs.map enc) = (enumL (k : Int) xs).map enc
  | _, [] => rfl
  | k, x :: xs => by
    rw [List.map_cons, enumD, enumD_enc, enumL, List.map_cons]
    rfl
theorem enumD_enc0 {α : Type} [Enc α] {xs : List α} : enumD 0 (xs.map enc) = (enumL 0 xs).map enc := enumD_enc (k := 0)
theorem mem_enumL {α : Type} [Inhabited α] : ∀ {xs : List α} {k : Int} {p : Int × α}, p ∈ enumL k xs ↔ k ≤ p.1 ∧ p.1 < k + xs.length ∧ p.2 = nth xs (p.1 - k)
  | [], k, p => by
    simp only [enumL, List.length_nil]
    constructor
    · intro h; cases h
    · intro h; omega
  | x :: xs, k, (i, y) => by
    rw [enumL, List.mem_cons, mem_enumL, List.length_cons]
    constructor
    · rintro (h | h)
      · cases h
        refine ⟨Int.le_refl _, by omega, ?_⟩
        show x = nth (x :: xs) (k - k)
        rw [Int.sub_self]; rfl
      · obtain ⟨h1, h2, h3⟩ := h
        refine ⟨by omega, by omega, ?_⟩
        show y = _
        have h3 : y = _ := h3
        rw [h3]
        unfold nth
        have h1 : k + 1 ≤ i := h1
        rw [show (i - k).toNat = (i - (k + 1)).toNat + 1 by omega, List.getElem?_cons_succ]
    · rintro ⟨h1, h2, h3⟩
      have h1 : k ≤ i := h1
      have h2 : i < k + (xs.length + 1 : Nat) := h2
      have h3 : y = nth (x :: xs) (i - k) := h3
      by_cases h : i = k
      · subst h
        left
        rw [h3, Int.sub_self]; rfl
      · right
        refine ⟨by show k + 1 ≤ i; omega, by show i < _; omega, ?_⟩
        show y = _
        rw [h3]
        unfold nth
        rw [show (i - k).toNat = (i - (k + 1)).toNat + 1 by omega, List.getElem?_cons_succ]
theorem zipD2_enc {α β : Type} [Enc α] [Enc β] {xs : List α} {ys : List β} : zipD2 (xs.map enc) (ys.map enc) = (List.zip xs ys).map enc := by
  unfold zipD2
  rw [List.zipWith_map, List.zip, List.map_zipWith]
  rfl
theorem nth_map {α β : Type} [Inhabited α] [Inhabited β] {f : α → β} {xs : List α} {i : Int} (h : 0 ≤ i) (h2 : i < xs.length) : nth (xs.map f) i = f (nth xs i) := by
  have : i.toNat < xs.length := by omega
  unfold nth
  simp [this]
theorem nth_irange {a b i : Int} (h : 0 ≤ i) (h2 : i < b - a) : nth (irange a b) i = a + i := by
  have : i.toNat < (List.range (b - a).toNat).length := by rw [List.length_range]; omega
  unfold nth irange
  simp only [List.getElem?_map, List.getElem?_eq_getElem this, List.getElem_range, Option.map_some, Option.getD_some]
  omega
theorem nth_mem {α : Type} [Inhabited α] {xs : List α} {i : Int} (h : 0 ≤ i) (h2 : i < xs.length) : nth xs i ∈ xs := by
  have : i.toNat < xs.length := by omega
  unfold nth
  rw [List.getElem?_eq_getElem this]
  exact List.getElem_mem this
theorem mem_nth {α : Type} [Inhabited α] {xs : List α} {x : α} (h : x ∈ xs) : ∃ i : Int, 0 ≤ i ∧ i < xs.length ∧ x = nth xs i := by
  obtain ⟨i, hi, e⟩ := List.mem_iff_getElem.mp h
  refine ⟨i, by omega, by omega, ?_⟩
  unfold nth
  rw [Int.toNat_natCast, List.getElem?_eq_getElem hi]
  exact e.symm
theorem list_nth {α : Type} [Inhabited α] {xs : List α} : (irange 0 xs.length).map (nth xs) = xs := by
  apply List.ext_getElem?
  intro n
  unfold irange nth
  simp only [Int.sub_zero, Int.toNat_natCast, List.map_map, List.getElem?_map]
  by_cases h : n < xs.length
  · rw [List.getElem?_eq_getElem h, List.getElem?_eq_getElem (by rw [List.length_range]; exact h), List.getElem_range]
    simp [h]
  · have h2 : xs.length ≤ n := by omega
    simp [h2]
theorem ext_nth {α : Type} [Inhabited α] {xs ys : List α} (h : xs.length = ys.length) (h2 : ∀ i : Int, 0 ≤ i → i < xs.length → nth xs i = nth ys i) : xs = ys := by
  rw [← list_nth (xs := xs), ← list_nth (xs := ys), h]
  apply List.map_congr_left
  intro i hi
  obtain ⟨a, b⟩ := mem_irange.mp hi
  exact h2 i a (by omega)
theorem enumL_map {α : Type} [Inhabited α] {xs : List α} : enumL 0 xs = (irange 0 xs.length).map fun i => (i, nth xs i) := by
  have key : ∀ (xs : List α) (k : Int), enumL k xs = (irange 0 xs.length).map fun i => (k + i, nth xs i) := by
    intro xs
    induction xs with
    | nil => intro k; rfl
    | cons x xs ih =>
      intro k
      rw [enumL, ih]
      unfold irange nth
      simp only [Int.sub_zero, Int.toNat_natCast, List.length_cons, List.map_map, List.range_succ_eq_map, List.map_cons]
      congr 1
      · simp
      · apply List.map_congr_left
        intro i _
        simp only [Function.comp]
        rw [show ((0 : Int) + (i.succ : Nat)).toNat = i + 1 by omega, show ((0 : Int) + (i : Nat)).toNat = i by omega, List.getElem?_cons_succ]
        congr 1
        omega
  rw [key]
  simp

/-! ### values in a row, folded -/
def encs {α : Type} [Enc α] (xs : List α) : List D := xs.map enc
theorem encs_nil {α : Type} [Enc α] : encs ([] : List α) = [] := rfl
theorem encs_cons {α : Type} [Enc α] {x : α} {xs : List α} : encs (x :: xs) = enc x :: encs xs := rfl
@[simp] theorem encs_len {α : Type} [Enc α] {xs : List α} : (encs xs).length = xs.length := by
  unfold encs
  rw [List.length_map]
@[simp] theorem encs_emp {α : Type} [Enc α] {xs : List α} : (encs xs).isEmpty = xs.isEmpty := by cases xs <;> rfl
@[simp] theorem tup_encs {α : Type} [Enc α] {xs : List α} : PyData.tuple (encs xs) = enc xs := Eq.trans rfl rfl
@[simp] theorem gTru_enc {α : Type} [Enc α] {xs : List α} : gTru (enc xs) = some (!xs.isEmpty) := by cases xs <;> rfl
@[simp] theorem gTuple_enc_s {α : Type} [Enc α] {xs : List α} : gTuple [.list (encs xs)] = some (enc xs) := gTuple_enc 
@[simp] theorem gList_encT_s {α : Type} [Enc α] {xs : List α} : gList [enc xs] = some (.list (encs xs)) := gList_encT 
@[simp] theorem gLen_encL_s {α : Type} [Enc α] {xs : List α} : gLen [.list (encs xs)] = some (.int xs.length) := gLen_encL 
@[simp] theorem gSeq_enc_s {α : Type} [Enc α] {xs : List α} : gSeq (enc xs) = some (encs xs) := gSeq_enc 
@[simp] theorem gIx_encL_s {α : Type} [Enc α] [Inhabited α] {xs : List α} {i : Int} (h : 0 ≤ i) (h2 : i < xs.length) : gIx (.list (encs xs)) (.int i) = some (enc (nth xs i)) := gIx_encL h h2
@[simp] theorem gIx_last_s {α : Type} [Enc α] [Inhabited α] {xs : List α} (h : 0 < xs.length) : gIx (.list (encs xs)) (.int (-1)) = some (enc (nth xs (xs.length - 1 : Int))) := gIx_last h
@[simp] theorem gEq_encL_s {α : Type} [Enc α] [DecidableEq α] {a b : List α} (h : Enc.lv α ≤ 39) : gEq (.list (encs a)) (.list (encs b)) = some (.bool (decide (a = b))) := gEq_encL h
@[simp] theorem gIn_encL_s {α : Type} [Enc α] [DecidableEq α] {a : α} {xs : List α} {neg : Bool} (h : Enc.lv α ≤ 39) : gIn neg (enc a) (.list (encs xs)) = some (.bool (if neg = true then !decide (a ∈ xs) else decide (a ∈ xs))) := gIn_encL h
@[simp] theorem gIn_int_s {a : Int} {xs : List Int} {neg : Bool} : gIn neg (.int a) (.list (encs xs)) = some (.bool (if neg = true then !decide (a ∈ xs) else decide (a ∈ xs))) := gIn_int
@[simp] theorem fApp_enc_s {α : Type} [Enc α] {a : α} {xs : List α} (h : xs.length < 16777216) : fApp (enc a) (encs xs) = some (encs (xs ++ [a])) := fApp_enc h
@[simp] theorem fApp_int_s {a : Int} {xs : List Int} (h : xs.length < 16777216) : fApp (.int a) (encs xs) = some (encs (xs ++ [a])) := fApp_int h
@[simp] theorem fApp_pair_s {α β : Type} [Enc α] [Enc β] {a : α} {b : β} {xs : List (α × β)} (h : xs.length < 16777216) : fApp (.tuple [enc a, enc b]) (encs xs) = some (encs (xs ++ [(a, b)])) := fApp_pair h
@[simp] theorem gAdd_encL_s {α : Type} [Enc α] {xs ys : List α} (h : xs.length + ys.length ≤ 16777216) : gAdd (.list (encs xs)) (.list (encs ys)) = some (.list (encs (xs ++ ys))) := gAdd_encL h
@[simp] theorem asI_enc_s : ∀ {xs : List Int}, asI (encs xs) = some xs := asI_enc 
@[simp] theorem asT_enc_s : ∀ {xs : List Bool}, asT (encs xs) = some xs := asT_enc 
@[simp] theorem gAll_enc_s {xs : List Bool} : gAll [.list (encs xs)] = some (.bool (xs.all id)) := gAll_enc 
@[simp] theorem gAny_enc_s {xs : List Bool} : gAny [.list (encs xs)] = some (.bool (xs.any id)) := gAny_enc 
@[simp] theorem gSum_enc_s {xs : List Int} : gSum [.list (encs xs)] = some (.int xs.sum) := gSum_enc 
@[simp] theorem gMax_enc_s {xs : List Int} (h : 0 < xs.length) : gMax [.list (encs xs)] = some (.int (topL xs)) := gMax_enc h
@[simp] theorem gMin_enc_s {xs : List Int} (h : 0 < xs.length) : gMin [.list (encs xs)] = some (.int (lowL xs)) := gMin_enc h
@[simp] theorem rg1R_ok_s {j : Int} {s : Dr} (h : -16777216 ≤ j) (h2 : j ≤ 16777216) : rg1R [.int j] s = .ok (encs (irange 0 j), s) := rg1R_ok h h2
@[simp] theorem rg2R_ok_s {i j : Int} {s : Dr} (h : -16777216 ≤ i) (h2 : i ≤ 8000000) (h3 : -16777216 ≤ j) (h4 : j ≤ 8000000) (h5 : j - i ≤ 16777216) : rg2R [.int i, .int j] s = .ok (encs (irange i j), s) := rg2R_ok h h2 h3 h4 h5
@[simp] theorem enumD_enc0_s {α : Type} [Enc α] {xs : List α} : enumD 0 (encs xs) = encs (enumL 0 xs) := enumD_enc0
@[simp] theorem zipD2_enc_s {α β : Type} [Enc α] [Enc β] {xs : List α} {ys : List β} : zipD2 (encs xs) (encs ys) = encs (List.zip xs ys) := zipD2_enc
@[simp] theorem gIn_2 {a b c : Int} {neg : Bool} : gIn neg (.int a) (.tuple [.int b, .int c]) = some (.bool (if neg = true then !decide (a = b ∨ a = c) else decide (a = b ∨ a = c))) := by
  have := gIn_intT (a := a) (xs := [b, c]) (neg := neg)
  simp only [List.mem_cons, List.not_mem_nil, or_false] at this
  exact this
@[simp] theorem gIn_3 {a b c d : Int} {neg : Bool} : gIn neg (.int a) (.tuple [.int b, .int c, .int d]) = some (.bool (if neg = true then !decide (a = b ∨ a = c ∨ a = d) else decide (a = b ∨ a = c ∨ a = d))) := by
  have := gIn_intT (a := a) (xs := [b, c, d]) (neg := neg)
  simp only [List.mem_cons, List.not_mem_nil, or_false] at this
  exact this
@[simp] theorem gIn_4 {a b c d e : Int} {neg : Bool} : gIn neg (.int a) (.tuple [.int b, .int c, .int d, .int e]) = some (.bool (if neg = true then !decide (a = b ∨ a = c ∨ a = d ∨ a = e) else decide (a = b ∨ a = c ∨ a = d ∨ a = e))) := by
  have := gIn_intT (a := a) (xs := [b, c, d, e]) (neg := neg)
  simp only [List.mem_cons, List.not_mem_nil, or_false] at this
  exact this
/-! ### comprehensions, loops -/
section
variable {α β : Type} [Enc α] [Enc β] {t : Tg} {own : List Nat} {fi : Ev (List D)} {ft : Ev Bool} {fe : Ev D} {env : En} {s s1 : Dr}
theorem Wp.ofO_bnd {α β : Type} {o : Option α} {f : Ct α (β × Dr)} {Q : β → Dr → Prop} (h : Wp (@bnd _ _ (R.ofO o) f) Q) : ∃ a, o = some a ∧ Wp (f.run a) Q := by
  cases o with
  | none => obtain ⟨_, _, h, _⟩ := h; cases h
  | some a => exact ⟨a, rfl, h⟩
theorem Wp.bnd_inv {α β : Type} {r : R (α × Dr)} {f : Ct (α × Dr) (β × Dr)} {Q : β → Dr → Prop} (h : Wp (@bnd _ _ r f) Q) : ∃ a s, r = .ok (a, s) ∧ Wp (f.run (a, s)) Q := by
  cases r with
  | ok p => exact ⟨p.1, p.2, rfl, h⟩
  | err c => obtain ⟨_, _, h, _⟩ := h; cases h
  | stuck => obtain ⟨_, _, h, _⟩ := h; cases h
/-- a comprehension that draws nothing -/
theorem lc_enc {γ : Type} {K : Ct (D × Dr) (γ × Dr)} {Q : γ → Dr → Prop} (items : List α) (q : α → Bool) (f : α → β) (hi : fi env s = .ok (encs items, s1)) (hb : ∀ x ∈ items, Wp (bnd (R.ofO (bindT t (enc x) (wipeE env own))) (f := ⟨fun env2 => bnd (ft env2 s1) (f := ⟨fun p => .ok ((env2, p.1), p.2)⟩)⟩)) fun r s' => r.2 = q x ∧ s' = s1 ∧ (q x = true → Wp (fe r.1 s1) fun d s' => d = enc (f x) ∧ s' = s1)) (h : Wp (K.run (.list (encs ((items.filter q).map f)), s1)) Q) : Wp (@bnd _ _ (evLc fi t own ft fe env s) K) Q := by
  refine Wp.of ?_ h
  have e : evLc fi t own ft fe env s = .ok (.list (encs ((items.filter q).map f)), s1) := by
    unfold evLc
    rw [hi, R.bnd_ok]
    unfold encs
    have key : ∀ items : List α, (∀ x ∈ items, Wp (bnd (R.ofO (bindT t (enc x) (wipeE env own))) (f := ⟨fun env2 => bnd (ft env2 s1) (f := ⟨fun p => .ok ((env2, p.1), p.2)⟩)⟩)) fun r s' => r.2 = q x ∧ s' = s1 ∧ (q x = true → Wp (fe r.1 s1) fun d s' => d = enc (f x) ∧ s' = s1)) → lcLoop t own ft fe env (items.map enc) s1 = .ok (((items.filter q).map f).map enc, s1) := by
      intro items
      induction items with
      | nil => intro _; rfl
      | cons x xs ih =>
        intro hb
        obtain ⟨env2, h1, h2⟩ := Wp.ofO_bnd (hb x (List.mem_cons_self ..))
        obtain ⟨b, s2, h2, h3⟩ := Wp.bnd_inv h2
        obtain ⟨r, s3, h4, h5, h6, h7⟩ := h3
        cases h4
        subst h6
        have h5 : b = q x := h5
        subst h5
        have ih := ih fun y hy => hb y (List.mem_cons_of_mem _ hy)
        rw [List.map_cons, lcLoop, h1]
        cases hq : q x with
        | false =>
          simp only [R.ofO, R.bind, h2, R.calm, hq, List.filter_cons, ih]
          rfl
        | true =>
          simp only [R.ofO, R.bind, h2, R.calm, hq, Wp.eq (h7 hq), List.filter_cons, ih]
          rfl
    show (lcLoop t own ft fe env (items.map enc) s1).bind _ = _
    rw [key items hb]
    rfl
  rw [e]
  rfl
/-- .. that filters nothing -/
theorem lc_all {γ : Type} {K : Ct (D × Dr) (γ × Dr)} {Q : γ → Dr → Prop} (items : List α) (f : α → β) (hi : fi env s = .ok (encs items, s1)) (hb : ∀ x ∈ items, Wp (bnd (R.ofO (bindT t (enc x) (wipeE env own))) (f := ⟨fun env2 => bnd (ft env2 s1) (f := ⟨fun p => .ok ((env2, p.1), p.2)⟩)⟩)) fun r s' => r.2 = true ∧ s' = s1 ∧ Wp (fe r.1 s1) fun d s' => d = enc (f x) ∧ s' = s1) (h : Wp (K.run (.list (encs (items.map f)), s1)) Q) : Wp (@bnd _ _ (evLc fi t own ft fe env s) K) Q := by
  refine lc_enc items (fun _ => true) f hi (fun x hx => ?_) ?_
  · obtain ⟨r, s', h1, h2, h3, h4⟩ := hb x hx
    exact ⟨r, s', h1, h2, h3, fun _ => h4⟩
  · rw [List.filter_eq_self.mpr fun _ _ => rfl]
    exact h
/-- a comprehension of draws -/
theorem lc_draws {γ : Type} {K : Ct (D × Dr) (γ × Dr)} {Q : γ → Dr → Prop} (items : List α) (P : β → Prop) (hs : DrOk s1) (hi : fi env s = .ok (encs items, s1)) (hb : ∀ x ∈ items, ∀ s, DrOk s → Wp (bnd (R.ofO (bindT t (enc x) (wipeE env own))) (f := ⟨fun env2 => bnd (ft env2 s) (f := ⟨fun p => .ok ((env2, p.1), p.2)⟩)⟩)) fun r s' => r.2 = true ∧ s' = s ∧ Wp (fe r.1 s) fun d s' => ∃ y : β, d = enc y ∧ P y ∧ DrOk s')
    (h : ∀ (ys : List β) s', ys.length = items.length → (∀ y ∈ ys, P y) → DrOk s' → Wp (K.run (.list (encs ys), s')) Q) : Wp (@bnd _ _ (evLc fi t own ft fe env s) K) Q := by
  have key : ∀ (items : List α) (s1 : Dr), DrOk s1 → (∀ x ∈ items, ∀ s, DrOk s → Wp (bnd (R.ofO (bindT t (enc x) (wipeE env own))) (f := ⟨fun env2 => bnd (ft env2 s) (f := ⟨fun p => .ok ((env2, p.1), p.2)⟩)⟩)) fun r s' => r.2 = true ∧ s' = s ∧ Wp (fe r.1 s) fun d s' => ∃ y : β, d = enc y ∧ P y ∧ DrOk s') →
      ∃ (ys : List β) (s' : Dr), lcLoop t own ft fe env (items.map enc) s1 = .ok (ys.map enc, s') ∧ ys.length = items.length ∧ (∀ y ∈ ys, P y) ∧ DrOk s' := by
    intro items
    induction items with
    | nil => exact fun s1 hs _ => ⟨[], s1, rfl, rfl, (fun _ h => nomatch h), hs⟩
    | cons x xs ih =>
      intro s1 hs hb
      obtain ⟨env2, h1, h2⟩ := Wp.ofO_bnd (hb x (List.mem_cons_self ..) s1 hs)
      obtain ⟨b, s2, h2, h3⟩ := Wp.bnd_inv h2
      obtain ⟨r, s3, h4, h5, h6, h7⟩ := h3
      cases h4
      subst h6
      have h5 : b = true := h5
      subst h5
      obtain ⟨d, s4, h8, y, rfl, h9, h10⟩ := h7
      obtain ⟨ys, s5, i1, i2, i3, i4⟩ := ih s4 h10 fun y hy => hb y (List.mem_cons_of_mem _ hy)
      have h8 : fe env2 s2 = .ok (enc y, s4) := h8
      refine ⟨y :: ys, s5, ?_, by rw [List.length_cons, List.length_cons, i2], fun e he => ?_, i4⟩
      · rw [List.map_cons, lcLoop, h1]
        simp only [R.ofO, R.bind, h2, R.calm, h8, i1, if_true]
        rfl
      · rcases List.mem_cons.mp he with rfl | he
        · exact h9
        · exact i3 _ he
  obtain ⟨ys, s', e1, e2, e3, e4⟩ := key items s1 hs hb
  refine Wp.of ?_ (h ys s' e2 e3 e4)
  unfold evLc
  rw [hi, R.bnd_ok]
  show ((lcLoop t own ft fe env (items.map enc) s1).bind _).bind K.run = _
  rw [e1]
  rfl
/-- a for by an invariant over what is behind and what is ahead -/
theorem for_inv {γ : Type} [Enc γ] {f : Sf} {nl : List Nat} {k : Kn} {Q : D → Dr → Prop} {items : List γ} (I : List γ → List γ → En → Dr → Prop) (h0 : I [] items env s)
    (step : ∀ pre x post env s (kk kb : Kn), items = pre ++ x :: post → I pre (x :: post) env s → (∀ env' s', I (pre ++ [x]) post env' s' → Wp (kk env' s') Q) → (∀ env' s', kb env' s' = k (lockE false nl env') s') → Wp (bnd (R.ofO (bindT t (enc x) env)) (f := ⟨fun env1 => f kk kb kk env1 s⟩)) Q)
    (hend : ∀ env s, I items [] env s → Wp (k (lockE false nl env) s) Q) : Wp (forL t f nl k (encs items) env s) Q := by
  have key : ∀ (post pre : List γ) (env : En) (s : Dr), items = pre ++ post → I pre post env s → Wp (forL t f nl k (post.map enc) env s) Q := by
    intro post
    induction post with
    | nil =>
      intro pre env s e h
      rw [List.append_nil] at e
      subst e
      exact hend env s h
    | cons x post ih =>
      intro pre env s e h
      rw [List.map_cons, forL]
      exact step pre x post env s (forL t f nl k (post.map enc)) (fun env s => k (lockE false nl env) s) e h (fun env' s' h' => ih (pre ++ [x]) env' s' (by rw [e, List.append_assoc]; rfl) h') (fun _ _ => rfl)
  exact key items [] env s rfl h0
end
/-- a while by an invariant and a number that falls -/
theorem while_inv {fc : Ev Bool} {f : Sf} {k : Kn} {env : En} {s : Dr} {Q : D → Dr → Prop} {N : Nat} (I : Nat → En → Dr → Prop) {n0 : Nat} (h0 : I n0 env s) (hN : n0 < N)
    (step : ∀ n env s (kk : Kn), I n env s → (∀ m env' s', m < n → I m env' s' → Wp (kk env' s') Q) → Wp (bnd (fc env s) (f := ⟨fun p => iteR p.1 (b := ⟨fun _ => f kk k kk env p.2, fun _ => k env p.2⟩)⟩)) Q) : Wp (whileF fc f k N env s) Q := by
  have key : ∀ (N n : Nat) (env : En) (s : Dr), n < N → I n env s → Wp (whileF fc f k N env s) Q := by
    intro N
    induction N with
    | zero => intro n env s h; omega
    | succ N ih =>
      intro n env s h hi
      rw [whileF]
      exact step n env s (whileF fc f k N) hi fun m env' s' hm h' => ih m env' s' (by omega) h'
  exact key N n0 env s hN h0
/-! ### draws -/
theorem Took.wp {m : Int} {r : R (D × Dr)} (h : Took m r) : Wp r fun d s' => ∃ t : Int, d = .int t ∧ 0 ≤ t ∧ t < m ∧ DrOk s' := by
  obtain ⟨t, s', e, h1, h2, h3⟩ := h
  exact ⟨_, s', e, t, rfl, h1, h2, h3⟩
/-- one draw, and on -/
theorem wp_took {γ : Type} {m : Int} {r : R (D × Dr)} {K : Ct (D × Dr) (γ × Dr)} {Q : γ → Dr → Prop} (h : Took m r) (h2 : ∀ (t : Int) s', 0 ≤ t → t < m → DrOk s' → Wp (K.run (.int t, s')) Q) : Wp (@bnd _ _ r K) Q := by
  obtain ⟨t, s', rfl, a, b, c⟩ := h
  exact h2 t s' a b c
@[simp] theorem callR_drw1 {F : Fn} {x : D} {s : Dr} : callR 2 F ([.drw, .val x], s) = F [.drw, .val x] s := Eq.trans rfl rfl
@[simp] theorem callR_0 {F : Fn} {s : Dr} : callR 0 F ([], s) = bnd (F [] s) (f := ⟨fun q => .ok (q.1, s)⟩) := Eq.trans rfl rfl
@[simp] theorem callR_1 {F : Fn} {a : D} {s : Dr} : callR 1 F ([.val a], s) = bnd (F [.val a] s) (f := ⟨fun q => .ok (q.1, s)⟩) := Eq.trans rfl rfl
@[simp] theorem callR_2 {F : Fn} {a b : D} {s : Dr} : callR 2 F ([.val a, .val b], s) = bnd (F [.val a, .val b] s) (f := ⟨fun q => .ok (q.1, s)⟩) := Eq.trans rfl rfl
@[simp] theorem callR_3 {F : Fn} {a b c : D} {s : Dr} : callR 3 F ([.val a, .val b, .val c], s) = bnd (F [.val a, .val b, .val c] s) (f := ⟨fun q => .ok (q.1, s)⟩) := Eq.trans rfl rfl
@[simp] theorem callR_4 {F : Fn} {a b c d : D} {s : Dr} : callR 4 F ([.val a, .val b, .val c, .val d], s) = bnd (F [.val a, .val b, .val c, .val d] s) (f := ⟨fun q => .ok (q.1, s)⟩) := Eq.trans rfl rfl
@[simp] theorem callR_5 {F : Fn} {a b c d e : D} {s : Dr} : callR 5 F ([.val a, .val b, .val c, .val d, .val e], s) = bnd (F [.val a, .val b, .val c, .val d, .val e] s) (f := ⟨fun q => .ok (q.1, s)⟩) := Eq.trans rfl rfl
@[simp] theorem callR_drw2 {F : Fn} {a b : D} {s : Dr} : callR 3 F ([.drw, .val a, .val b], s) = F [.drw, .val a, .val b] s := Eq.trans rfl rfl
@[simp] theorem callR_drw3 {F : Fn} {a b c : D} {s : Dr} : callR 4 F ([.drw, .val a, .val b, .val c], s) = F [.drw, .val a, .val b, .val c] s := Eq.trans rfl rfl
@[simp] theorem callR_drw4 {F : Fn} {a b c d : D} {s : Dr} : callR 5 F ([.drw, .val a, .val b, .val c, .val d], s) = F [.drw, .val a, .val b, .val c, .val d] s := Eq.trans rfl rfl
@[simp] theorem callR_drw0 {F : Fn} {s : Dr} : callR 1 F ([.drw], s) = F [.drw] s := Eq.trans rfl rfl
end L2.DL

set_option Elab.async false
set_option linter.all false
set_option maxRecDepth 100000
set_option maxHeartbeats 4000000
/-! D layer 31: more of plain values. -/
namespace L2.DL
open PySem PySem.Spec PyProof.Rows
open Enc (enc)
variable [TabL]
/-- three together -/
structure T3 (α β γ : Type) where
  a : α
  b : β
  c : γ
  deriving DecidableEq
instance {α β γ : Type} [Enc α] [Enc β] [Enc γ] : Enc (T3 α β γ) where
  enc p := .tuple [enc p.a, enc p.b, enc p.c]
  lv := max (Enc.lv α) (max (Enc.lv β) (Enc.lv γ)) + 1
  dp a n h := by
    cases n with
    | zero => omega
    | succ n =>
      rw [dep, List.all_cons, List.all_cons, List.all_cons, List.all_nil, Enc.dp a.a n (by omega), Enc.dp a.b n (by omega), Enc.dp a.c n (by omega)]
      rfl
  eqv a b := by
    rw [PyData.eqv, PyData.eqvAll, PyData.eqvAll, PyData.eqvAll, PyData.eqvAll, Bool.and_true, Bool.and_eq_true, Bool.and_eq_true, Enc.eqv, Enc.eqv, Enc.eqv]
    cases a; cases b
    simp
  nn a := by rw [PyData.eqv]
  nn2 a := by rw [PyData.eqv]
section
variable {α β γ : Type} [Enc α] [Enc β] [Enc γ]
@[simp] theorem enc_t3 {a : α} {b : β} {c : γ} : enc (T3.mk a b c) = .tuple [enc a, enc b, enc c] := Eq.trans rfl rfl
@[simp] theorem bindT_t3 {t : Tg} {p : T3 α β γ} {env : En} : bindT (.tup t) (enc p) env = bindTs t [enc p.a, enc p.b, enc p.c] env := by
  show bindT (.tup t) (.tuple [enc p.a, enc p.b, enc p.c]) env = _
  rw [bindT_tup]
def zip3L (xs : List α) (ys : List β) (zs : List γ) : List (T3 α β γ) := List.zipWith (fun x p => ⟨x, p.1, p.2⟩) xs (List.zip ys zs)
@[simp] theorem zipD3_enc {xs : List α} {ys : List β} {zs : List γ} : zipD3 (encs xs) (encs ys) (encs zs) = encs (zip3L xs ys zs) := by
  unfold zipD3 encs zip3L
  rw [List.zip, List.zipWith_map, List.zipWith_map_left, List.map_zipWith, List.zip]
  rw [← List.map_uncurry_zip_eq_zipWith, ← List.map_uncurry_zip_eq_zipWith, ← List.map_uncurry_zip_eq_zipWith]
  rw [← List.map_uncurry_zip_eq_zipWith]
  rw [List.zip_map_right, List.zip_map_right, List.map_map, List.map_map]
  rfl
@[simp] theorem gLen_pair {p : α × β} : gLen [enc p] = some (.int 2) := Eq.trans rfl rfl
@[simp] theorem gLen_t2 {x y : D} : gLen [.tuple [x, y]] = some (.int 2) := Eq.trans rfl rfl
@[simp] theorem gSeq_pair {p : α × α} : gSeq (enc p) = some (encs [p.1, p.2]) := Eq.trans rfl rfl
@[simp] theorem all_true {xs : List α} : (xs.all fun _ => true) = true := by
  rw [List.all_eq_true]; exact fun _ _ => rfl
@[simp] theorem any_false {xs : List α} : (xs.any fun _ => false) = false := by
  rw [List.any_eq_false]; exact fun _ _ h => nomatch h
@[simp] theorem gSl_last {xs : List α} : gSl (enc xs) none (some (-1)) = some (enc xs.dropLast) := by
  show some (PyData.tuple (cutD (xs.map enc) none (some (-1)))) = _
  rw [cut_enc]
  have e : HT.sIx xs.length xs.length (some (-1)) = xs.length - 1 := by
    show (if (-1 : Int) < 0 then ((-1 : Int) + (xs.length : Int)).toNat else min (-1 : Int).toNat xs.length) = _
    rw [if_pos (by decide)]
    omega
  rw [e, HT.sIx_none, List.drop_zero, Nat.sub_zero, ← List.dropLast_eq_take]
  rfl
@[simp] theorem gSl_lastL {xs : List α} : gSl (.list (encs xs)) none (some (-1)) = some (.list (encs xs.dropLast)) := by
  have h := gSl_last (xs := xs)
  have e : gSl (.list (encs xs)) none (some (-1)) = some (.list (cutD (encs xs) none (some (-1)))) := rfl
  have e2 : gSl (enc xs) none (some (-1)) = some (.tuple (cutD (encs xs) none (some (-1)))) := rfl
  rw [e2] at h
  have h3 : PyData.tuple (cutD (encs xs) none (some (-1))) = PyData.tuple (encs xs.dropLast) := Option.some.inj h
  rw [e, PyData.tuple.inj h3]
end
/-- one of two -/
def pick {α : Type} (p : α × α) (b : Int) : α := if b = 0 then p.1 else p.2
theorem gIx_pick {α : Type} [Enc α] {p : α × α} {b : Int} (h : b = 0 ∨ b = 1) : gIx (enc p) (.int b) = some (enc (pick p b)) := by
  rcases h with rfl | rfl <;> rfl
@[simp] theorem gMul_one {xs : List D} : gMul (.tuple xs) (.int 1) = some (.tuple xs) := Eq.trans rfl rfl
theorem gMul_rep {α : Type} [Enc α] {xs : List α} {k : Int} (h : 0 < xs.length) (h1 : 1 ≤ k) (h2 : k ≤ 1000) (h3 : xs.length ≤ 1000) : gMul (enc xs) (.int k) = some (enc (List.replicate k.toNat xs).flatten) := by
  show (if decide (k = 1) = true then some (PyData.tuple (xs.map enc)) else if (!(xs.map enc).isEmpty && decide (2 ≤ k) && decide (k ≤ 1000) && Nat.ble (xs.map enc).length 1000) = true then some (.tuple (List.replicate k.toNat (xs.map enc)).flatten) else none) = _
  by_cases e : k = 1
  · subst e
    rw [if_pos (by decide)]
    show _ = some (enc ([xs].flatten))
    rw [List.flatten_cons, List.flatten_nil, List.append_nil]
    rfl
  · rw [if_neg (by rw [decide_eq_true_eq]; exact e)]
    have e1 : (xs.map enc).isEmpty = false := by
      cases xs with
      | nil => cases h
      | cons => rfl
    rw [e1, decide_eq_true (show 2 ≤ k by omega), decide_eq_true h2, List.length_map, if_pos (by rw [Bool.not_false, Bool.true_and, Bool.true_and, Bool.true_and, Nat.ble_eq]; exact h3)]
    show some (PyData.tuple _) = some (PyData.tuple _)
    congr 2
    rw [List.map_flatten, List.map_replicate]
@[simp] theorem forL_nil {t : Tg} {f : Sf} {nl : List Nat} {k : Kn} {env : En} {s : Dr} : forL t f nl k [] env s = k (lockE false nl env) s := Eq.trans rfl rfl
theorem forL_cons {t : Tg} {f : Sf} {nl : List Nat} {k : Kn} {x : D} {xs : List D} {env : En} {s : Dr} : forL t f nl k (x :: xs) env s = bnd (R.ofO (bindT t x env)) (f := ⟨fun env' => f (forL t f nl k xs) (fun env s => k (lockE false nl env) s) (forL t f nl k xs) env' s⟩) := Eq.trans rfl rfl
theorem irange_cons {a b : Int} (h : a < b) : irange a b = a :: irange (a + 1) b := by
  unfold irange
  rw [show (b - a).toNat = (b - (a + 1)).toNat + 1 by omega, List.range_succ_eq_map, List.map_cons, List.map_map]
  congr 1
  · simp
  · apply List.map_congr_left
    intro k _
    show a + ((k + 1 : Nat) : Int) = a + 1 + (k : Int)
    omega
theorem irange_split {a b c : Int} (h : a ≤ b) (h2 : b ≤ c) : irange a c = irange a b ++ irange b c := by
  unfold irange
  rw [show (c - a).toNat = (b - a).toNat + (c - b).toNat by omega, List.range_add, List.map_append, List.map_map]
  congr 1
  apply List.map_congr_left
  intro k _
  show a + (((b - a).toNat + k : Nat) : Int) = b + k
  omega
theorem irange_nil {a b : Int} (h : b ≤ a) : irange a b = [] := by
  unfold irange
  rw [show (b - a).toNat = 0 by omega]
  rfl
theorem irange_snoc {a b : Int} (h : a ≤ b) : irange a (b + 1) = irange a b ++ [b] := by
  unfold irange
  rw [show (b + 1 - a).toNat = (b - a).toNat + 1 by omega, List.range_succ, List.map_append]
  congr 1
  show [a + ((b - a).toNat : Int)] = [b]
  congr 1
  omega
/-- the split of a range, its item -/
theorem irange_at {a b x : Int} {pre post : List Int} (h : irange a b = pre ++ x :: post) : x = a + pre.length ∧ a ≤ x ∧ x < b ∧ (pre.length : Int) + post.length + 1 = b - a := by
  have hl : (irange a b).length = pre.length + (post.length + 1) := by rw [h, List.length_append, List.length_cons]
  rw [irange_len] at hl
  have hx : x = a + pre.length := by
    have e : (irange a b)[pre.length]? = some x := by rw [h]; simp
    unfold irange at e
    rw [List.getElem?_map] at e
    have hlt : pre.length < (List.range (b - a).toNat).length := by rw [List.length_range]; omega
    rw [List.getElem?_eq_getElem hlt, List.getElem_range] at e
    exact (Option.some.inj e).symm
  refine ⟨hx, by omega, by omega, by omega⟩
theorem nth_append_l {α : Type} [Inhabited α] {xs ys : List α} {i : Int} (h : i.toNat < xs.length) : nth (xs ++ ys) i = nth xs i := by
  unfold nth
  rw [List.getElem?_append_left h]
theorem nth_last {α : Type} [Inhabited α] {xs : List α} {x : α} {i : Int} (h : i = xs.length) : nth (xs ++ [x]) i = x := by
  subst h
  unfold nth
  simp
theorem nth_split {α : Type} [Inhabited α] {xs ys : List α} {x : α} {i : Int} (h : i = xs.length) : nth (xs ++ x :: ys) i = x := by
  subst h
  unfold nth
  simp
theorem enumL_at {α : Type} [Inhabited α] {xs : List α} {p : Int × α} {pre post : List (Int × α)} (h : enumL 0 xs = pre ++ p :: post) : p.1 = pre.length ∧ p.1 < xs.length ∧ p.2 = nth xs p.1 ∧ (pre.length : Int) + post.length + 1 = xs.length := by
  rw [enumL_map] at h
  have hl : (irange 0 xs.length).length = pre.length + (post.length + 1) := by
    have := congrArg List.length h
    rw [List.length_map, List.length_append, List.length_cons] at this
    exact this
  rw [irange_len] at hl
  have e : ((irange 0 xs.length).map fun i => (i, nth xs i))[pre.length]? = some p := by rw [h]; simp
  unfold irange at e
  rw [List.map_map, List.getElem?_map] at e
  have hlt : pre.length < (List.range ((xs.length : Int) - 0).toNat).length := by rw [List.length_range]; omega
  rw [List.getElem?_eq_getElem hlt, List.getElem_range] at e
  have e := Option.some.inj e
  subst e
  refine ⟨?_, ?_, ?_, by omega⟩
  · show (0 : Int) + (pre.length : Int) = _; omega
  · show (0 : Int) + (pre.length : Int) < _; omega
  · rfl
theorem zip_nth {α β : Type} [Inhabited α] [Inhabited β] {xs : List α} {ys : List β} (h : xs.length = ys.length) : List.zip xs ys = (irange 0 xs.length).map fun i => (nth xs i, nth ys i) := by
  apply ext_nth
  · rw [List.length_zip, List.length_map, irange_len]; omega
  · intro i h0 h1
    rw [List.length_zip] at h1
    rw [nth_map h0 (by rw [irange_len]; omega), nth_irange h0 (by omega)]
    have a : i.toNat < xs.length := by omega
    have b : i.toNat < ys.length := by omega
    unfold nth
    rw [List.getElem?_eq_getElem (by rw [List.length_zip]; omega), List.getElem_zip, Int.zero_add, List.getElem?_eq_getElem a, List.getElem?_eq_getElem b]
    rfl
theorem zip3_nth {α β γ : Type} [Inhabited α] [Inhabited β] [Inhabited γ] {xs : List α} {ys : List β} {zs : List γ} (h : xs.length = ys.length) (h2 : xs.length = zs.length) : zip3L xs ys zs = (irange 0 xs.length).map fun i => ⟨nth xs i, nth ys i, nth zs i⟩ := by
  unfold zip3L
  rw [zip_nth (by omega : ys.length = zs.length)]
  conv => lhs; arg 2; rw [← list_nth (xs := xs)]
  rw [← h, List.zipWith_map, List.zipWith_self]
@[simp] theorem gNe_bl {a b : Bool} : gNe (.bool a) (.bool b) = some (.bool (!decide (a = b))) := gNe_enc (α := Bool) (Nat.zero_le _)
@[simp] theorem gEq_bl {a b : Bool} : gEq (.bool a) (.bool b) = some (.bool (decide (a = b))) := gEq_enc (α := Bool) (Nat.zero_le _)
@[simp] theorem gNe_non : gNe .none .none = some (.bool false) := gNe_encO (α := Int) (a := none) (b := none) (Nat.zero_le _)
@[simp] theorem gEq_non : gEq .none .none = some (.bool true) := gEq_encO (α := Int) (a := none) (b := none) (Nat.zero_le _)
@[simp] theorem fApp_ii {a b : Int} {xs : List (Int × Int)} (h : xs.length < 16777216) : fApp (.tuple [.int a, .int b]) (encs xs) = some (encs (xs ++ [(a, b)])) := fApp_enc (a := (a, b)) h
@[simp] theorem gEq_ii {a b c d : Int} : gEq (.tuple [.int a, .int b]) (.tuple [.int c, .int d]) = some (.bool (decide ((a, b) = (c, d)))) := gEq_enc (a := (a, b)) (b := (c, d)) (Nat.le_of_ble_eq_true rfl)
@[simp] theorem gNe_ii {a b c d : Int} : gNe (.tuple [.int a, .int b]) (.tuple [.int c, .int d]) = some (.bool (!decide ((a, b) = (c, d)))) := gNe_enc (a := (a, b)) (b := (c, d)) (Nat.le_of_ble_eq_true rfl)
@[simp] theorem gIn_ii {a b : Int} {xs : List (Int × Int)} {neg : Bool} : gIn neg (.tuple [.int a, .int b]) (.list (encs xs)) = some (.bool (if neg = true then !decide ((a, b) ∈ xs) else decide ((a, b) ∈ xs))) := by
  refine (gIn_encL (a := (a, b)) (xs := xs) (neg := neg) (Nat.le_of_ble_eq_true rfl)).trans ?_
  cases neg <;> simp
theorem shaped_encs {xs : List Int} : SeqAt.shaped (.list (encs xs)) = true := by
  unfold encs
  induction xs with
  | nil => rfl
  | cons x xs ih => exact ih
theorem gIndex_int {xs : List Int} {a : Int} (h : a ∈ xs) : gIndex (encs xs) (.int a) = some (.int (xs.idxOf a : Int)) := by
  unfold gIndex
  rw [shaped_encs]
  have : ∀ xs : List Int, a ∈ xs → (encs xs).findIdx? (fun z => PyData.eqv z (.int a)) = some (xs.idxOf a) := by
    intro xs
    induction xs with
    | nil => intro h; cases h
    | cons x xs ih =>
      intro h
      rw [encs_cons, List.findIdx?_cons]
      have e : PyData.eqv (enc x) (.int a) = decide (x = a) := eqv_bool (a := x) (b := a)
      rw [e, List.idxOf_cons]
      by_cases hx : x = a
      · subst hx; simp
      · have : a ∈ xs := by
          rcases List.mem_cons.mp h with h | h
          · exact absurd h.symm hx
          · exact h
        rw [ih this, decide_eq_false hx]
        have : (x == a) = false := beq_eq_false_iff_ne.mpr hx
        rw [this]
        simp
  rw [this xs h]
  rfl
theorem length_flatMap_le {α β : Type} {f : α → List β} {c : Nat} : ∀ {l : List α}, (∀ x ∈ l, (f x).length ≤ c) → (l.flatMap f).length ≤ l.length * c
  | [], _ => Nat.zero_le _
  | x :: l, h => by
    rw [List.flatMap_cons, List.length_append, List.length_cons, Nat.succ_mul]
    have := h x (List.mem_cons_self ..)
    have := length_flatMap_le (f := f) (c := c) (l := l) fun y hy => h y (List.mem_cons_of_mem _ hy)
    omega
/-- once or not at all -/
def once {α : Type} (a : Int) (p : α) : List α := if a = 0 then [] else [p]
theorem once_len {α : Type} {a : Int} {p : α} : (once a p).length ≤ 1 := by
  unfold once
  split
  · exact Nat.zero_le _
  · exact Nat.le_refl _
theorem mem_once {α : Type} {a : Int} {p x : α} (h : x ∈ once a p) : x = p := by
  unfold once at h
  split at h
  · cases h
  · exact List.mem_singleton.mp h
theorem gMul_once {α β : Type} [Enc α] [Enc β] {x : α} {y : β} {a : Int} (h : a = 0 ∨ a = 1) : gMul (.list [.tuple [enc x, enc y]]) (.int a) = some (.list (encs (once a (x, y)))) := by
  rcases h with rfl | rfl
  · show (if (decide (-(2 ^ 63) ≤ (0 : Int)) && decide ((0 : Int) < 2 ^ 63) && fitB (1 * (0 : Int).toNat)) = true then some (PyData.list (List.replicate (0 : Int).toNat [PyData.tuple [enc x, enc y]]).flatten) else none) = _
    rw [if_pos (by decide +kernel)]
    rfl
  · show (if (decide (-(2 ^ 63) ≤ (1 : Int)) && decide ((1 : Int) < 2 ^ 63) && fitB (1 * (1 : Int).toNat)) = true then some (PyData.list (List.replicate (1 : Int).toNat [PyData.tuple [enc x, enc y]]).flatten) else none) = _
    rw [if_pos (by decide +kernel)]
    rfl
theorem _root_.L2.DL.Took.draw {m : Int} {r : R (D × Dr)} (h : Took m r) : Wp r fun d s' => ∃ y : Int, d = .int y ∧ (0 ≤ y ∧ y < m) ∧ DrOk s' := by
  obtain ⟨t, s', e, h1, h2, h3⟩ := h
  exact ⟨_, s', e, t, rfl, ⟨h1, h2⟩, h3⟩
theorem head_nth {α : Type} [Inhabited α] {xs : List α} (h : 0 < xs.length) : xs.head? = some (nth xs 0) := by
  cases xs with
  | nil => cases h
  | cons x xs => rfl
theorem dropLast_snoc {α : Type} {xs : List α} {x : α} : (xs ++ [x]).dropLast = xs := by simp
end L2.DL

set_option Elab.async false
set_option linter.all false
set_option maxRecDepth 100000
set_option maxHeartbeats 4000000
/-! D layer 32: rules for what came later. -/
namespace L2.DL
open PySem PySem.Spec PyProof.Rows
open Enc (enc)
variable [TabL]
def intR (d : D) : R Int := match d with
  | .int n => .ok n
  | _ => .stuck
@[simp] theorem intR_int {n : Int} : intR (.int n) = .ok n := Eq.trans rfl rfl
def itR (xs : List D) (n : Int) : R D := if decide (0 ≤ n) && decide (n < 2 ^ 63) then R.ofO xs[n.toNat]? else .stuck
section
variable {F : Nat → Fn} {env : En} {s : Dr} {e a : IX} {k kb kc : Kn} {i j : Nat}
@[simp] theorem xS_augIx {g : O2} : evS' F (.augIx g i a e) k kb kc env s = onLst i env fun xs => bnd (evE F a env s) (f := ⟨fun p => bnd (intR p.1) (f := ⟨fun n => bnd (itR xs n) (f := ⟨fun old => bnd (evE F e env p.2) (f := ⟨fun q => bnd (R.ofO (gInts g.g old q.1)) (f := ⟨fun z => bnd (R.ofO (fSet (.int n) z xs)) (f := ⟨fun ys => k (env.set i (.lst false ys)) q.2⟩)⟩)⟩)⟩)⟩)⟩) := by
  show sAugIx (gInts g.g) i (evE F a) (evE F e) k kb kc env s = _
  unfold sAugIx
  congr 1
  funext xs
  show R.bind _ _ = R.bind _ _
  congr 1
  funext p
  obtain ⟨d, s1⟩ := p
  cases d with
  | int n =>
    have e2 : ∀ f : D → R (D × Dr), (if (decide (0 ≤ n) && decide (n < 2 ^ 63)) = true then R.bind (R.ofO xs[n.toNat]?) f else R.stuck) = R.bind (itR xs n) f := fun f => by
      unfold itR
      split <;> rfl
    exact e2 _
  | _ => rfl
@[simp] theorem xS_appPop : evS' F (.appPop i j e) k kb kc env s = onLst i env fun xs => onLst j env fun ys => if i = j then .stuck else bnd (evE F e env s) (f := ⟨fun p => bnd (R.ofO (popD ys p.1)) (f := ⟨fun q => bnd (R.ofO (fApp q.1 xs)) (f := ⟨fun zs => k ((env.set j (.lst false q.2)).set i (.lst false zs)) p.2⟩)⟩)⟩) := by
  show sAppPop i j (evE F e) k kb kc env s = _
  rfl
@[simp] theorem xS_ext : evS' F (.ext i e) k kb kc env s = onLst i env fun xs => bnd (evE F e env s) (f := ⟨fun p => bnd (R.ofO (fExt p.1 xs)) (f := ⟨fun ys => k (env.set i (.lst false ys)) p.2⟩)⟩) := by
  show sMeth1 fExt i (evE F e) k kb kc env s = _
  rfl
end
section
variable {α : Type} [Enc α]
@[simp] theorem itR_encs [Inhabited α] {xs : List α} {n : Int} (h0 : 0 ≤ n) (h1 : n < xs.length) (h2 : xs.length ≤ 16777216) : itR (encs xs) n = .ok (enc (nth xs n)) := by
  unfold itR
  have e : (2 : Int) ^ 63 = 9223372036854775808 := by decide +kernel
  have h3 : n.toNat < xs.length := by omega
  rw [e, decide_eq_true h0, decide_eq_true (by omega)]
  unfold encs nth
  simp [h3]
/-- a list with an item put -/
def setN (xs : List α) (n : Int) (x : α) : List α := xs.set n.toNat x
@[simp] theorem setN_len {xs : List α} {n : Int} {x : α} : (setN xs n x).length = xs.length := List.length_set
theorem fSet_enc {xs : List α} {n : Int} {x : α} (h0 : 0 ≤ n) (h1 : n < xs.length) : fSet (.int n) (enc x) (encs xs) = some (encs (setN xs n x)) := by
  show (ixN (encs xs).length n).map (fun j => (encs xs).set j (enc x)) = _
  unfold ixN
  rw [encs_len, if_pos h0, if_pos h1]
  show some ((xs.map enc).set n.toNat (enc x)) = some ((xs.set n.toNat x).map enc)
  rw [List.map_set]
@[simp] theorem fSet_int {xs : List Int} {n x : Int} (h0 : 0 ≤ n) (h1 : n < xs.length) : fSet (.int n) (.int x) (encs xs) = some (encs (setN xs n x)) := fSet_enc h0 h1
theorem erase_map {β γ : Type} {f : β → γ} : ∀ {xs : List β} {k : Nat}, (xs.map f).eraseIdx k = (xs.eraseIdx k).map f
  | [], _ => rfl
  | _ :: _, 0 => rfl
  | x :: xs, k + 1 => by
    show f x :: (xs.map f).eraseIdx k = f x :: (xs.eraseIdx k).map f
    rw [erase_map]
@[simp] theorem popD_enc [Inhabited α] {ys : List α} {n : Int} (h0 : 0 ≤ n) (h1 : n < ys.length) (h2 : ys.length ≤ 16777216) : popD (encs ys) (.int n) = some (enc (nth ys n), encs (ys.eraseIdx n.toNat)) := by
  have e : (2 : Int) ^ 63 = 9223372036854775808 := by decide +kernel
  have h3 : n.toNat < ys.length := by omega
  show (ixN (encs ys).length n).bind (fun q => if decide (-(2 ^ 63) ≤ n) && decide (n < 2 ^ 63) then ((encs ys)[q]?).map fun d => (d, (encs ys).eraseIdx q) else none) = _
  unfold ixN
  rw [encs_len, if_pos h0, if_pos h1, Option.bind_some, e, decide_eq_true (show -9223372036854775808 ≤ n by omega), decide_eq_true (show n < 9223372036854775808 by omega)]
  unfold encs nth
  rw [if_pos (by rfl), List.getElem?_map, List.getElem?_eq_getElem h3, erase_map]
  rfl
@[simp] theorem fExt_encs {xs ys : List α} (h : xs.length + ys.length ≤ 16777216) : fExt (.list (encs ys)) (encs xs) = some (encs (xs ++ ys)) := by
  show (if fitB ((encs xs).length + (encs ys).length) = true then some (encs xs ++ encs ys) else none) = _
  rw [if_pos (by rw [encs_len, encs_len, fitB_le']; exact h)]
  unfold encs
  rw [List.map_append]
@[simp] theorem gSl_from1 {xs : List α} : gSl (enc xs) (some 1) none = some (enc xs.tail) := by
  show some (PyData.tuple (cutD (xs.map enc) (some 1) none)) = _
  rw [cut_enc]
  have e : HT.sIx xs.length 0 (some 1) = min 1 xs.length := rfl
  have e2 : HT.sIx xs.length xs.length none = xs.length := rfl
  rw [e, e2]
  have e3 : (xs.drop (min 1 xs.length)).take (xs.length - min 1 xs.length) = xs.tail := by
    cases xs with
    | nil => rfl
    | cons x xs => simp
  rw [e3]
  rfl
end
@[simp] theorem gAnd_int {i j : Int} : gAnd (.int i) (.int j) = some (.int (Builtin.bitAnd i j)) := Eq.trans rfl rfl
@[simp] theorem gOr_int {i j : Int} : gOr (.int i) (.int j) = some (.int (Builtin.bitOr i j)) := Eq.trans rfl rfl
@[simp] theorem gAbs_int {i : Int} : gAbs [.int i] = some (.int (if i < 0 then -i else i)) := Eq.trans rfl rfl
@[simp] theorem gMax_encT {xs : List Int} (h : 0 < xs.length) : gMax [enc xs] = some (.int (topL xs)) := by
  cases xs with
  | nil => exact absurd h (by show ¬ 0 < 0; omega)
  | cons n r =>
    show (asI ((n :: r).map enc)).bind _ = _
    rw [asI_enc]; rfl
theorem gMul_zeros {n : Nat} (h : n ≤ 16777216) : gMul (.list [.int 0]) (.int n) = some (.list (encs (List.replicate n (0 : Int)))) := by
  have e : (2 : Int) ^ 63 = 9223372036854775808 := by decide +kernel
  have hf : fitB ([PyData.int 0].length * (n : Int).toNat) = true := by rw [fitB_le', List.length_singleton]; omega
  unfold gMul
  dsimp only
  rw [e, decide_eq_true (show -9223372036854775808 ≤ (n : Int) by omega), decide_eq_true (show (n : Int) < 9223372036854775808 by omega), hf, if_pos (by rfl), Int.toNat_natCast]
  have : ∀ n : Nat, (List.replicate n [PyData.int 0]).flatten = encs (List.replicate n (0 : Int)) := by
    intro n
    induction n with
    | zero => rfl
    | succ n ih => rw [List.replicate_succ, List.flatten_cons, ih]; rfl
  rw [this]
theorem nth_replicate {α : Type} [Inhabited α] {n : Nat} {x : α} {i : Int} (h0 : 0 ≤ i) (h1 : i < n) : nth (List.replicate n x) i = x := by
  have : i.toNat < n := by omega
  unfold nth
  simp [List.getElem?_replicate, this]
theorem replicate_irange {α : Type} {n : Nat} {x : α} : List.replicate n x = (irange 0 n).map fun _ => x := by
  unfold irange
  rw [List.map_map]
  apply List.ext_getElem?
  intro i
  by_cases h : i < n
  · simp [h]
  · simp [h]
theorem setN_map {f g : Int → Int} {n : Nat} {i v : Int} (h0 : 0 ≤ i) (h1 : i < n) (h2 : g i = v) (h3 : ∀ d : Int, 0 ≤ d → d < n → d ≠ i → g d = f d) : setN ((irange 0 n).map f) i v = (irange 0 n).map g := by
  apply ext_nth
  · rw [setN_len, List.length_map, List.length_map]
  · intro d d0 d1
    rw [setN_len, List.length_map, irange_len] at d1
    rw [nth_map d0 (by rw [irange_len]; omega), nth_irange d0 (by omega), Int.zero_add]
    unfold setN nth
    by_cases hd : d = i
    · subst hd
      rw [List.getElem?_set_self (by rw [List.length_map, irange_len]; omega), h2]
      rfl
    · have hne : i.toNat ≠ d.toNat := by omega
      rw [List.getElem?_set_ne hne, h3 d d0 (by omega) hd]
      have := nth_map (f := f) (xs := irange 0 n) (i := d) d0 (by rw [irange_len]; omega)
      rw [nth_irange d0 (by omega), Int.zero_add] at this
      exact this
@[simp] theorem gSSet_l {xs : List Int} (h : xs.length < 64) : Bi.sset.g [.list (encs xs)] = some (.list (encs (sortU xs))) := by
  show (asI (xs.map Enc.enc)).bind _ = _
  rw [asI_enc, Option.bind_some, if_pos h]; rfl
@[simp] theorem gSSet_t {xs : List Int} (h : xs.length < 64) : Bi.sset.g [Enc.enc xs] = some (.list (encs (sortU xs))) := by
  show (asI (xs.map Enc.enc)).bind _ = _
  rw [asI_enc, Option.bind_some, if_pos h]; rfl
@[simp] theorem gSorted_b {xs : List D} : Bi.sorted.g xs = gSorted xs := Eq.trans rfl rfl
end L2.DL

set_option Elab.async false
set_option linter.all false
set_option maxRecDepth 100000
set_option maxHeartbeats 4000000
/-! D layer 33: more rules. -/
namespace L2.DL
open PySem PySem.Spec PyProof.Rows
open Enc (enc)
variable [TabL]
section
variable {a b c d e f : D} {xs : List D}
@[simp] theorem gIx_l0 : gIx (.list (a :: xs)) (.int 0) = some a := by
  show atI (a :: xs) 0 = _
  unfold atI ixN
  rw [if_pos (by decide), if_pos (by rw [List.length_cons]; omega)]
  rfl
@[simp] theorem gIx_l1 : gIx (.list [a, b]) (.int 1) = some b := Eq.trans rfl rfl
@[simp] theorem gIx_l1a : gIx (.list [a, b, c]) (.int 1) = some b := Eq.trans rfl rfl
@[simp] theorem gIx_l2a : gIx (.list [a, b, c]) (.int 2) = some c := Eq.trans rfl rfl
@[simp] theorem gIx_l1b : gIx (.list [a, b, c, d]) (.int 1) = some b := Eq.trans rfl rfl
@[simp] theorem gIx_l2b : gIx (.list [a, b, c, d]) (.int 2) = some c := Eq.trans rfl rfl
@[simp] theorem gIx_l3b : gIx (.list [a, b, c, d]) (.int 3) = some d := Eq.trans rfl rfl
@[simp] theorem gIx_t0 : gIx (.tuple (a :: xs)) (.int 0) = some a := by
  show atI (a :: xs) 0 = _
  unfold atI ixN
  rw [if_pos (by decide), if_pos (by rw [List.length_cons]; omega)]
  rfl
@[simp] theorem gIx_t1a : gIx (.tuple [a, b, c]) (.int 1) = some b := Eq.trans rfl rfl
@[simp] theorem gIx_t2a : gIx (.tuple [a, b, c]) (.int 2) = some c := Eq.trans rfl rfl
@[simp] theorem gIx_t1b : gIx (.tuple [a, b, c, d]) (.int 1) = some b := Eq.trans rfl rfl
@[simp] theorem gIx_t2b : gIx (.tuple [a, b, c, d]) (.int 2) = some c := Eq.trans rfl rfl
@[simp] theorem gIx_t3b : gIx (.tuple [a, b, c, d]) (.int 3) = some d := Eq.trans rfl rfl
end
@[simp] theorem callR_6 {F : Fn} {a0 a1 a2 a3 a4 a5 : D} {s : Dr} : callR 6 F ([.val a0, .val a1, .val a2, .val a3, .val a4, .val a5], s) = bnd (F [.val a0, .val a1, .val a2, .val a3, .val a4, .val a5] s) (f := ⟨fun q => .ok (q.1, s)⟩) := Eq.trans rfl rfl
@[simp] theorem callR_7 {F : Fn} {a0 a1 a2 a3 a4 a5 a6 : D} {s : Dr} : callR 7 F ([.val a0, .val a1, .val a2, .val a3, .val a4, .val a5, .val a6], s) = bnd (F [.val a0, .val a1, .val a2, .val a3, .val a4, .val a5, .val a6] s) (f := ⟨fun q => .ok (q.1, s)⟩) := Eq.trans rfl rfl
@[simp] theorem callR_8 {F : Fn} {a0 a1 a2 a3 a4 a5 a6 a7 : D} {s : Dr} : callR 8 F ([.val a0, .val a1, .val a2, .val a3, .val a4, .val a5, .val a6, .val a7], s) = bnd (F [.val a0, .val a1, .val a2, .val a3, .val a4, .val a5, .val a6, .val a7] s) (f := ⟨fun q => .ok (q.1, s)⟩) := Eq.trans rfl rfl
@[simp] theorem callR_9 {F : Fn} {a0 a1 a2 a3 a4 a5 a6 a7 a8 : D} {s : Dr} : callR 9 F ([.val a0, .val a1, .val a2, .val a3, .val a4, .val a5, .val a6, .val a7, .val a8], s) = bnd (F [.val a0, .val a1, .val a2, .val a3, .val a4, .val a5, .val a6, .val a7, .val a8] s) (f := ⟨fun q => .ok (q.1, s)⟩) := Eq.trans rfl rfl
@[simp] theorem callR_10 {F : Fn} {a0 a1 a2 a3 a4 a5 a6 a7 a8 a9 : D} {s : Dr} : callR 10 F ([.val a0, .val a1, .val a2, .val a3, .val a4, .val a5, .val a6, .val a7, .val a8, .val a9], s) = bnd (F [.val a0, .val a1, .val a2, .val a3, .val a4, .val a5, .val a6, .val a7, .val a8, .val a9] s) (f := ⟨fun q => .ok (q.1, s)⟩) := Eq.trans rfl rfl
@[simp] theorem callR_11 {F : Fn} {a0 a1 a2 a3 a4 a5 a6 a7 a8 a9 a10 : D} {s : Dr} : callR 11 F ([.val a0, .val a1, .val a2, .val a3, .val a4, .val a5, .val a6, .val a7, .val a8, .val a9, .val a10], s) = bnd (F [.val a0, .val a1, .val a2, .val a3, .val a4, .val a5, .val a6, .val a7, .val a8, .val a9, .val a10] s) (f := ⟨fun q => .ok (q.1, s)⟩) := Eq.trans rfl rfl
@[simp] theorem callR_12 {F : Fn} {a0 a1 a2 a3 a4 a5 a6 a7 a8 a9 a10 a11 : D} {s : Dr} : callR 12 F ([.val a0, .val a1, .val a2, .val a3, .val a4, .val a5, .val a6, .val a7, .val a8, .val a9, .val a10, .val a11], s) = bnd (F [.val a0, .val a1, .val a2, .val a3, .val a4, .val a5, .val a6, .val a7, .val a8, .val a9, .val a10, .val a11] s) (f := ⟨fun q => .ok (q.1, s)⟩) := Eq.trans rfl rfl
@[simp] theorem callR_drw5 {F : Fn} {a0 a1 a2 a3 a4 : D} {s : Dr} : callR 6 F ([.drw, .val a0, .val a1, .val a2, .val a3, .val a4], s) = F [.drw, .val a0, .val a1, .val a2, .val a3, .val a4] s := Eq.trans rfl rfl
@[simp] theorem callR_drw6 {F : Fn} {a0 a1 a2 a3 a4 a5 : D} {s : Dr} : callR 7 F ([.drw, .val a0, .val a1, .val a2, .val a3, .val a4, .val a5], s) = F [.drw, .val a0, .val a1, .val a2, .val a3, .val a4, .val a5] s := Eq.trans rfl rfl
@[simp] theorem callR_drw7 {F : Fn} {a0 a1 a2 a3 a4 a5 a6 : D} {s : Dr} : callR 8 F ([.drw, .val a0, .val a1, .val a2, .val a3, .val a4, .val a5, .val a6], s) = F [.drw, .val a0, .val a1, .val a2, .val a3, .val a4, .val a5, .val a6] s := Eq.trans rfl rfl
@[simp] theorem callR_drw8 {F : Fn} {a0 a1 a2 a3 a4 a5 a6 a7 : D} {s : Dr} : callR 9 F ([.drw, .val a0, .val a1, .val a2, .val a3, .val a4, .val a5, .val a6, .val a7], s) = F [.drw, .val a0, .val a1, .val a2, .val a3, .val a4, .val a5, .val a6, .val a7] s := Eq.trans rfl rfl
@[simp] theorem callR_drw9 {F : Fn} {a0 a1 a2 a3 a4 a5 a6 a7 a8 : D} {s : Dr} : callR 10 F ([.drw, .val a0, .val a1, .val a2, .val a3, .val a4, .val a5, .val a6, .val a7, .val a8], s) = F [.drw, .val a0, .val a1, .val a2, .val a3, .val a4, .val a5, .val a6, .val a7, .val a8] s := Eq.trans rfl rfl
@[simp] theorem callR_drw10 {F : Fn} {a0 a1 a2 a3 a4 a5 a6 a7 a8 a9 : D} {s : Dr} : callR 11 F ([.drw, .val a0, .val a1, .val a2, .val a3, .val a4, .val a5, .val a6, .val a7, .val a8, .val a9], s) = F [.drw, .val a0, .val a1, .val a2, .val a3, .val a4, .val a5, .val a6, .val a7, .val a8, .val a9] s := Eq.trans rfl rfl
@[simp] theorem callR_drw11 {F : Fn} {a0 a1 a2 a3 a4 a5 a6 a7 a8 a9 a10 : D} {s : Dr} : callR 12 F ([.drw, .val a0, .val a1, .val a2, .val a3, .val a4, .val a5, .val a6, .val a7, .val a8, .val a9, .val a10], s) = F [.drw, .val a0, .val a1, .val a2, .val a3, .val a4, .val a5, .val a6, .val a7, .val a8, .val a9, .val a10] s := Eq.trans rfl rfl
@[simp] theorem callR_drw12 {F : Fn} {a0 a1 a2 a3 a4 a5 a6 a7 a8 a9 a10 a11 : D} {s : Dr} : callR 13 F ([.drw, .val a0, .val a1, .val a2, .val a3, .val a4, .val a5, .val a6, .val a7, .val a8, .val a9, .val a10, .val a11], s) = F [.drw, .val a0, .val a1, .val a2, .val a3, .val a4, .val a5, .val a6, .val a7, .val a8, .val a9, .val a10, .val a11] s := Eq.trans rfl rfl
@[simp] theorem callR_drw13 {F : Fn} {a0 a1 a2 a3 a4 a5 a6 a7 a8 a9 a10 a11 a12 : D} {s : Dr} : callR 14 F ([.drw, .val a0, .val a1, .val a2, .val a3, .val a4, .val a5, .val a6, .val a7, .val a8, .val a9, .val a10, .val a11, .val a12], s) = F [.drw, .val a0, .val a1, .val a2, .val a3, .val a4, .val a5, .val a6, .val a7, .val a8, .val a9, .val a10, .val a11, .val a12] s := Eq.trans rfl rfl
end L2.DL

set_option Elab.async false
set_option linter.all false
set_option maxRecDepth 100000
set_option maxHeartbeats 4000000
/-! D layer 34: rules for dicts; sorted plain values; counters. -/
namespace L2.DL
open PySem PySem.Spec PyProof.Rows
open Enc (enc)
variable [TabL]
variable {F : Nat → Fn} {env : En} {s : Dr} {i : Nat} {a b e q it : IX} {k kb kc : Kn} {t : Tg} {own : List Nat}
/-! ### rules -/
def dctR {α : Type} (o : Option Sl) (f : List (D × D) → R (α × Dr)) : R (α × Dr) := match o with
  | some (.dct kvs) => f kvs
  | _ => .stuck
@[simp] theorem dctR_dct {α : Type} {kvs : List (D × D)} {f : List (D × D) → R (α × Dr)} : dctR (some (.dct kvs)) f = f kvs := Eq.trans rfl rfl
@[simp] theorem frz1_dct {kvs : List (D × D)} : frz1 (.dct kvs) = .dct kvs := Eq.trans rfl rfl
@[simp] theorem isOpen_dct {kvs : List (D × D)} : isOpen (some (.dct kvs)) = false := Eq.trans rfl rfl
theorem onDct_is {α : Type} {f : List (D × D) → R (α × Dr)} : onDct i env f = dctR (slot i env) f := by
  unfold onDct dctR
  rfl
@[simp] theorem xE_dget : evE F (.dget i a b) env s = dctR (slot i env) fun kvs => bnd (evE F a env s) (f := ⟨fun p => bnd (evE F b env p.2) (f := ⟨fun q => bnd (R.ofO (gDGet kvs p.1 q.1)) (f := ⟨fun z => .ok (z, q.2)⟩)⟩)⟩) := by
  rw [evE, evDGet, onDct_is]; rfl
@[simp] theorem xE_dix : evE F (.dix i a) env s = dctR (slot i env) fun kvs => bnd (evE F a env s) (f := ⟨fun p => bnd (R.ofO (gDIx kvs p.1)) (f := ⟨fun z => .ok (z, p.2)⟩)⟩) := by
  rw [evE, evDIx, onDct_is]; rfl
@[simp] theorem xE_din {neg : Bool} : evE F (.din neg i a) env s = dctR (slot i env) fun kvs => bnd (evE F a env s) (f := ⟨fun p => bnd (R.ofO (gDIn neg kvs p.1)) (f := ⟨fun z => .ok (z, p.2)⟩)⟩) := by
  rw [evE, evDIn, onDct_is]; rfl
def gDLen (kvs : List (D × D)) : Option D := if flv kvs = true then some (.int kvs.length) else none
@[simp] theorem xE_dlen : evE F (.dlen i) env s = dctR (slot i env) fun kvs => bnd (R.ofO (gDLen kvs)) (f := ⟨fun z => .ok (z, s)⟩) := by
  rw [evE, evDLen, onDct_is]
  congr 1
  funext kvs
  unfold gDLen
  split <;> rfl
@[simp] theorem xE_sitems : evE F (.sitems i) env s = dctR (slot i env) fun kvs => bnd (R.ofO (gSItems kvs)) (f := ⟨fun z => .ok (z, s)⟩) := by
  rw [evE, evSItems, onDct_is]; rfl
def gSKeys (kvs : List (D × D)) : Option D := if flv kvs = true then gSortK (kvs.map (·.1)) else none
@[simp] theorem xE_skeys : evE F (.skeys i) env s = dctR (slot i env) fun kvs => bnd (R.ofO (gSKeys kvs)) (f := ⟨fun z => .ok (z, s)⟩) := by
  rw [evE, evSKeys, onDct_is]
  congr 1
  funext kvs
  unfold gSKeys
  split <;> rfl
@[simp] theorem xS_dnew : evS' F (.dnew i) k kb kc env s = bnd (R.ofO (setE i (.dct []) env)) (f := ⟨fun env' => k env' s⟩) := Eq.trans rfl rfl
@[simp] theorem xS_dput : evS' F (.dput i a e) k kb kc env s = dctR (slot i env) fun kvs => bnd (evE F e env s) (f := ⟨fun p => bnd (evE F a env p.2) (f := ⟨fun q => bnd (R.ofO (gDPut kvs q.1 p.1)) (f := ⟨fun ys => k (env.set i (.dct ys)) q.2⟩)⟩)⟩) := by
  rw [evS', sDPut, onDct_is]; rfl
def dcG (g : D → Option D) (d : D) : Option D := match d with
  | .list ds => if ds.all scal = true then g (.list (uniqD ds)) else none
  | _ => none
theorem evDc1_is {g : D → Option D} {fi : Ev (List D)} {ft : Ev Bool} {fe : Ev D} : evDc1 g (evDc fi t own ft fe) env s = bnd (evLc fi t own ft fe env s) (f := ⟨fun p => bnd (R.ofO (dcG g p.1)) (f := ⟨fun z => .ok (z, p.2)⟩)⟩) := by
  unfold evDc1 evDc evLc
  cases fi env s with
  | err c => rfl
  | stuck => rfl
  | ok p =>
    show ((lcLoop t own ft fe env p.1 p.2).bind dcF).bind _ = ((lcLoop t own ft fe env p.1 p.2).bind _).bind _
    cases lcLoop t own ft fe env p.1 p.2 with
    | err c => rfl
    | stuck => rfl
    | ok q =>
      show (dcF q).bind _ = R.bind (R.ofO (dcG g (.list q.1))) _
      unfold dcF dcG
      dsimp only
      by_cases h : q.1.all scal = true
      · rw [if_pos h, if_pos h]; rfl
      · rw [if_neg h, if_neg h]; rfl
@[simp] theorem xE_dcN : evE F (.dcN it t own q e) env s = bnd (evLc (evI F it) t own (evT F q) (evE F e) env s) (f := ⟨fun p => bnd (R.ofO (dcG lenL p.1)) (f := ⟨fun z => .ok (z, p.2)⟩)⟩) := by
  rw [evE, evDc1_is]
@[simp] theorem xE_dcS : evE F (.dcS it t own q e) env s = bnd (evLc (evI F it) t own (evT F q) (evE F e) env s) (f := ⟨fun p => bnd (R.ofO (dcG sortLD p.1)) (f := ⟨fun z => .ok (z, p.2)⟩)⟩) := by
  rw [evE, evDc1_is]
@[simp] theorem gLSet_l {xs : List Int} (h : xs.length < 4000) : Bi.lset.g [.list (encs xs)] = some (.int (sortU xs).length) := by
  show (asI (xs.map Enc.enc)).bind _ = _
  rw [asI_enc, Option.bind_some, if_pos h]
@[simp] theorem gLSet_t {xs : List Int} (h : xs.length < 4000) : Bi.lset.g [enc xs] = some (.int (sortU xs).length) := by
  show (asI (xs.map Enc.enc)).bind _ = _
  rw [asI_enc, Option.bind_some, if_pos h]
@[simp] theorem gNe_encL_s {α : Type} [Enc α] [DecidableEq α] {a b : List α} (h : Enc.lv α ≤ 39) : gNe (.list (encs a)) (.list (encs b)) = some (.bool (!decide (a = b))) := by
  unfold gNe encs
  rw [dep_encL h, dep_encL h, PyData.eqv]
  have := eqvAll_enc a b
  by_cases e : a = b
  · rw [this.mpr e, decide_eq_true e]; rfl
  · rw [decide_eq_false e]
    cases q : PyData.eqvAll (a.map enc) (b.map enc) with
    | false => rfl
    | true => exact (e (this.mp q)).elim
/-! ### sorted plain values -/
class SrtE (α : Type) [Enc α] where
  al : ∀ a b : α, PySem.W.alike (enc a) (enc b) = true
  sh : (∀ a : α, tup1 (enc a) = true) ∨ (∀ a : α, noTup (enc a) = true)
instance : SrtE Int where
  al a b := by rw [enc_int, enc_int, PySem.W.alike]
  sh := .inr fun a => rfl
instance {α β : Type} [Enc α] [Enc β] [SrtE α] [SrtE β] : SrtE (α × β) where
  al a b := by
    rw [enc_pair, enc_pair, PySem.W.alike, PySem.W.alikeAll, PySem.W.alikeAll, PySem.W.alikeAll, SrtE.al, SrtE.al]; rfl
  sh := .inl fun a => rfl
def leE {α : Type} [Enc α] (a b : α) : Bool := leD (enc a) (enc b)
def sortE {α : Type} [Enc α] (xs : List α) : List α := xs.mergeSort leE
section
variable {α β : Type} [Enc α] [Enc β]
theorem sortB_enc [SrtE α] {xs : List α} (h : Enc.lv α ≤ 40) (hl : xs.length ≤ 16777216) : sortB (encs xs) = true := by
  unfold sortB encs
  simp only [Bool.and_eq_true, Bool.or_eq_true, List.all_eq_true, List.mem_map, forall_exists_index, and_imp, forall_apply_eq_imp_iff₂]
  refine ⟨⟨⟨fun x _ y _ => SrtE.al x y, ?_⟩, fun x _ => Enc.dp x 40 h⟩, by rw [fitB_le', List.length_map]; exact hl⟩
  rcases SrtE.sh (α := α) with z | z
  · exact .inl fun x _ => z x
  · exact .inr fun x _ => z x
theorem mergeSort_enc {xs : List α} : (encs xs).mergeSort leD = encs (sortE xs) := by
  unfold encs sortE
  exact (List.map_mergeSort (r := leE) (s := leD) fun a _ b _ => rfl).symm
theorem sortE_perm {xs : List α} : (sortE xs).Perm xs := List.mergeSort_perm _ _
@[simp] theorem sortE_len {xs : List α} : (sortE xs).length = xs.length := List.length_mergeSort _
theorem leE_int {x y : Int} : leE x y = decide (x ≤ y) := by
  have := congrFun (congrFun (PySem.W.dataLe_int (β := Int) fun x => x) x) y
  exact this
theorem sortE_int {l m : List Int} (h : l.Perm m) (hm : m.Pairwise (· ≤ ·)) : sortE l = m := by
  have e : (leE : Int → Int → Bool) = fun x y => decide (x ≤ y) := by
    funext x y
    exact leE_int
  unfold sortE
  rw [e]
  refine List.Perm.eq_of_pairwise (le := fun x y => decide (x ≤ y) = true) (fun x y _ _ h1 h2 => ?_) (List.pairwise_mergeSort (fun a b c h1 h2 => ?_) (fun a b => ?_) _) (hm.imp fun h => decide_eq_true h) ((List.mergeSort_perm _ _).trans h)
  · have := of_decide_eq_true h1
    have := of_decide_eq_true h2
    omega
  · have := of_decide_eq_true h1
    have := of_decide_eq_true h2
    exact decide_eq_true (by omega)
  · rw [Bool.or_eq_true, decide_eq_true_eq, decide_eq_true_eq]; omega
theorem sortE_pw {l : List Int} : (sortE l).Pairwise (· ≤ ·) := by
  have e : (leE : Int → Int → Bool) = fun x y => decide (x ≤ y) := by
    funext x y
    exact leE_int
  unfold sortE
  rw [e]
  refine List.Pairwise.imp (fun h => of_decide_eq_true h) (List.pairwise_mergeSort (fun a b c h1 h2 => ?_) (fun a b => ?_) l)
  · have := of_decide_eq_true h1
    have := of_decide_eq_true h2
    exact decide_eq_true (by omega)
  · rw [Bool.or_eq_true, decide_eq_true_eq, decide_eq_true_eq]; omega
theorem sortE_cong {l m : List Int} (h : l.Perm m) : sortE l = sortE m := sortE_int (h.trans sortE_perm.symm) sortE_pw
theorem leE_snd [SrtE α] {x y : α} {c : β} : leE (x, c) (y, c) = leE x y := by
  unfold leE leD PySem.W.dataLe
  show (!PyProof.Rows.lexLt itemOrd (PySem.W.keyToks (enc (y, c))) (PySem.W.keyToks (enc (x, c)))) = !PyProof.Rows.lexLt itemOrd (PySem.W.keyToks (enc y)) (PySem.W.keyToks (enc x))
  congr 1
  rw [enc_mk, enc_mk]
  show PySem.W.dataLt (.tuple [enc y, enc c]) (.tuple [enc x, enc c]) = PySem.W.dataLt (enc y) (enc x)
  rw [PySem.W.dataLt_tuple]
  have al : PySem.W.alike (enc y) (enc x) = true := SrtE.al y x
  cases h : PyData.eqv (enc y) (enc x) with
  | false => rw [PySem.W.dataLt_all_no al h]
  | true =>
    rw [PySem.W.dataLt_all_yes al h]
    have e1 : PySem.W.keyToks (enc y) = PySem.W.keyToks (enc x) := (PySem.W.toks_eqv _ _ al).1 h
    have irr : ∀ l, PyProof.Rows.lexLt itemOrd l l = false := fun l => PyProof.Rows.lex_irrefl l
    unfold PySem.W.dataLt
    rw [e1, irr, irr]
theorem sortE_snd [SrtE α] {xs : List α} {c : β} : sortE (xs.map fun x => (x, c)) = (sortE xs).map fun x => (x, c) := by
  unfold sortE
  exact (List.map_mergeSort (r := leE) (s := leE) fun a _ b _ => leE_snd.symm).symm
@[simp] theorem gSorted_encL [SrtE α] {xs : List α} (h : Enc.lv α ≤ 40) (hl : xs.length ≤ 16777216) : gSorted [.list (encs xs)] = some (.list (encs (sortE xs))) := by
  show (if sortB (encs xs) = true then some (PyData.list ((encs xs).mergeSort leD)) else none) = _
  rw [if_pos (sortB_enc h hl), mergeSort_enc]
@[simp] theorem gSorted_encT [SrtE α] {xs : List α} (h : Enc.lv α ≤ 40) (hl : xs.length ≤ 16777216) : gSorted [enc xs] = some (.list (encs (sortE xs))) := by
  show (if sortB (encs xs) = true then some (PyData.list ((encs xs).mergeSort leD)) else none) = _
  rw [if_pos (sortB_enc h hl), mergeSort_enc]
/-! ### dicts of plain values -/
class KeyE (α : Type) [Enc α] where
  ks : (∀ a : α, scal (enc a) = true) ∨ (∀ a : α, nkOk (enc a) = true ∧ isTup (enc a) = true)
instance : KeyE Int where
  ks := .inl fun a => rfl
instance : KeyE (Int × Int) where
  ks := .inr fun a => ⟨rfl, rfl⟩
def encD (kvs : List (α × β)) : List (D × D) := kvs.map fun p => (enc p.1, enc p.2)
theorem encD_nil : encD ([] : List (α × β)) = [] := rfl
theorem keyOk_enc [KeyE α] {kvs : List (α × β)} {k : α} : keyOk (encD kvs) (enc k) = true := by
  unfold keyOk encD
  rcases KeyE.ks (α := α) with h | h
  · rw [h k, List.all_map, List.all_eq_true.mpr fun p _ => h p.1]; rfl
  · rw [(h k).1, show ((kvs.map fun p => ((enc p.1, enc p.2) : D × D)).all fun p => isTup p.1) = true from by rw [List.all_map]; exact List.all_eq_true.mpr fun p _ => (h p.1).2, Bool.and_true, Bool.or_true]
theorem flv_enc [KeyE α] {kvs : List (α × β)} : flv (encD kvs) = true := by
  unfold flv encD
  rcases KeyE.ks (α := α) with h | h
  · rw [List.all_map, List.all_eq_true.mpr fun p _ => h p.1]; rfl
  · rw [show ((kvs.map fun p => ((enc p.1, enc p.2) : D × D)).all fun p => isTup p.1) = true from by rw [List.all_map]; exact List.all_eq_true.mpr fun p _ => (h p.1).2, Bool.or_true]
variable [DecidableEq α]
def lk (kvs : List (α × β)) (k : α) : Option β := (kvs.find? fun p => decide (p.1 = k)).map (·.2)
def putL (kvs : List (α × β)) (k : α) (v : β) : List (α × β) := if (kvs.any fun p => decide (p.1 = k)) = true then kvs.map (fun p => if p.1 = k then (p.1, v) else p) else kvs ++ [(k, v)]
theorem dAt_enc {kvs : List (α × β)} {k : α} : dAt (encD kvs) (enc k) = (lk kvs k).map enc := by
  unfold dAt lk encD
  rw [List.find?_map, Option.map_map, Option.map_map]
  have : ((fun p : D × D => PyData.eqv p.1 (enc k)) ∘ fun p : α × β => (enc p.1, enc p.2)) = fun p => decide (p.1 = k) := by
    funext p
    exact eqv_bool
  rw [this]
  rfl
theorem dPut_enc {kvs : List (α × β)} {k : α} {v : β} : dPut (encD kvs) (enc k) (enc v) = encD (putL kvs k v) := by
  unfold dPut putL encD
  rw [List.any_map]
  have : ((fun p : D × D => PyData.eqv p.1 (enc k)) ∘ fun p : α × β => (enc p.1, enc p.2)) = fun p => decide (p.1 = k) := by
    funext p
    exact eqv_bool
  rw [this]
  by_cases h : (kvs.any fun p => decide (p.1 = k)) = true
  · rw [if_pos h, if_pos h, List.map_map, List.map_map]
    apply List.map_congr_left
    intro p _
    show (if PyData.eqv (enc p.1) (enc k) = true then (enc p.1, enc v) else (enc p.1, enc p.2)) = _
    rw [eqv_bool]
    by_cases e : p.1 = k <;> simp [e]
  · rw [if_neg h, if_neg h, List.map_append]; rfl
theorem putL_len {kvs : List (α × β)} {k : α} {v : β} : (putL kvs k v).length ≤ kvs.length + 1 := by
  unfold putL
  split
  · rw [List.length_map]; omega
  · rw [List.length_append]; exact Nat.le_refl _
@[simp] theorem gDGet_enc [KeyE α] {kvs : List (α × β)} {k : α} {z : β} : gDGet (encD kvs) (enc k) (enc z) = some (enc ((lk kvs k).getD z)) := by
  unfold gDGet
  rw [if_pos keyOk_enc, dAt_enc]
  cases lk kvs k <;> rfl
@[simp] theorem gDPut_enc [KeyE α] {kvs : List (α × β)} {k : α} {v : β} (h : kvs.length < 16777216) : gDPut (encD kvs) (enc k) (enc v) = some (encD (putL kvs k v)) := by
  unfold gDPut
  rw [dPut_enc, keyOk_enc, if_pos]
  rw [Bool.true_and, fitB_le']
  have := putL_len (kvs := kvs) (k := k) (v := v)
  unfold encD
  rw [List.length_map]
  omega
@[simp] theorem gDIn_enc [KeyE α] {kvs : List (α × β)} {k : α} {neg : Bool} : gDIn neg (encD kvs) (enc k) = some (.bool (if neg = true then !(lk kvs k).isSome else (lk kvs k).isSome)) := by
  unfold gDIn
  rw [if_pos keyOk_enc, dAt_enc, Option.isSome_map]
theorem gDIx_enc [KeyE α] {kvs : List (α × β)} {k : α} {v : β} (h : lk kvs k = some v) : gDIx (encD kvs) (enc k) = some (enc v) := by
  unfold gDIx
  rw [if_pos keyOk_enc, dAt_enc, h]; rfl
@[simp] theorem gDLen_enc [KeyE α] {kvs : List (α × β)} : gDLen (encD kvs) = some (.int kvs.length) := by
  unfold gDLen
  rw [if_pos flv_enc]
  unfold encD
  rw [List.length_map]
omit [DecidableEq α] in
theorem itemsD_enc {kvs : List (α × β)} : itemsD (encD kvs) = encs kvs := by
  unfold itemsD encD encs
  rw [List.map_map]; rfl
omit [DecidableEq α] in
@[simp] theorem gSItems_enc [KeyE α] [SrtE α] [SrtE β] {kvs : List (α × β)} (h : Enc.lv (α × β) ≤ 40) (hl : kvs.length ≤ 16777216) : gSItems (encD kvs) = some (.list (encs (sortE kvs))) := by
  unfold gSItems
  rw [flv_enc, itemsD_enc, sortB_enc h hl, mergeSort_enc]; rfl
omit [DecidableEq α] in
theorem encD_keys {kvs : List (α × β)} : (encD kvs).map (·.1) = encs (kvs.map (·.1)) := by
  unfold encD encs
  rw [List.map_map, List.map_map]; rfl
omit [DecidableEq α] in
@[simp] theorem gSKeys_enc [KeyE α] [SrtE α] {kvs : List (α × β)} (h : Enc.lv α ≤ 40) (hl : kvs.length ≤ 16777216) : gSKeys (encD kvs) = some (.list (encs (sortE (kvs.map (·.1))))) := by
  unfold gSKeys gSortK
  rw [if_pos flv_enc, encD_keys, if_pos (sortB_enc h (by rw [List.length_map]; exact hl)), mergeSort_enc]
/-! ### counters -/
def addN (l : List α) (x : α) : List α := if x ∈ l then l else l ++ [x]
def firsts (xs : List α) : List α := xs.foldl addN []
omit [Enc α] in
theorem firsts_snoc {xs : List α} {x : α} : firsts (xs ++ [x]) = if x ∈ firsts xs then firsts xs else firsts xs ++ [x] := by
  unfold firsts
  rw [List.foldl_append]
  rfl
omit [Enc α] in
theorem foldl_addN : ∀ (xs l : List α), l.Nodup → (xs.foldl addN l).Nodup ∧ ∀ y, y ∈ xs.foldl addN l ↔ y ∈ l ∨ y ∈ xs
  | [], l, h => ⟨h, fun y => by simp⟩
  | x :: xs, l, h => by
    have h2 : (addN l x).Nodup ∧ ∀ y, y ∈ addN l x ↔ y ∈ l ∨ y = x := by
      unfold addN
      split
      · rename_i hx
        exact ⟨h, fun y => ⟨.inl, fun z => z.elim id fun e => e ▸ hx⟩⟩
      · rename_i hx
        refine ⟨List.nodup_append.mpr ⟨h, List.nodup_cons.mpr ⟨List.not_mem_nil, List.nodup_nil⟩, fun a ha b hb e => ?_⟩, fun y => by simp⟩
        rw [List.mem_singleton] at hb
        subst hb; subst e
        exact hx ha
    obtain ⟨i1, i2⟩ := foldl_addN xs (addN l x) h2.1
    refine ⟨i1, fun y => ?_⟩
    rw [List.foldl_cons, i2, h2.2, List.mem_cons, or_assoc]
omit [Enc α] in
theorem firsts_nodup {xs : List α} : (firsts xs).Nodup := (foldl_addN xs [] List.nodup_nil).1
omit [Enc α] in
theorem mem_firsts {xs : List α} {x : α} : x ∈ firsts xs ↔ x ∈ xs := by
  have := (foldl_addN xs [] List.nodup_nil).2 x
  unfold firsts
  rw [this]; simp
omit [Enc α] in
theorem firsts_self : ∀ {xs : List α}, xs.Nodup → firsts xs = xs := by
  intro xs h
  have : ∀ (ys l : List α), (l ++ ys).Nodup → ys.foldl addN l = l ++ ys := by
    intro ys
    induction ys with
    | nil => intro l _; simp
    | cons y ys ih =>
      intro l hl
      have hy : y ∉ l := fun hm => (List.nodup_append.mp hl).2.2 y hm y (List.mem_cons_self ..) rfl
      have e : addN l y = l ++ [y] := by unfold addN; rw [if_neg hy]
      rw [List.foldl_cons, e, ih]
      · simp
      · simpa using hl
  exact this xs [] h
omit [Enc α] in
theorem firsts_const {x : α} : ∀ {n : Nat}, 0 < n → firsts (List.replicate n x) = [x] := by
  intro n hn
  obtain ⟨m, rfl⟩ : ∃ m, n = m + 1 := ⟨n - 1, by omega⟩
  have : ∀ m, (List.replicate m x).foldl addN [x] = [x] := by
    intro m
    induction m with
    | zero => rfl
    | succ m ih =>
      rw [List.replicate_succ, List.foldl_cons]
      have e : addN [x] x = [x] := by unfold addN; rw [if_pos (List.mem_singleton.mpr rfl)]
      rw [e, ih]
  unfold firsts
  rw [List.replicate_succ, List.foldl_cons]
  have e : addN ([] : List α) x = [x] := by unfold addN; rw [if_neg List.not_mem_nil]; rfl
  rw [e, this]
/-- how often each -/
def cnt (xs : List α) : List (α × Int) := (firsts xs).map fun x => (x, (xs.count x : Int))
omit [Enc α] in
theorem cnt_len {xs : List α} : (cnt xs).length ≤ xs.length := by
  unfold cnt
  rw [List.length_map]
  have := List.Nodup.length_le_of_subset (l₁ := firsts xs) (l₂ := xs) firsts_nodup fun x h => mem_firsts.mp h
  exact this
omit [Enc α] [Enc β] in
theorem lk_map {l : List α} {f : α → β} {k : α} : lk (l.map fun x => (x, f x)) k = if k ∈ l then some (f k) else none := by
  unfold lk
  induction l with
  | nil => rfl
  | cons x l ih =>
    rw [List.map_cons, List.find?_cons]
    by_cases h : x = k
    · subst h
      simp
    · have h2 : ¬ k = x := fun z => h z.symm
      simp only [h, decide_false, List.mem_cons, h2, false_or]
      exact ih
omit [Enc α] in
theorem cnt_snoc {xs : List α} {k : α} : putL (cnt xs) k ((lk (cnt xs) k).getD 0 + 1) = cnt (xs ++ [k]) := by
  have hl : lk (cnt xs) k = if k ∈ firsts xs then some (xs.count k : Int) else none := lk_map
  have hc : (lk (cnt xs) k).getD 0 + 1 = ((xs ++ [k]).count k : Int) := by
    rw [hl, List.count_append, List.count_singleton_self]
    split
    · rw [Option.getD_some]; omega
    · rename_i h
      have : k ∉ xs := fun z => h (mem_firsts.mpr z)
      rw [Option.getD_none, List.count_eq_zero_of_not_mem this]; rfl
  have ho : ∀ y, y ≠ k → (xs ++ [k]).count y = xs.count y := fun y hy => by
    rw [List.count_append, List.count_eq_zero_of_not_mem (a := y) (l := [k]) (by rw [List.mem_singleton]; exact hy), Nat.add_zero]
  rw [hc]
  unfold putL cnt
  rw [List.any_map, firsts_snoc]
  by_cases h : k ∈ firsts xs
  · rw [if_pos h, if_pos, List.map_map]
    · apply List.map_congr_left
      intro y hy
      show (if y = k then (y, ((xs ++ [k]).count k : Int)) else (y, (xs.count y : Int))) = _
      by_cases e : y = k
      · rw [if_pos e, e]
      · rw [if_neg e, ho y e]
    · rw [List.any_eq_true]
      exact ⟨k, h, decide_eq_true rfl⟩
  · rw [if_neg h, if_neg, List.map_append]
    · congr 1
      apply List.map_congr_left
      intro y hy
      have : y ≠ k := fun e => h (e ▸ hy)
      rw [ho y this]
    · rw [List.any_eq_true]
      rintro ⟨y, hy, e⟩
      have e : y = k := of_decide_eq_true e
      exact h (e ▸ hy)
omit [Enc α] in
theorem cnt_nodup {xs : List α} (h : xs.Nodup) : cnt xs = xs.map fun x => (x, (1 : Int)) := by
  unfold cnt
  rw [firsts_self h]
  apply List.map_congr_left
  intro x hx
  have : xs.count x = 1 := by
    have h1 := List.nodup_iff_count.mp h x
    have h2 := List.one_le_count_iff.mpr hx
    omega
  rw [this]; rfl
omit [Enc α] in
theorem cnt_const {x : α} {n : Nat} (h : 0 < n) : cnt (List.replicate n x) = [(x, (n : Int))] := by
  unfold cnt
  rw [firsts_const h, List.map_cons, List.map_nil, List.count_replicate_self]
end
section
variable {β : Type} [Enc β]
@[simp] theorem gDGet_int {kvs : List (Int × β)} {k : Int} {z : β} : gDGet (encD kvs) (.int k) (enc z) = some (enc ((lk kvs k).getD z)) := gDGet_enc (k := k)
@[simp] theorem gDGet_ii {kvs : List ((Int × Int) × β)} {a b : Int} {z : β} : gDGet (encD kvs) (.tuple [.int a, .int b]) (enc z) = some (enc ((lk kvs (a, b)).getD z)) := gDGet_enc (k := (a, b))
@[simp] theorem gDPut_int {kvs : List (Int × β)} {k : Int} {v : β} (h : kvs.length < 16777216) : gDPut (encD kvs) (.int k) (enc v) = some (encD (putL kvs k v)) := gDPut_enc (k := k) h
@[simp] theorem gDPut_ii {kvs : List ((Int × Int) × β)} {a b : Int} {v : β} (h : kvs.length < 16777216) : gDPut (encD kvs) (.tuple [.int a, .int b]) (enc v) = some (encD (putL kvs (a, b) v)) := gDPut_enc (k := (a, b)) h
@[simp] theorem gDGet_int_i {kvs : List (Int × Int)} {k z : Int} : gDGet (encD kvs) (.int k) (.int z) = some (.int ((lk kvs k).getD z)) := gDGet_enc (k := k) (z := z)
@[simp] theorem gDGet_ii_i {kvs : List ((Int × Int) × Int)} {a b z : Int} : gDGet (encD kvs) (.tuple [.int a, .int b]) (.int z) = some (.int ((lk kvs (a, b)).getD z)) := gDGet_enc (k := (a, b)) (z := z)
@[simp] theorem gDPut_int_i {kvs : List (Int × Int)} {k v : Int} (h : kvs.length < 16777216) : gDPut (encD kvs) (.int k) (.int v) = some (encD (putL kvs k v)) := gDPut_enc (k := k) (v := v) h
@[simp] theorem gDPut_ii_i {kvs : List ((Int × Int) × Int)} {a b v : Int} (h : kvs.length < 16777216) : gDPut (encD kvs) (.tuple [.int a, .int b]) (.int v) = some (encD (putL kvs (a, b) v)) := gDPut_enc (k := (a, b)) (v := v) h
end
/-! ### {x: True for ..} of ints -/
theorem kz_int (xs : List Int) : kz (encs xs) = (firsts xs).map Sum.inl := by
  have e : (encs xs).filterMap keyOf = xs.map Sum.inl := by
    unfold encs
    rw [List.filterMap_map]
    show xs.filterMap (fun x => some (Sum.inl x)) = _
    rw [List.filterMap_eq_map']
  unfold kz firsts
  rw [e]
  have : ∀ (xs l : List Int), (xs.map (Sum.inl (β := Str))).foldl addK (l.map Sum.inl) = (xs.foldl addN l).map Sum.inl := by
    intro xs
    induction xs with
    | nil => intro l; rfl
    | cons x xs ih =>
      intro l
      rw [List.map_cons, List.foldl_cons, List.foldl_cons, ← ih]
      congr 1
      unfold addK addN
      rw [List.any_map]
      by_cases h : x ∈ l
      · rw [if_pos h, if_pos]
        rw [List.any_eq_true]
        exact ⟨x, h, decide_eq_true rfl⟩
      · rw [if_neg h, if_neg, List.map_append]; · rfl
        rw [List.any_eq_true]
        rintro ⟨y, hy, e⟩
        have e : (Sum.inl y : Key) = Sum.inl x := of_decide_eq_true e
        cases e
        exact h hy
  exact this xs []
theorem uniqD_int (xs : List Int) : uniqD (encs xs) = encs (firsts xs) := by
  unfold uniqD
  rw [kz_int, List.map_map]; rfl
theorem firsts_perm {xs : List Int} : (firsts xs).Perm (sortU xs) := (List.perm_ext_iff_of_nodup firsts_nodup (List.Pairwise.imp (fun h => Int.ne_of_lt h) pw_sortU)).mpr fun k => by rw [mem_firsts, mem_sortU]
theorem scal_encs {xs : List Int} : (encs xs).all scal = true := by
  unfold encs
  rw [List.all_map]
  exact List.all_eq_true.mpr fun x _ => rfl
@[simp] theorem dcN_int {xs : List Int} : dcG lenL (.list (encs xs)) = some (.int (sortU xs).length) := by
  unfold dcG
  dsimp only
  rw [if_pos scal_encs, uniqD_int]
  show some (PyData.int ((encs (firsts xs)).length : Nat)) = _
  rw [encs_len, firsts_perm.length_eq]
@[simp] theorem dcS_int {xs : List Int} (h : xs.length ≤ 16777216) : dcG sortLD (.list (encs xs)) = some (.list (encs (sortU xs))) := by
  unfold dcG
  dsimp only
  rw [if_pos scal_encs, uniqD_int]
  show gSortK (encs (firsts xs)) = _
  unfold gSortK
  have hl : (firsts xs).length ≤ xs.length := List.Nodup.length_le_of_subset (l₁ := firsts xs) (l₂ := xs) firsts_nodup fun x h => mem_firsts.mp h
  rw [if_pos (sortB_enc (Nat.zero_le _) (by omega)), mergeSort_enc, sortE_int firsts_perm (pw_sortU.imp fun h => Int.le_of_lt h)]
end L2.DL

set_option Elab.async false
set_option linter.all false
set_option maxRecDepth 100000
set_option maxHeartbeats 0
namespace Row
open PySem PySem.Spec PyProof.Rows L2 L2.DL
def top (i : Nat) : Stmt := PySem.Challenge.pw_secrethall_k05_whole_small_groups.main.body.getD i (.Pass ⟨0, 0, 0, 0⟩)
def fns : List (Str × Nat × Nat) := [(("is_prime", 0, 1) : Str × Nat × Nat), (("check", 1, 1) : Str × Nat × Nat), (("power_in", 2, 3) : Str × Nat × Nat), (("power", 3, 3) : Str × Nat × Nat), (("members", 4, 1) : Str × Nat × Nat), (("check_member", 5, 2) : Str × Nat × Nat), (("log_of", 6, 2) : Str × Nat × Nat), (("groups_up_to", 7, 1) : Str × Nat × Nat), (("base_of", 8, 2) : Str × Nat × Nat), (("check_key", 9, 2) : Str × Nat × Nat), (("agreed", 10, 3) : Str × Nat × Nat), (("lock", 11, 4) : Str × Nat × Nat), (("unlock", 12, 3) : Str × Nat × Nat), (("joined", 13, 3) : Str × Nat × Nat), (("relocked", 14, 4) : Str × Nat × Nat), (("locked_alike", 15, 3) : Str × Nat × Nat), (("pledge", 16, 4) : Str × Nat × Nat), (("pledges_of", 17, 3) : Str × Nat × Nat), (("broken", 18, 4) : Str × Nat × Nat), (("other_opening", 19, 6) : Str × Nat × Nat)] ++ [(("shared_unlock", 20, 4) : Str × Nat × Nat), (("_law_begin", 21, 1) : Str × Nat × Nat), (("_law_take", 22, 2) : Str × Nat × Nat), (("_law_power", 24, 3) : Str × Nat × Nat), (("_law_prime", 25, 1) : Str × Nat × Nat), (("_law_group", 26, 1) : Str × Nat × Nat), (("_law_wrong", 27, 0) : Str × Nat × Nat), (("_law_part1", 28, 9) : Str × Nat × Nat)]
def csts : List (Str × D) := [("MOST", .int (400))]
def N_is_prime : List Str := ["number", "one"]
def cc_is_prime : CC := ⟨N_is_prime, defScope (top 4), defScope (top 4), fns, csts, [], [], "is_prime", false, true, 2, []⟩
def mu_is_prime : List Nat := []
def N_check : List Str := ["group", "p", "q", "g"]
def cc_check : CC := ⟨N_check, defScope (top 5), defScope (top 5), fns, csts, [], [], "check", false, true, 2, []⟩
def mu_check : List Nat := []
def N_power_in : List Str := ["p", "base", "times", "found"]
def cc_power_in : CC := ⟨N_power_in, defScope (top 6), defScope (top 6), fns, csts, [], [], "power_in", false, true, 2, []⟩
def mu_power_in : List Nat := []
def N_power : List Str := ["group", "base", "times"]
def cc_power : CC := ⟨N_power, defScope (top 7), defScope (top 7), fns, csts, [], [], "power", false, true, 2, []⟩
def mu_power : List Nat := []
def N_members : List Str := ["group", "found", "now", "_"]
def cc_members : CC := ⟨N_members, defScope (top 8), defScope (top 8), fns, csts, [], [], "members", false, true, 2, []⟩
def mu_members : List Nat := [1]
def N_check_member : List Str := ["group", "one"]
def cc_check_member : CC := ⟨N_check_member, defScope (top 9), defScope (top 9), fns, csts, [], [], "check_member", false, true, 2, []⟩
def mu_check_member : List Nat := []
def N_log_of : List Str := ["group", "one", "now", "times"]
def cc_log_of : CC := ⟨N_log_of, defScope (top 10), defScope (top 10), fns, csts, [], [], "log_of", false, true, 2, []⟩
def mu_log_of : List Nat := []
def N_groups_up_to : List Str := ["most", "found", "p", "q"]
def cc_groups_up_to : CC := ⟨N_groups_up_to, defScope (top 11), defScope (top 11), fns, csts, [], [], "groups_up_to", false, true, 2, []⟩
def mu_groups_up_to : List Nat := [1]
def N_base_of : List Str := ["p", "q", "g"]
def cc_base_of : CC := ⟨N_base_of, defScope (top 12), defScope (top 12), fns, csts, [], [], "base_of", false, true, 2, []⟩
def mu_base_of : List Nat := []
def N_check_key : List Str := ["group", "key"]
def cc_check_key : CC := ⟨N_check_key, defScope (top 13), defScope (top 13), fns, csts, [], [], "check_key", false, true, 2, []⟩
def mu_check_key : List Nat := []
def N_agreed : List Str := ["group", "own", "other", "p", "_", "g", "first", "second"]
def cc_agreed : CC := ⟨N_agreed, defScope (top 14), defScope (top 14), fns, csts, [], [], "agreed", false, true, 2, []⟩
def mu_agreed : List Nat := []
def N_lock : List Str := ["group", "public", "message", "drawn", "p", "_", "g"]
def cc_lock : CC := ⟨N_lock, defScope (top 15), defScope (top 15), fns, csts, [], [], "lock", false, true, 2, []⟩
def mu_lock : List Nat := []
def N_unlock : List Str := ["group", "key", "pair", "p", "q", "_"]
def cc_unlock : CC := ⟨N_unlock, defScope (top 16), defScope (top 16), fns, csts, [], [], "unlock", false, true, 2, []⟩
def mu_unlock : List Nat := []
def N_joined : List Str := ["group", "one", "other", "part"]
def cc_joined : CC := ⟨N_joined, defScope (top 17), defScope (top 17), fns, csts, [], [], "joined", false, true, 2, []⟩
def mu_joined : List Nat := []
def N_relocked : List Str := ["group", "public", "pair", "drawn"]
def cc_relocked : CC := ⟨N_relocked, defScope (top 18), defScope (top 18), fns, csts, [], [], "relocked", false, true, 2, []⟩
def mu_relocked : List Nat := []
def N_locked_alike : List Str := ["group", "public", "message", "found", "drawn", "pair"]
def cc_locked_alike : CC := ⟨N_locked_alike, defScope (top 19), defScope (top 19), fns, csts, [], [], "locked_alike", false, true, 2, ["found"]⟩
def mu_locked_alike : List Nat := []
def N_pledge : List Str := ["group", "second", "message", "drawn", "p", "_", "g"]
def cc_pledge : CC := ⟨N_pledge, defScope (top 20), defScope (top 20), fns, csts, [], [], "pledge", false, true, 2, []⟩
def mu_pledge : List Nat := []
def N_pledges_of : List Str := ["group", "second", "message", "found", "drawn", "one"]
def cc_pledges_of : CC := ⟨N_pledges_of, defScope (top 21), defScope (top 21), fns, csts, [], [], "pledges_of", false, true, 2, ["found"]⟩
def mu_pledges_of : List Nat := []
def N_broken : List Str := ["group", "second", "first", "other", "same", "q", "bottom", "message", "drawn"]
def cc_broken : CC := ⟨N_broken, defScope (top 22), defScope (top 22), fns, csts, [], [], "broken", false, true, 2, []⟩
def mu_broken : List Nat := []
def N_other_opening : List Str := ["group", "second", "way", "message", "drawn", "wanted", "p", "q", "g"]
def cc_other_opening : CC := ⟨N_other_opening, defScope (top 23), defScope (top 23), fns, csts, [], [], "other_opening", false, true, 2, []⟩
def mu_other_opening : List Nat := []
def N_shared_unlock : List Str := ["group", "keys", "factors", "pair", "part", "whole", "p", "q", "_", "key", "factor"]
def cc_shared_unlock : CC := ⟨N_shared_unlock, defScope (top 24), defScope (top 24), fns, csts, [], [], "shared_unlock", false, true, 2, []⟩
def mu_shared_unlock : List Nat := []
def N__law_begin : List Str := ["script", "seed", "cell"]
def cc__law_begin : CC := ⟨N__law_begin, defScope (top 26), defScope (top 26), fns, csts, [], ["script"], "_law_begin", false, true, 2, []⟩
def mu__law_begin : List Nat := []
def N__law_take : List Str := ["d", "many", "digit", "small"]
def cc__law_take : CC := ⟨N__law_take, defScope (top 27), defScope (top 27), fns, csts, ["d"], [], "_law_take", false, true, 2, []⟩
def mu__law_take : List Nat := []
def N__law_told : List Str := ["call", "e"]
def cc__law_told : CC := ⟨N__law_told, defScope (top 28), defScope (top 28), fns, csts, [], [], "_law_told", false, true, 2, []⟩
def mu__law_told : List Nat := []
def N__law_power : List Str := ["p", "base", "times", "found", "k"]
def cc__law_power : CC := ⟨N__law_power, defScope (top 29), defScope (top 29), fns, csts, [], [], "_law_power", false, true, 2, []⟩
def mu__law_power : List Nat := []
def N__law_prime : List Str := ["number", "k"]
def cc__law_prime : CC := ⟨N__law_prime, defScope (top 30), defScope (top 30), fns, csts, [], [], "_law_prime", false, true, 2, []⟩
def mu__law_prime : List Nat := []
def N__law_group : List Str := ["d", "rows"]
def cc__law_group : CC := ⟨N__law_group, defScope (top 31), defScope (top 31), fns, csts, [], [], "_law_group", false, true, 2, []⟩
def mu__law_group : List Nat := []
def N__law_wrong : List Str := ["good", "group", "code"]
def cc__law_wrong : CC := ⟨N__law_wrong, defScope (top 32), defScope (top 32), fns, csts, [], [], "_law_wrong", true, true, 2, []⟩
def mu__law_wrong : List Nat := []
def N__law_part1 : List Str := ["d", "group", "p", "q", "own", "b", "message", "c", "keys", "factors", "whole", "locked", "way", "base", "value", "told", "alike", "wanted", "drawn", "e", "same", "most", "table", "rows", "prime", "order", "low", "key", "row", "k", "member"]
def cc__law_part1 : CC := ⟨N__law_part1, defScope (top 33), defScope (top 33), fns, csts, [], [], "_law_part1", false, true, 2, []⟩
def mu__law_part1 : List Nat := []
def N_law : List Str := ["script", "d", "group", "own", "one", "base", "times", "due", "a", "b", "public", "message", "other", "pair", "c", "more", "rows", "keys", "p", "q", "g", "first", "second", "both", "k", "row"]
def cc_law : CC := ⟨N_law, defScope (top 34), defScope (top 34), fns, csts, [], [], "law", false, true, 2, []⟩
def mu_law : List Nat := []
def ir_is_prime : IS := IS.seq (IS.ite (IX.tev (IX.b2 (O2.lt) (IX.pk 0) (IX.c (PyData.int 2)))) (IS.ret (IX.c (PyData.bool false))) (IS.skip)) (IS.seq (IS.asg (Tg.nm 1) (IX.c (PyData.int 2))) (IS.seq (IS.whl 100000 (IX.tev (IX.b2 (O2.le) (IX.b2 (O2.mul) (IX.pk 1) (IX.pk 1)) (IX.pk 0))) (IS.seq (IS.ite (IX.tev (IX.b2 (O2.eq) (IX.b2 (O2.mod) (IX.pk 0) (IX.pk 1)) (IX.c (PyData.int 0)))) (IS.ret (IX.c (PyData.bool false))) (IS.skip)) (IS.aug (O2.add) 1 (IX.c (PyData.int 1))))) (IS.ret (IX.c (PyData.bool true)))))
def di_is_prime : DefI := ⟨["number"], cc_is_prime, ir_is_prime⟩
def dd_is_prime : He.DefD := ⟨("is_prime", none), "is_prime", "is_prime", defArgs (top 4), defBody (top 4), defScope (top 4), [], []⟩
def ir_check : IS := IS.seq (IS.asg (Tg.tup (Tg.tcons (Tg.nm 1) (Tg.tcons (Tg.nm 2) (Tg.tcons (Tg.nm 3) (Tg.tnil))))) (IX.var 0)) (IS.seq (IS.ite (IX.tif (IX.tnot (IX.tev (IX.ch (O2.le) (O2.le) (IX.c (PyData.int 3)) (IX.pk 1) (IX.c (PyData.int 400))))) (IX.tt) (IX.tnot (IX.tru (IX.call 0 1 (IX.argV 1 (IX.nil)))))) (IS.raise { cps := #[112, 114, 105, 109, 101] }) (IS.skip)) (IS.seq (IS.ite (IX.tif (IX.tnot (IX.tru (IX.call 0 1 (IX.argV 2 (IX.nil))))) (IX.tt) (IX.tev (IX.b2 (O2.ne) (IX.b2 (O2.mod) (IX.b2 (O2.sub) (IX.pk 1) (IX.c (PyData.int 1))) (IX.pk 2)) (IX.c (PyData.int 0))))) (IS.raise { cps := #[111, 114, 100, 101, 114] }) (IS.skip)) (IS.ite (IX.tif (IX.tnot (IX.tev (IX.ch (O2.le) (O2.lt) (IX.c (PyData.int 2)) (IX.pk 3) (IX.pk 1)))) (IX.tt) (IX.tev (IX.b2 (O2.ne) (IX.call 2 3 (IX.argV 1 (IX.argV 3 (IX.argV 2 (IX.nil))))) (IX.c (PyData.int 1))))) (IS.raise { cps := #[98, 97, 115, 101] }) (IS.skip))))
def di_check : DefI := ⟨["group"], cc_check, ir_check⟩
def dd_check : He.DefD := ⟨("check", none), "check", "check", defArgs (top 5), defBody (top 5), defScope (top 5), [], []⟩
def ir_power_in : IS := IS.seq (IS.asg (Tg.nm 3) (IX.c (PyData.int 1))) (IS.seq (IS.aug (O2.mod) 1 (IX.var 0)) (IS.seq (IS.whl 100000 (IX.tev (IX.b2 (O2.gt) (IX.pk 2) (IX.c (PyData.int 0)))) (IS.seq (IS.ite (IX.tev (IX.b2 (O2.eq) (IX.b2 (O2.mod) (IX.pk 2) (IX.c (PyData.int 2))) (IX.c (PyData.int 1)))) (IS.asg (Tg.nm 3) (IX.b2 (O2.mod) (IX.b2 (O2.mul) (IX.pk 3) (IX.pk 1)) (IX.pk 0))) (IS.skip)) (IS.seq (IS.asg (Tg.nm 1) (IX.b2 (O2.mod) (IX.b2 (O2.mul) (IX.pk 1) (IX.pk 1)) (IX.pk 0))) (IS.aug (O2.div) 2 (IX.c (PyData.int 2)))))) (IS.ret (IX.var 3))))
def di_power_in : DefI := ⟨["p", "base", "times"], cc_power_in, ir_power_in⟩
def dd_power_in : He.DefD := ⟨("power_in", none), "power_in", "power_in", defArgs (top 6), defBody (top 6), defScope (top 6), [], []⟩
def ir_power : IS := IS.seq (IS.ex (IX.call 1 1 (IX.argV 0 (IX.nil)))) (IS.seq (IS.ite (IX.tnot (IX.tev (IX.ch (O2.le) (O2.lt) (IX.c (PyData.int 1)) (IX.pk 1) (IX.ix (IX.pk 0) (IX.c (PyData.int 0)))))) (IS.raise { cps := #[109, 101, 109, 98, 101, 114] }) (IS.skip)) (IS.ret (IX.call 2 3 (IX.argC (IX.ix (IX.pk 0) (IX.c (PyData.int 0))) (IX.argV 1 (IX.argC (IX.b2 (O2.mod) (IX.pk 2) (IX.b2 (O2.sub) (IX.ix (IX.pk 0) (IX.c (PyData.int 0))) (IX.c (PyData.int 1)))) (IX.nil)))))))
def di_power : DefI := ⟨["group", "base", "times"], cc_power, ir_power⟩
def dd_power : He.DefD := ⟨("power", none), "power", "power", defArgs (top 7), defBody (top 7), defScope (top 7), [], []⟩
def ir_members : IS := IS.seq (IS.ex (IX.call 1 1 (IX.argV 0 (IX.nil)))) (IS.seq (IS.asgO 1 (IX.lst (IX.nil))) (IS.seq (IS.asg (Tg.nm 2) (IX.c (PyData.int 1))) (IS.seq (IS.forS [] (IX.rng1 (IX.cons (IX.ix (IX.pk 0) (IX.c (PyData.int 1))) (IX.nil))) (Tg.nm 3) (IS.seq (IS.app 1 (IX.var 2)) (IS.asg (Tg.nm 2) (IX.b2 (O2.mod) (IX.b2 (O2.mul) (IX.pk 2) (IX.ix (IX.pk 0) (IX.c (PyData.int 2)))) (IX.ix (IX.pk 0) (IX.c (PyData.int 0))))))) (IS.ret (IX.bi (Bi.tuple) (IX.cons (IX.bi (Bi.sorted) (IX.cons (IX.pk 1) (IX.nil))) (IX.nil)))))))
def di_members : DefI := ⟨["group"], cc_members, ir_members⟩
def dd_members : He.DefD := ⟨("members", none), "members", "members", defArgs (top 8), defBody (top 8), defScope (top 8), [], []⟩
def ir_check_member : IS := IS.seq (IS.ex (IX.call 1 1 (IX.argV 0 (IX.nil)))) (IS.ite (IX.tif (IX.tnot (IX.tev (IX.ch (O2.le) (O2.lt) (IX.c (PyData.int 1)) (IX.pk 1) (IX.ix (IX.pk 0) (IX.c (PyData.int 0)))))) (IX.tt) (IX.tev (IX.b2 (O2.ne) (IX.call 2 3 (IX.argC (IX.ix (IX.pk 0) (IX.c (PyData.int 0))) (IX.argV 1 (IX.argC (IX.ix (IX.pk 0) (IX.c (PyData.int 1))) (IX.nil))))) (IX.c (PyData.int 1))))) (IS.raise { cps := #[109, 101, 109, 98, 101, 114] }) (IS.skip))
def di_check_member : DefI := ⟨["group", "one"], cc_check_member, ir_check_member⟩
def dd_check_member : He.DefD := ⟨("check_member", none), "check_member", "check_member", defArgs (top 9), defBody (top 9), defScope (top 9), [], []⟩
def ir_log_of : IS := IS.seq (IS.ex (IX.call 5 2 (IX.argV 0 (IX.argV 1 (IX.nil))))) (IS.seq (IS.asg (Tg.nm 2) (IX.c (PyData.int 1))) (IS.seq (IS.forS [] (IX.rng1 (IX.cons (IX.ix (IX.pk 0) (IX.c (PyData.int 1))) (IX.nil))) (Tg.nm 3) (IS.seq (IS.ite (IX.tev (IX.b2 (O2.eq) (IX.pk 2) (IX.pk 1))) (IS.ret (IX.var 3)) (IS.skip)) (IS.asg (Tg.nm 2) (IX.b2 (O2.mod) (IX.b2 (O2.mul) (IX.pk 2) (IX.ix (IX.pk 0) (IX.c (PyData.int 2)))) (IX.ix (IX.pk 0) (IX.c (PyData.int 0))))))) (IS.ret (IX.c (PyData.none)))))
def di_log_of : DefI := ⟨["group", "one"], cc_log_of, ir_log_of⟩
def dd_log_of : He.DefD := ⟨("log_of", none), "log_of", "log_of", defArgs (top 10), defBody (top 10), defScope (top 10), [], []⟩
def ir_groups_up_to : IS := IS.seq (IS.ite (IX.tnot (IX.tev (IX.ch (O2.le) (O2.le) (IX.c (PyData.int 3)) (IX.pk 0) (IX.c (PyData.int 400))))) (IS.raise { cps := #[109, 111, 115, 116] }) (IS.skip)) (IS.seq (IS.asgO 1 (IX.lst (IX.nil))) (IS.seq (IS.forS [] (IX.rng2 (IX.cons (IX.c (PyData.int 3)) (IX.cons (IX.b2 (O2.add) (IX.pk 0) (IX.c (PyData.int 1))) (IX.nil)))) (Tg.nm 2) (IS.ite (IX.tru (IX.call 0 1 (IX.argV 2 (IX.nil)))) (IS.forS [] (IX.rng2 (IX.cons (IX.c (PyData.int 2)) (IX.cons (IX.var 2) (IX.nil)))) (Tg.nm 3) (IS.ite (IX.tif (IX.tru (IX.call 0 1 (IX.argV 3 (IX.nil)))) (IX.tev (IX.b2 (O2.eq) (IX.b2 (O2.mod) (IX.b2 (O2.sub) (IX.pk 2) (IX.c (PyData.int 1))) (IX.pk 3)) (IX.c (PyData.int 0)))) (IX.ff)) (IS.app 1 (IX.tup (IX.cons (IX.var 2) (IX.cons (IX.var 3) (IX.cons (IX.call 8 2 (IX.argV 2 (IX.argV 3 (IX.nil)))) (IX.nil)))))) (IS.skip))) (IS.skip))) (IS.ret (IX.bi (Bi.tuple) (IX.cons (IX.pk 1) (IX.nil))))))
def di_groups_up_to : DefI := ⟨["most"], cc_groups_up_to, ir_groups_up_to⟩
def dd_groups_up_to : He.DefD := ⟨("groups_up_to", none), "groups_up_to", "groups_up_to", defArgs (top 11), defBody (top 11), defScope (top 11), [], []⟩
def ir_base_of : IS := IS.seq (IS.forS [] (IX.rng2 (IX.cons (IX.c (PyData.int 2)) (IX.cons (IX.var 0) (IX.nil)))) (Tg.nm 2) (IS.ite (IX.tev (IX.b2 (O2.eq) (IX.call 2 3 (IX.argV 0 (IX.argV 2 (IX.argV 1 (IX.nil))))) (IX.c (PyData.int 1)))) (IS.ret (IX.var 2)) (IS.skip))) (IS.ret (IX.c (PyData.none)))
def di_base_of : DefI := ⟨["p", "q"], cc_base_of, ir_base_of⟩
def dd_base_of : He.DefD := ⟨("base_of", none), "base_of", "base_of", defArgs (top 12), defBody (top 12), defScope (top 12), [], []⟩
def ir_check_key : IS := IS.seq (IS.ex (IX.call 1 1 (IX.argV 0 (IX.nil)))) (IS.ite (IX.tnot (IX.tev (IX.ch (O2.le) (O2.lt) (IX.c (PyData.int 0)) (IX.pk 1) (IX.ix (IX.pk 0) (IX.c (PyData.int 1)))))) (IS.raise { cps := #[107, 101, 121] }) (IS.skip))
def di_check_key : DefI := ⟨["group", "key"], cc_check_key, ir_check_key⟩
def dd_check_key : He.DefD := ⟨("check_key", none), "check_key", "check_key", defArgs (top 13), defBody (top 13), defScope (top 13), [], []⟩
def ir_agreed : IS := IS.seq (IS.ex (IX.call 9 2 (IX.argV 0 (IX.argV 1 (IX.nil))))) (IS.seq (IS.ex (IX.call 9 2 (IX.argV 0 (IX.argV 2 (IX.nil))))) (IS.seq (IS.asg (Tg.tup (Tg.tcons (Tg.nm 3) (Tg.tcons (Tg.nm 4) (Tg.tcons (Tg.nm 5) (Tg.tnil))))) (IX.var 0)) (IS.seq (IS.par 6 7 (IX.call 2 3 (IX.argV 3 (IX.argV 5 (IX.argV 1 (IX.nil))))) (IX.call 2 3 (IX.argV 3 (IX.argV 5 (IX.argV 2 (IX.nil)))))) (IS.ret (IX.tup (IX.cons (IX.var 6) (IX.cons (IX.var 7) (IX.cons (IX.call 2 3 (IX.argV 3 (IX.argV 7 (IX.argV 1 (IX.nil))))) (IX.nil)))))))))
def di_agreed : DefI := ⟨["group", "own", "other"], cc_agreed, ir_agreed⟩
def dd_agreed : He.DefD := ⟨("agreed", none), "agreed", "agreed", defArgs (top 14), defBody (top 14), defScope (top 14), [], []⟩
def ir_lock : IS := IS.seq (IS.ex (IX.call 5 2 (IX.argV 0 (IX.argV 1 (IX.nil))))) (IS.seq (IS.ex (IX.call 5 2 (IX.argV 0 (IX.argV 2 (IX.nil))))) (IS.seq (IS.ex (IX.call 9 2 (IX.argV 0 (IX.argV 3 (IX.nil))))) (IS.seq (IS.asg (Tg.tup (Tg.tcons (Tg.nm 4) (Tg.tcons (Tg.nm 5) (Tg.tcons (Tg.nm 6) (Tg.tnil))))) (IX.var 0)) (IS.ret (IX.tup (IX.cons (IX.call 2 3 (IX.argV 4 (IX.argV 6 (IX.argV 3 (IX.nil))))) (IX.cons (IX.b2 (O2.mod) (IX.b2 (O2.mul) (IX.pk 2) (IX.call 2 3 (IX.argV 4 (IX.argV 1 (IX.argV 3 (IX.nil)))))) (IX.pk 4)) (IX.nil))))))))
def di_lock : DefI := ⟨["group", "public", "message", "drawn"], cc_lock, ir_lock⟩
def dd_lock : He.DefD := ⟨("lock", none), "lock", "lock", defArgs (top 15), defBody (top 15), defScope (top 15), [], []⟩
def ir_unlock : IS := IS.seq (IS.ex (IX.call 9 2 (IX.argV 0 (IX.argV 1 (IX.nil))))) (IS.seq (IS.ex (IX.call 5 2 (IX.argV 0 (IX.argC (IX.ix (IX.pk 2) (IX.c (PyData.int 0))) (IX.nil))))) (IS.seq (IS.ex (IX.call 5 2 (IX.argV 0 (IX.argC (IX.ix (IX.pk 2) (IX.c (PyData.int 1))) (IX.nil))))) (IS.seq (IS.asg (Tg.tup (Tg.tcons (Tg.nm 3) (Tg.tcons (Tg.nm 4) (Tg.tcons (Tg.nm 5) (Tg.tnil))))) (IX.var 0)) (IS.ret (IX.b2 (O2.mod) (IX.b2 (O2.mul) (IX.ix (IX.pk 2) (IX.c (PyData.int 1))) (IX.call 2 3 (IX.argV 3 (IX.argC (IX.ix (IX.pk 2) (IX.c (PyData.int 0))) (IX.argC (IX.b2 (O2.sub) (IX.pk 4) (IX.pk 1)) (IX.nil)))))) (IX.pk 3))))))
def di_unlock : DefI := ⟨["group", "key", "pair"], cc_unlock, ir_unlock⟩
def dd_unlock : He.DefD := ⟨("unlock", none), "unlock", "unlock", defArgs (top 16), defBody (top 16), defScope (top 16), [], []⟩
def ir_joined : IS := IS.seq (IS.forS [] (IX.seq (IX.b2 (O2.add) (IX.pk 1) (IX.pk 2))) (Tg.nm 3) (IS.ex (IX.call 5 2 (IX.argV 0 (IX.argV 3 (IX.nil)))))) (IS.ret (IX.tup (IX.cons (IX.b2 (O2.mod) (IX.b2 (O2.mul) (IX.ix (IX.pk 1) (IX.c (PyData.int 0))) (IX.ix (IX.pk 2) (IX.c (PyData.int 0)))) (IX.ix (IX.pk 0) (IX.c (PyData.int 0)))) (IX.cons (IX.b2 (O2.mod) (IX.b2 (O2.mul) (IX.ix (IX.pk 1) (IX.c (PyData.int 1))) (IX.ix (IX.pk 2) (IX.c (PyData.int 1)))) (IX.ix (IX.pk 0) (IX.c (PyData.int 0)))) (IX.nil)))))
def di_joined : DefI := ⟨["group", "one", "other"], cc_joined, ir_joined⟩
def dd_joined : He.DefD := ⟨("joined", none), "joined", "joined", defArgs (top 17), defBody (top 17), defScope (top 17), [], []⟩
def ir_relocked : IS := IS.ret (IX.call 13 3 (IX.argV 0 (IX.argV 2 (IX.argC (IX.call 11 4 (IX.argV 0 (IX.argV 1 (IX.argC (IX.c (PyData.int 1)) (IX.argV 3 (IX.nil)))))) (IX.nil)))))
def di_relocked : DefI := ⟨["group", "public", "pair", "drawn"], cc_relocked, ir_relocked⟩
def dd_relocked : He.DefD := ⟨("relocked", none), "relocked", "relocked", defArgs (top 18), defBody (top 18), defScope (top 18), [], []⟩
def ir_locked_alike : IS := IS.seq (IS.ex (IX.call 5 2 (IX.argV 0 (IX.argV 1 (IX.nil))))) (IS.seq (IS.ex (IX.call 5 2 (IX.argV 0 (IX.argV 2 (IX.nil))))) (IS.seq (IS.dnew 3) (IS.seq (IS.forS [] (IX.rng1 (IX.cons (IX.ix (IX.pk 0) (IX.c (PyData.int 1))) (IX.nil))) (Tg.nm 4) (IS.seq (IS.asg (Tg.nm 5) (IX.call 11 4 (IX.argV 0 (IX.argV 1 (IX.argV 2 (IX.argV 4 (IX.nil))))))) (IS.dput 3 (IX.var 5) (IX.b2 (O2.add) (IX.dget 3 (IX.var 5) (IX.c (PyData.int 0))) (IX.c (PyData.int 1)))))) (IS.ret (IX.bi (Bi.tuple) (IX.cons (IX.sitems 3) (IX.nil)))))))
def di_locked_alike : DefI := ⟨["group", "public", "message"], cc_locked_alike, ir_locked_alike⟩
def dd_locked_alike : He.DefD := ⟨("locked_alike", none), "locked_alike", "locked_alike", defArgs (top 19), defBody (top 19), defScope (top 19), [], []⟩
def ir_pledge : IS := IS.seq (IS.ex (IX.call 5 2 (IX.argV 0 (IX.argV 1 (IX.nil))))) (IS.seq (IS.ex (IX.call 9 2 (IX.argV 0 (IX.argV 2 (IX.nil))))) (IS.seq (IS.ex (IX.call 9 2 (IX.argV 0 (IX.argV 3 (IX.nil))))) (IS.seq (IS.asg (Tg.tup (Tg.tcons (Tg.nm 4) (Tg.tcons (Tg.nm 5) (Tg.tcons (Tg.nm 6) (Tg.tnil))))) (IX.var 0)) (IS.ret (IX.b2 (O2.mod) (IX.b2 (O2.mul) (IX.call 2 3 (IX.argV 4 (IX.argV 6 (IX.argV 2 (IX.nil))))) (IX.call 2 3 (IX.argV 4 (IX.argV 1 (IX.argV 3 (IX.nil)))))) (IX.pk 4))))))
def di_pledge : DefI := ⟨["group", "second", "message", "drawn"], cc_pledge, ir_pledge⟩
def dd_pledge : He.DefD := ⟨("pledge", none), "pledge", "pledge", defArgs (top 20), defBody (top 20), defScope (top 20), [], []⟩
def ir_pledges_of : IS := IS.seq (IS.ex (IX.call 5 2 (IX.argV 0 (IX.argV 1 (IX.nil))))) (IS.seq (IS.ex (IX.call 9 2 (IX.argV 0 (IX.argV 2 (IX.nil))))) (IS.seq (IS.dnew 3) (IS.seq (IS.forS [] (IX.rng1 (IX.cons (IX.ix (IX.pk 0) (IX.c (PyData.int 1))) (IX.nil))) (Tg.nm 4) (IS.seq (IS.asg (Tg.nm 5) (IX.call 16 4 (IX.argV 0 (IX.argV 1 (IX.argV 2 (IX.argV 4 (IX.nil))))))) (IS.dput 3 (IX.var 5) (IX.b2 (O2.add) (IX.dget 3 (IX.var 5) (IX.c (PyData.int 0))) (IX.c (PyData.int 1)))))) (IS.ret (IX.bi (Bi.tuple) (IX.cons (IX.sitems 3) (IX.nil)))))))
def di_pledges_of : DefI := ⟨["group", "second", "message"], cc_pledges_of, ir_pledges_of⟩
def dd_pledges_of : He.DefD := ⟨("pledges_of", none), "pledges_of", "pledges_of", defArgs (top 21), defBody (top 21), defScope (top 21), [], []⟩
def ir_broken : IS := IS.seq (IS.forS [] (IX.seq (IX.tup (IX.cons (IX.var 2) (IX.cons (IX.var 3) (IX.nil))))) (Tg.tup (Tg.tcons (Tg.nm 7) (Tg.tcons (Tg.nm 8) (Tg.tnil)))) (IS.seq (IS.ex (IX.call 9 2 (IX.argV 0 (IX.argV 7 (IX.nil))))) (IS.ex (IX.call 9 2 (IX.argV 0 (IX.argV 8 (IX.nil))))))) (IS.seq (IS.asg (Tg.nm 4) (IX.b2 (O2.eq) (IX.call 16 4 (IX.argV 0 (IX.argV 1 (IX.argC (IX.ix (IX.pk 2) (IX.c (PyData.int 0))) (IX.argC (IX.ix (IX.pk 2) (IX.c (PyData.int 1))) (IX.nil)))))) (IX.call 16 4 (IX.argV 0 (IX.argV 1 (IX.argC (IX.ix (IX.pk 3) (IX.c (PyData.int 0))) (IX.argC (IX.ix (IX.pk 3) (IX.c (PyData.int 1))) (IX.nil)))))))) (IS.seq (IS.ite (IX.tif (IX.tnot (IX.tru (IX.pk 4))) (IX.tt) (IX.tev (IX.b2 (O2.eq) (IX.ix (IX.pk 2) (IX.c (PyData.int 1))) (IX.ix (IX.pk 3) (IX.c (PyData.int 1)))))) (IS.ret (IX.c (PyData.none))) (IS.skip)) (IS.seq (IS.asg (Tg.nm 5) (IX.ix (IX.pk 0) (IX.c (PyData.int 1)))) (IS.seq (IS.asg (Tg.nm 6) (IX.b2 (O2.mod) (IX.b2 (O2.sub) (IX.ix (IX.pk 3) (IX.c (PyData.int 1))) (IX.ix (IX.pk 2) (IX.c (PyData.int 1)))) (IX.pk 5))) (IS.ret (IX.b2 (O2.mod) (IX.b2 (O2.mul) (IX.b2 (O2.sub) (IX.ix (IX.pk 2) (IX.c (PyData.int 0))) (IX.ix (IX.pk 3) (IX.c (PyData.int 0)))) (IX.call 2 3 (IX.argV 5 (IX.argV 6 (IX.argC (IX.b2 (O2.sub) (IX.pk 5) (IX.c (PyData.int 2))) (IX.nil)))))) (IX.pk 5)))))))
def di_broken : DefI := ⟨["group", "second", "first", "other"], cc_broken, ir_broken⟩
def dd_broken : He.DefD := ⟨("broken", none), "broken", "broken", defArgs (top 22), defBody (top 22), defScope (top 22), [], []⟩
def ir_other_opening : IS := IS.seq (IS.ex (IX.call 5 2 (IX.argV 0 (IX.argV 1 (IX.nil))))) (IS.seq (IS.ex (IX.call 9 2 (IX.argV 0 (IX.argV 2 (IX.nil))))) (IS.seq (IS.ex (IX.call 9 2 (IX.argV 0 (IX.argV 3 (IX.nil))))) (IS.seq (IS.ex (IX.call 9 2 (IX.argV 0 (IX.argV 4 (IX.nil))))) (IS.seq (IS.ex (IX.call 9 2 (IX.argV 0 (IX.argV 5 (IX.nil))))) (IS.seq (IS.asg (Tg.tup (Tg.tcons (Tg.nm 6) (Tg.tcons (Tg.nm 7) (Tg.tcons (Tg.nm 8) (Tg.tnil))))) (IX.var 0)) (IS.seq (IS.ite (IX.tif (IX.tev (IX.b2 (O2.ne) (IX.call 2 3 (IX.argV 6 (IX.argV 8 (IX.argV 2 (IX.nil))))) (IX.pk 1))) (IX.tt) (IX.tev (IX.b2 (O2.eq) (IX.pk 2) (IX.c (PyData.int 0))))) (IS.raise { cps := #[119, 97, 121] }) (IS.skip)) (IS.ret (IX.b2 (O2.mod) (IX.b2 (O2.add) (IX.pk 4) (IX.b2 (O2.mul) (IX.b2 (O2.sub) (IX.pk 3) (IX.pk 5)) (IX.call 2 3 (IX.argV 7 (IX.argV 2 (IX.argC (IX.b2 (O2.sub) (IX.pk 7) (IX.c (PyData.int 2))) (IX.nil))))))) (IX.pk 7)))))))))
def di_other_opening : DefI := ⟨["group", "second", "way", "message", "drawn", "wanted"], cc_other_opening, ir_other_opening⟩
def dd_other_opening : He.DefD := ⟨("other_opening", none), "other_opening", "other_opening", defArgs (top 23), defBody (top 23), defScope (top 23), [], []⟩
def ir_shared_unlock : IS := IS.seq (IS.ex (IX.call 1 1 (IX.argV 0 (IX.nil)))) (IS.seq (IS.asg (Tg.tup (Tg.tcons (Tg.nm 6) (Tg.tcons (Tg.nm 7) (Tg.tcons (Tg.nm 8) (Tg.tnil))))) (IX.var 0)) (IS.seq (IS.ite (IX.tev (IX.b2 (O2.ne) (IX.bi (Bi.len) (IX.cons (IX.pk 1) (IX.nil))) (IX.bi (Bi.len) (IX.cons (IX.pk 2) (IX.nil))))) (IS.raise { cps := #[102, 97, 99, 116, 111, 114, 115] }) (IS.skip)) (IS.seq (IS.forS [3] (IX.seq (IX.pk 3)) (Tg.nm 4) (IS.ex (IX.call 5 2 (IX.argV 0 (IX.argV 4 (IX.nil)))))) (IS.seq (IS.asg (Tg.nm 5) (IX.c (PyData.int 1))) (IS.seq (IS.forS [1, 2] (IX.zip2 (IX.cons (IX.pk 1) (IX.cons (IX.pk 2) (IX.nil)))) (Tg.tup (Tg.tcons (Tg.nm 9) (Tg.tcons (Tg.nm 10) (Tg.tnil)))) (IS.seq (IS.ex (IX.call 9 2 (IX.argV 0 (IX.argV 9 (IX.nil))))) (IS.asg (Tg.nm 5) (IX.b2 (O2.mod) (IX.b2 (O2.mul) (IX.pk 5) (IX.call 2 3 (IX.argV 6 (IX.argC (IX.ix (IX.pk 3) (IX.c (PyData.int 0))) (IX.argC (IX.b2 (O2.mod) (IX.b2 (O2.mul) (IX.pk 9) (IX.pk 10)) (IX.pk 7)) (IX.nil)))))) (IX.pk 6))))) (IS.ret (IX.b2 (O2.mod) (IX.b2 (O2.mul) (IX.ix (IX.pk 3) (IX.c (PyData.int 1))) (IX.call 2 3 (IX.argV 6 (IX.argV 5 (IX.argC (IX.b2 (O2.sub) (IX.pk 7) (IX.c (PyData.int 1))) (IX.nil)))))) (IX.pk 6))))))))
def di_shared_unlock : DefI := ⟨["group", "keys", "factors", "pair"], cc_shared_unlock, ir_shared_unlock⟩
def dd_shared_unlock : He.DefD := ⟨("shared_unlock", none), "shared_unlock", "shared_unlock", defArgs (top 24), defBody (top 24), defScope (top 24), [], []⟩
def ir__law_begin : IS := IS.seq (IS.asg (Tg.nm 1) (IX.c (PyData.int 1))) (IS.seq (IS.forS [] (IX.scI 0) (Tg.nm 2) (IS.asg (Tg.nm 1) (IX.b2 (O2.mod) (IX.b2 (O2.add) (IX.b2 (O2.add) (IX.b2 (O2.mul) (IX.pk 1) (IX.c (PyData.int 69621))) (IX.b2 (O2.mod) (IX.bi (Bi.int) (IX.cons (IX.pk 2) (IX.nil))) (IX.c (PyData.int 2147483629)))) (IX.c (PyData.int 7))) (IX.c (PyData.int 2147483647))))) (IS.ret (IX.lst (IX.cons (IX.scL 0) (IX.cons (IX.c (PyData.int 0)) (IX.cons (IX.c (PyData.int 0)) (IX.cons (IX.var 1) (IX.nil))))))))
def di__law_begin : DefI := ⟨["script"], cc__law_begin, ir__law_begin⟩
def dd__law_begin : He.DefD := ⟨("_law_begin", none), "_law_begin", "_law_begin", defArgs (top 26), defBody (top 26), defScope (top 26), [], []⟩
def ir__law_take : IS := IS.seq (IS.ite (IX.tif (IX.tev (IX.b2 (O2.eq) (IX.dr 0 2) (IX.c (PyData.int 0)))) (IX.tev (IX.b2 (O2.lt) (IX.dr 0 1) (IX.bi (Bi.len) (IX.cons (IX.dr 0 0) (IX.nil))))) (IX.ff)) (IS.seq (IS.drSet 0 2 (IX.bi (Bi.abs) (IX.cons (IX.bi (Bi.int) (IX.cons (IX.ix (IX.dr 0 0) (IX.dr 0 1)) (IX.nil))) (IX.nil)))) (IS.seq (IS.drSet 0 1 (IX.b2 (O2.add) (IX.dr 0 1) (IX.c (PyData.int 1)))) (IS.ite (IX.tev (IX.b2 (O2.lt) (IX.dr 0 2) (IX.b2 (O2.pow) (IX.c (PyData.int 10)) (IX.c (PyData.int 18))))) (IS.seq (IS.asg (Tg.nm 3) (IX.bi (Bi.int) (IX.cons (IX.dr 0 2) (IX.nil)))) (IS.seq (IS.drSet 0 2 (IX.c (PyData.int 0))) (IS.ret (IX.b2 (O2.mod) (IX.pk 3) (IX.pk 1))))) (IS.skip)))) (IS.skip)) (IS.seq (IS.ite (IX.tev (IX.b2 (O2.gt) (IX.dr 0 2) (IX.c (PyData.int 0)))) (IS.seq (IS.asg (Tg.nm 2) (IX.b2 (O2.mod) (IX.bi (Bi.int) (IX.cons (IX.dr 0 2) (IX.nil))) (IX.pk 1))) (IS.seq (IS.drSet 0 2 (IX.b2 (O2.div) (IX.bi (Bi.int) (IX.cons (IX.dr 0 2) (IX.nil))) (IX.pk 1))) (IS.ret (IX.var 2)))) (IS.skip)) (IS.seq (IS.drSet 0 3 (IX.b2 (O2.mod) (IX.bi (Bi.int) (IX.cons (IX.b2 (O2.add) (IX.b2 (O2.mul) (IX.dr 0 3) (IX.c (PyData.int 48271))) (IX.c (PyData.int 11))) (IX.nil))) (IX.c (PyData.int 2147483647)))) (IS.ret (IX.b2 (O2.mod) (IX.bi (Bi.int) (IX.cons (IX.b2 (O2.div) (IX.dr 0 3) (IX.c (PyData.int 3))) (IX.nil))) (IX.pk 1)))))
def di__law_take : DefI := ⟨["d", "many"], cc__law_take, ir__law_take⟩
def dd__law_take : He.DefD := ⟨("_law_take", none), "_law_take", "_law_take", defArgs (top 27), defBody (top 27), defScope (top 27), [], []⟩
def ir__law_power : IS := IS.seq (IS.asg (Tg.nm 3) (IX.c (PyData.int 1))) (IS.seq (IS.forS [] (IX.rng1 (IX.cons (IX.var 2) (IX.nil))) (Tg.nm 4) (IS.asg (Tg.nm 3) (IX.b2 (O2.mod) (IX.bi (Bi.int) (IX.cons (IX.b2 (O2.mul) (IX.pk 3) (IX.pk 1)) (IX.nil))) (IX.pk 0)))) (IS.ret (IX.var 3)))
def di__law_power : DefI := ⟨["p", "base", "times"], cc__law_power, ir__law_power⟩
def dd__law_power : He.DefD := ⟨("_law_power", none), "_law_power", "_law_power", defArgs (top 29), defBody (top 29), defScope (top 29), [], []⟩
def ir__law_prime : IS := IS.ret (IX.andV (IX.b2 (O2.gt) (IX.pk 0) (IX.c (PyData.int 1))) (IX.b2 (O2.eq) (IX.bi (Bi.len) (IX.cons (IX.lc (IX.rng2 (IX.cons (IX.c (PyData.int 2)) (IX.cons (IX.var 0) (IX.nil)))) (Tg.nm 1) [1] (IX.tev (IX.b2 (O2.eq) (IX.b2 (O2.mod) (IX.bi (Bi.int) (IX.cons (IX.pk 0) (IX.nil))) (IX.pk 1)) (IX.c (PyData.int 0)))) (IX.var 1)) (IX.nil))) (IX.c (PyData.int 0))))
def di__law_prime : DefI := ⟨["number"], cc__law_prime, ir__law_prime⟩
def dd__law_prime : He.DefD := ⟨("_law_prime", none), "_law_prime", "_law_prime", defArgs (top 30), defBody (top 30), defScope (top 30), [], []⟩
def ir__law_group : IS := IS.seq (IS.asg (Tg.nm 1) (IX.lst (IX.cons (IX.tup (IX.cons (IX.c (PyData.int 5)) (IX.cons (IX.c (PyData.int 2)) (IX.cons (IX.c (PyData.int 4)) (IX.nil))))) (IX.cons (IX.tup (IX.cons (IX.c (PyData.int 7)) (IX.cons (IX.c (PyData.int 3)) (IX.cons (IX.c (PyData.int 2)) (IX.nil))))) (IX.cons (IX.tup (IX.cons (IX.c (PyData.int 11)) (IX.cons (IX.c (PyData.int 5)) (IX.cons (IX.c (PyData.int 3)) (IX.nil))))) (IX.cons (IX.tup (IX.cons (IX.c (PyData.int 13)) (IX.cons (IX.c (PyData.int 3)) (IX.cons (IX.c (PyData.int 3)) (IX.nil))))) (IX.cons (IX.tup (IX.cons (IX.c (PyData.int 23)) (IX.cons (IX.c (PyData.int 11)) (IX.cons (IX.c (PyData.int 2)) (IX.nil))))) (IX.cons (IX.tup (IX.cons (IX.c (PyData.int 29)) (IX.cons (IX.c (PyData.int 7)) (IX.cons (IX.c (PyData.int 7)) (IX.nil))))) (IX.cons (IX.tup (IX.cons (IX.c (PyData.int 31)) (IX.cons (IX.c (PyData.int 5)) (IX.cons (IX.c (PyData.int 2)) (IX.nil))))) (IX.cons (IX.tup (IX.cons (IX.c (PyData.int 47)) (IX.cons (IX.c (PyData.int 23)) (IX.cons (IX.c (PyData.int 2)) (IX.nil))))) (IX.cons (IX.tup (IX.cons (IX.c (PyData.int 7)) (IX.cons (IX.c (PyData.int 2)) (IX.cons (IX.c (PyData.int 6)) (IX.nil))))) (IX.cons (IX.tup (IX.cons (IX.c (PyData.int 3)) (IX.cons (IX.c (PyData.int 2)) (IX.cons (IX.c (PyData.int 2)) (IX.nil))))) (IX.nil))))))))))))) (IS.ret (IX.ix (IX.pk 1) (IX.call 22 2 (IX.argV 0 (IX.argC (IX.c (PyData.int 10)) (IX.nil))))))
def di__law_group : DefI := ⟨["d"], cc__law_group, ir__law_group⟩
def dd__law_group : He.DefD := ⟨("_law_group", none), "_law_group", "_law_group", defArgs (top 31), defBody (top 31), defScope (top 31), [], []⟩
def ir__law_wrong : IS := IS.seq (IS.asg (Tg.nm 0) (IX.tup (IX.cons (IX.c (PyData.int 7)) (IX.cons (IX.c (PyData.int 3)) (IX.cons (IX.c (PyData.int 2)) (IX.nil)))))) (IS.seq (IS.forS [] (IX.seq (IX.lst (IX.cons (IX.tup (IX.cons (IX.tup (IX.cons (IX.c (PyData.int 9)) (IX.cons (IX.c (PyData.int 2)) (IX.cons (IX.c (PyData.int 2)) (IX.nil))))) (IX.cons (IX.c (PyData.str { cps := #[112, 114, 105, 109, 101] })) (IX.nil)))) (IX.cons (IX.tup (IX.cons (IX.tup (IX.cons (IX.c (PyData.int 401)) (IX.cons (IX.c (PyData.int 2)) (IX.cons (IX.c (PyData.int 400)) (IX.nil))))) (IX.cons (IX.c (PyData.str { cps := #[112, 114, 105, 109, 101] })) (IX.nil)))) (IX.cons (IX.tup (IX.cons (IX.tup (IX.cons (IX.c (PyData.int 7)) (IX.cons (IX.c (PyData.int 4)) (IX.cons (IX.c (PyData.int 2)) (IX.nil))))) (IX.cons (IX.c (PyData.str { cps := #[111, 114, 100, 101, 114] })) (IX.nil)))) (IX.cons (IX.tup (IX.cons (IX.tup (IX.cons (IX.c (PyData.int 7)) (IX.cons (IX.c (PyData.int 5)) (IX.cons (IX.c (PyData.int 2)) (IX.nil))))) (IX.cons (IX.c (PyData.str { cps := #[111, 114, 100, 101, 114] })) (IX.nil)))) (IX.cons (IX.tup (IX.cons (IX.tup (IX.cons (IX.c (PyData.int 7)) (IX.cons (IX.c (PyData.int 3)) (IX.cons (IX.c (PyData.int 1)) (IX.nil))))) (IX.cons (IX.c (PyData.str { cps := #[98, 97, 115, 101] })) (IX.nil)))) (IX.cons (IX.tup (IX.cons (IX.tup (IX.cons (IX.c (PyData.int 7)) (IX.cons (IX.c (PyData.int 3)) (IX.cons (IX.c (PyData.int 3)) (IX.nil))))) (IX.cons (IX.c (PyData.str { cps := #[98, 97, 115, 101] })) (IX.nil)))) (IX.nil))))))))) (Tg.tup (Tg.tcons (Tg.nm 1) (Tg.tcons (Tg.nm 2) (Tg.tnil)))) (IS.ite (IX.tif (IX.tev (IX.b2 (O2.ne) (IX.told (IX.call 4 1 (IX.argV 1 (IX.nil)))) (IX.pk 2))) (IX.tt) (IX.tif (IX.tev (IX.b2 (O2.ne) (IX.told (IX.call 10 3 (IX.argV 1 (IX.argC (IX.c (PyData.int 0)) (IX.argC (IX.c (PyData.int 0)) (IX.nil)))))) (IX.pk 2))) (IX.tt) (IX.tev (IX.b2 (O2.ne) (IX.told (IX.call 11 4 (IX.argV 1 (IX.argC (IX.c (PyData.int 1)) (IX.argC (IX.c (PyData.int 1)) (IX.argC (IX.c (PyData.int 0)) (IX.nil))))))) (IX.pk 2))))) (IS.ret (IX.c (PyData.bool false))) (IS.skip))) (IS.seq (IS.ite (IX.tif (IX.tev (IX.b2 (O2.ne) (IX.told (IX.call 3 3 (IX.argV 0 (IX.argC (IX.c (PyData.int 0)) (IX.argC (IX.c (PyData.int 1)) (IX.nil)))))) (IX.c (PyData.str { cps := #[109, 101, 109, 98, 101, 114] })))) (IX.tt) (IX.tif (IX.tev (IX.b2 (O2.ne) (IX.told (IX.call 6 2 (IX.argV 0 (IX.argC (IX.c (PyData.int 3)) (IX.nil))))) (IX.c (PyData.str { cps := #[109, 101, 109, 98, 101, 114] })))) (IX.tt) (IX.tif (IX.tev (IX.b2 (O2.ne) (IX.told (IX.call 10 3 (IX.argV 0 (IX.argC (IX.c (PyData.int 3)) (IX.argC (IX.c (PyData.int 0)) (IX.nil)))))) (IX.c (PyData.str { cps := #[107, 101, 121] })))) (IX.tt) (IX.tev (IX.b2 (O2.ne) (IX.told (IX.call 10 3 (IX.argV 0 (IX.argC (IX.c (PyData.int 0)) (IX.argC (IX.neg (IX.c (PyData.int 1))) (IX.nil)))))) (IX.c (PyData.str { cps := #[107, 101, 121] }))))))) (IS.ret (IX.c (PyData.bool false))) (IS.skip)) (IS.seq (IS.ite (IX.tif (IX.tev (IX.b2 (O2.ne) (IX.told (IX.call 11 4 (IX.argV 0 (IX.argC (IX.c (PyData.int 3)) (IX.argC (IX.c (PyData.int 1)) (IX.argC (IX.c (PyData.int 0)) (IX.nil))))))) (IX.c (PyData.str { cps := #[109, 101, 109, 98, 101, 114] })))) (IX.tt) (IX.tif (IX.tev (IX.b2 (O2.ne) (IX.told (IX.call 12 3 (IX.argV 0 (IX.argC (IX.c (PyData.int 0)) (IX.argC (IX.tup (IX.cons (IX.c (PyData.int 1)) (IX.cons (IX.c (PyData.int 3)) (IX.nil)))) (IX.nil)))))) (IX.c (PyData.str { cps := #[109, 101, 109, 98, 101, 114] })))) (IX.tt) (IX.tif (IX.tev (IX.b2 (O2.ne) (IX.told (IX.call 16 4 (IX.argV 0 (IX.argC (IX.c (PyData.int 2)) (IX.argC (IX.c (PyData.int 3)) (IX.argC (IX.c (PyData.int 0)) (IX.nil))))))) (IX.c (PyData.str { cps := #[107, 101, 121] })))) (IX.tt) (IX.tev (IX.b2 (O2.ne) (IX.told (IX.call 7 1 (IX.argC (IX.c (PyData.int 2)) (IX.nil)))) (IX.c (PyData.str { cps := #[109, 111, 115, 116] }))))))) (IS.ret (IX.c (PyData.bool false))) (IS.skip)) (IS.ret (IX.andV (IX.b2 (O2.eq) (IX.told (IX.call 19 6 (IX.argV 0 (IX.argC (IX.c (PyData.int 2)) (IX.argC (IX.c (PyData.int 2)) (IX.argC (IX.c (PyData.int 0)) (IX.argC (IX.c (PyData.int 0)) (IX.argC (IX.c (PyData.int 0)) (IX.nil))))))))) (IX.c (PyData.str { cps := #[119, 97, 121] }))) (IX.andV (IX.b2 (O2.eq) (IX.told (IX.call 19 6 (IX.argV 0 (IX.argC (IX.c (PyData.int 1)) (IX.argC (IX.c (PyData.int 0)) (IX.argC (IX.c (PyData.int 0)) (IX.argC (IX.c (PyData.int 0)) (IX.argC (IX.c (PyData.int 0)) (IX.nil))))))))) (IX.c (PyData.str { cps := #[119, 97, 121] }))) (IX.b2 (O2.eq) (IX.told (IX.call 20 4 (IX.argV 0 (IX.argC (IX.tup (IX.cons (IX.c (PyData.int 0)) (IX.nil))) (IX.argC (IX.tup (IX.nil)) (IX.argC (IX.tup (IX.cons (IX.c (PyData.int 1)) (IX.cons (IX.c (PyData.int 1)) (IX.nil)))) (IX.nil))))))) (IX.c (PyData.str { cps := #[102, 97, 99, 116, 111, 114, 115] })))))))))
def di__law_wrong : DefI := ⟨[], cc__law_wrong, ir__law_wrong⟩
def dd__law_wrong : He.DefD := ⟨("_law_wrong", none), "_law_wrong", "_law_wrong", defArgs (top 32), defBody (top 32), defScope (top 32), [], []⟩
def ir__law_part1 : IS := IS.seq (IS.asg (Tg.nm 9) (IX.lc (IX.seq (IX.pk 8)) (Tg.nm 27) [27] (IX.tt) (IX.b2 (O2.sub) (IX.call 22 2 (IX.argV 0 (IX.argC (IX.c (PyData.int 9)) (IX.nil)))) (IX.c (PyData.int 4))))) (IS.seq (IS.asg (Tg.nm 10) (IX.b2 (O2.mod) (IX.bi (Bi.int) (IX.cons (IX.bi (Bi.sum) (IX.cons (IX.lc (IX.rng1 (IX.cons (IX.bi (Bi.len) (IX.cons (IX.pk 8) (IX.nil))) (IX.nil))) (Tg.nm 29) [29] (IX.tt) (IX.b2 (O2.mul) (IX.ix (IX.pk 8) (IX.pk 29)) (IX.ix (IX.pk 9) (IX.pk 29)))) (IX.nil))) (IX.nil))) (IX.pk 3))) (IS.seq (IS.asg (Tg.nm 11) (IX.call 11 4 (IX.argV 1 (IX.argC (IX.ix (IX.pk 4) (IX.pk 10)) (IX.argV 6 (IX.argV 5 (IX.nil))))))) (IS.seq (IS.ite (IX.tev (IX.b2 (O2.ne) (IX.call 20 4 (IX.argV 1 (IX.argC (IX.bi (Bi.tuple) (IX.cons (IX.pk 8) (IX.nil))) (IX.argC (IX.bi (Bi.tuple) (IX.cons (IX.pk 9) (IX.nil))) (IX.argV 11 (IX.nil)))))) (IX.pk 6))) (IS.ret (IX.c (PyData.bool false))) (IS.skip)) (IS.seq (IS.asg (Tg.nm 12) (IX.b2 (O2.add) (IX.c (PyData.int 1)) (IX.call 22 2 (IX.argV 0 (IX.argC (IX.b2 (O2.sub) (IX.pk 3) (IX.c (PyData.int 1))) (IX.nil)))))) (IS.seq (IS.asg (Tg.nm 13) (IX.ix (IX.pk 4) (IX.pk 12))) (IS.seq (IS.asg (Tg.nm 14) (IX.call 22 2 (IX.argV 0 (IX.argV 3 (IX.nil))))) (IS.seq (IS.asg (Tg.nm 15) (IX.call 16 4 (IX.argV 1 (IX.argV 13 (IX.argV 14 (IX.argV 5 (IX.nil))))))) (IS.seq (IS.ite (IX.tif (IX.tev (IX.b2 (O2.ne) (IX.pk 15) (IX.b2 (O2.mod) (IX.bi (Bi.int) (IX.cons (IX.b2 (O2.mul) (IX.ix (IX.pk 4) (IX.pk 14)) (IX.call 24 3 (IX.argV 2 (IX.argV 13 (IX.argV 5 (IX.nil)))))) (IX.nil))) (IX.pk 2)))) (IX.tt) (IX.tev (IX.b2 (O2.ne) (IX.pk 15) (IX.ix (IX.pk 4) (IX.b2 (O2.mod) (IX.bi (Bi.int) (IX.cons (IX.b2 (O2.add) (IX.pk 14) (IX.b2 (O2.mul) (IX.pk 12) (IX.pk 5))) (IX.nil))) (IX.pk 3)))))) (IS.ret (IX.c (PyData.bool false))) (IS.skip)) (IS.seq (IS.asg (Tg.nm 16) (IX.call 17 3 (IX.argV 1 (IX.argV 13 (IX.argV 14 (IX.nil)))))) (IS.seq (IS.ite (IX.tif (IX.tev (IX.b2 (O2.ne) (IX.pk 16) (IX.bi (Bi.tuple) (IX.cons (IX.lc (IX.seq (IX.bi (Bi.sorted) (IX.cons (IX.pk 4) (IX.nil)))) (Tg.nm 30) [30] (IX.tt) (IX.tup (IX.cons (IX.var 30) (IX.cons (IX.c (PyData.int 1)) (IX.nil))))) (IX.nil))))) (IX.tt) (IX.tif (IX.tev (IX.b2 (O2.ne) (IX.call 17 3 (IX.argV 1 (IX.argV 13 (IX.argV 7 (IX.nil))))) (IX.pk 16))) (IX.tt) (IX.tev (IX.b2 (O2.ne) (IX.call 17 3 (IX.argV 1 (IX.argC (IX.c (PyData.int 1)) (IX.argV 14 (IX.nil))))) (IX.tup (IX.cons (IX.tup (IX.cons (IX.ix (IX.pk 4) (IX.pk 14)) (IX.cons (IX.var 3) (IX.nil)))) (IX.nil))))))) (IS.ret (IX.c (PyData.bool false))) (IS.skip)) (IS.seq (IS.asg (Tg.nm 17) (IX.call 22 2 (IX.argV 0 (IX.argV 3 (IX.nil))))) (IS.seq (IS.asg (Tg.nm 18) (IX.call 19 6 (IX.argV 1 (IX.argV 13 (IX.argV 12 (IX.argV 14 (IX.argV 5 (IX.argV 17 (IX.nil))))))))) (IS.seq (IS.ite (IX.tev (IX.b2 (O2.ne) (IX.call 16 4 (IX.argV 1 (IX.argV 13 (IX.argV 17 (IX.argV 18 (IX.nil)))))) (IX.pk 15))) (IS.ret (IX.c (PyData.bool false))) (IS.skip)) (IS.seq (IS.ite (IX.tev (IX.b2 (O2.ne) (IX.call 18 4 (IX.argV 1 (IX.argV 13 (IX.argC (IX.tup (IX.cons (IX.var 14) (IX.cons (IX.var 5) (IX.nil)))) (IX.argC (IX.tup (IX.cons (IX.var 17) (IX.cons (IX.var 18) (IX.nil)))) (IX.nil)))))) (IX.ife (IX.tev (IX.b2 (O2.ne) (IX.pk 18) (IX.pk 5))) (IX.var 12) (IX.c (PyData.none))))) (IS.ret (IX.c (PyData.bool false))) (IS.skip)) (IS.seq (IS.asg (Tg.nm 19) (IX.call 22 2 (IX.argV 0 (IX.argV 3 (IX.nil))))) (IS.seq (IS.asg (Tg.nm 20) (IX.andV (IX.b2 (O2.eq) (IX.call 16 4 (IX.argV 1 (IX.argV 13 (IX.argV 7 (IX.argV 19 (IX.nil)))))) (IX.pk 15)) (IX.b2 (O2.ne) (IX.pk 19) (IX.pk 5)))) (IS.seq (IS.ite (IX.tev (IX.b2 (O2.ne) (IX.call 18 4 (IX.argV 1 (IX.argV 13 (IX.argC (IX.tup (IX.cons (IX.var 14) (IX.cons (IX.var 5) (IX.nil)))) (IX.argC (IX.tup (IX.cons (IX.var 7) (IX.cons (IX.var 19) (IX.nil)))) (IX.nil)))))) (IX.ife (IX.tru (IX.pk 20)) (IX.var 12) (IX.c (PyData.none))))) (IS.ret (IX.c (PyData.bool false))) (IS.skip)) (IS.seq (IS.asg (Tg.nm 21) (IX.b2 (O2.add) (IX.c (PyData.int 3)) (IX.call 22 2 (IX.argV 0 (IX.argC (IX.c (PyData.int 30)) (IX.nil)))))) (IS.seq (IS.asg (Tg.nm 22) (IX.call 7 1 (IX.argV 21 (IX.nil)))) (IS.seq (IS.asg (Tg.nm 23) (IX.lst (IX.nil))) (IS.seq (IS.forS [] (IX.rng2 (IX.cons (IX.c (PyData.int 3)) (IX.cons (IX.b2 (O2.add) (IX.pk 21) (IX.c (PyData.int 1))) (IX.nil)))) (Tg.nm 24) (IS.ite (IX.tru (IX.call 25 1 (IX.argV 24 (IX.nil)))) (IS.asg (Tg.nm 23) (IX.b2 (O2.add) (IX.pk 23) (IX.lc (IX.rng2 (IX.cons (IX.c (PyData.int 2)) (IX.cons (IX.var 24) (IX.nil)))) (Tg.nm 25) [25] (IX.tif (IX.tru (IX.call 25 1 (IX.argV 25 (IX.nil)))) (IX.tev (IX.b2 (O2.eq) (IX.b2 (O2.mod) (IX.bi (Bi.int) (IX.cons (IX.b2 (O2.sub) (IX.pk 24) (IX.c (PyData.int 1))) (IX.nil))) (IX.pk 25)) (IX.c (PyData.int 0)))) (IX.ff)) (IX.tup (IX.cons (IX.var 24) (IX.cons (IX.var 25) (IX.nil))))))) (IS.skip))) (IS.seq (IS.ite (IX.tev (IX.b2 (O2.ne) (IX.lc (IX.seq (IX.pk 22)) (Tg.nm 28) [28] (IX.tt) (IX.tup (IX.cons (IX.ix (IX.pk 28) (IX.c (PyData.int 0))) (IX.cons (IX.ix (IX.pk 28) (IX.c (PyData.int 1))) (IX.nil))))) (IX.pk 23))) (IS.ret (IX.c (PyData.bool false))) (IS.skip)) (IS.seq (IS.forS [22] (IX.seq (IX.pk 22)) (Tg.tup (Tg.tcons (Tg.nm 24) (Tg.tcons (Tg.nm 25) (Tg.tcons (Tg.nm 26) (Tg.tnil))))) (IS.ite (IX.tev (IX.b2 (O2.ne) (IX.pk 26) (IX.ix (IX.lc (IX.rng2 (IX.cons (IX.c (PyData.int 2)) (IX.cons (IX.var 24) (IX.nil)))) (Tg.nm 29) [29] (IX.tev (IX.b2 (O2.eq) (IX.call 24 3 (IX.argV 24 (IX.argV 29 (IX.argV 25 (IX.nil))))) (IX.c (PyData.int 1)))) (IX.var 29)) (IX.c (PyData.int 0))))) (IS.ret (IX.c (PyData.bool false))) (IS.skip))) (IS.ret (IX.call 27 0 (IX.nil))))))))))))))))))))))))))
def di__law_part1 : DefI := ⟨["d", "group", "p", "q", "own", "b", "message", "c", "keys"], cc__law_part1, ir__law_part1⟩
def dd__law_part1 : He.DefD := ⟨("_law_part1", none), "_law_part1", "_law_part1", defArgs (top 33), defBody (top 33), defScope (top 33), [], []⟩
def ir_law : IS := IS.seq (IS.asg (Tg.nm 2) (IX.call 26 1 (IX.argV 1 (IX.nil)))) (IS.seq (IS.asg (Tg.tup (Tg.tcons (Tg.nm 18) (Tg.tcons (Tg.nm 19) (Tg.tcons (Tg.nm 20) (Tg.tnil))))) (IX.var 2)) (IS.seq (IS.asg (Tg.nm 3) (IX.lc (IX.rng1 (IX.cons (IX.var 19) (IX.nil))) (Tg.nm 24) [24] (IX.tt) (IX.call 24 3 (IX.argV 18 (IX.argV 20 (IX.argV 24 (IX.nil))))))) (IS.seq (IS.ite (IX.tif (IX.tev (IX.b2 (O2.ne) (IX.call 4 1 (IX.argV 2 (IX.nil))) (IX.bi (Bi.tuple) (IX.cons (IX.bi (Bi.sorted) (IX.cons (IX.pk 3) (IX.nil))) (IX.nil))))) (IX.tt) (IX.tev (IX.b2 (O2.ne) (IX.bi (Bi.lset) (IX.cons (IX.pk 3) (IX.nil))) (IX.pk 19)))) (IS.ret (IX.c (PyData.bool false))) (IS.skip)) (IS.seq (IS.asg (Tg.nm 4) (IX.ix (IX.pk 3) (IX.call 22 2 (IX.argV 1 (IX.argV 19 (IX.nil)))))) (IS.seq (IS.ite (IX.tev (IX.b2 (O2.ne) (IX.call 6 2 (IX.argV 2 (IX.argV 4 (IX.nil)))) (IX.idx 3 (IX.var 4)))) (IS.ret (IX.c (PyData.bool false))) (IS.skip)) (IS.seq (IS.asg (Tg.nm 5) (IX.b2 (O2.add) (IX.c (PyData.int 1)) (IX.call 22 2 (IX.argV 1 (IX.argC (IX.b2 (O2.sub) (IX.pk 18) (IX.c (PyData.int 1))) (IX.nil)))))) (IS.seq (IS.asg (Tg.nm 6) (IX.b2 (O2.sub) (IX.call 22 2 (IX.argV 1 (IX.argC (IX.c (PyData.int 60)) (IX.nil)))) (IX.c (PyData.int 20)))) (IS.seq (IS.asg (Tg.nm 7) (IX.call 24 3 (IX.argV 18 (IX.argV 5 (IX.argC (IX.bi (Bi.abs) (IX.cons (IX.pk 6) (IX.nil))) (IX.nil)))))) (IS.seq (IS.ite (IX.tev (IX.b2 (O2.ne) (IX.call 3 3 (IX.argV 2 (IX.argV 5 (IX.argV 6 (IX.nil))))) (IX.ife (IX.tev (IX.b2 (O2.ge) (IX.pk 6) (IX.c (PyData.int 0)))) (IX.var 7) (IX.ix (IX.lc (IX.rng2 (IX.cons (IX.c (PyData.int 1)) (IX.cons (IX.var 18) (IX.nil)))) (Tg.nm 24) [24] (IX.tev (IX.b2 (O2.eq) (IX.b2 (O2.mod) (IX.bi (Bi.int) (IX.cons (IX.b2 (O2.mul) (IX.pk 24) (IX.pk 7)) (IX.nil))) (IX.pk 18)) (IX.c (PyData.int 1)))) (IX.var 24)) (IX.c (PyData.int 0)))))) (IS.ret (IX.c (PyData.bool false))) (IS.skip)) (IS.seq (IS.asg (Tg.nm 8) (IX.call 22 2 (IX.argV 1 (IX.argV 19 (IX.nil))))) (IS.seq (IS.asg (Tg.nm 9) (IX.call 22 2 (IX.argV 1 (IX.argV 19 (IX.nil))))) (IS.seq (IS.asg (Tg.tup (Tg.tcons (Tg.nm 21) (Tg.tcons (Tg.nm 22) (Tg.tcons (Tg.nm 23) (Tg.tnil))))) (IX.call 10 3 (IX.argV 2 (IX.argV 8 (IX.argV 9 (IX.nil)))))) (IS.seq (IS.ite (IX.tif (IX.tev (IX.b2 (O2.ne) (IX.pk 21) (IX.ix (IX.pk 3) (IX.pk 8)))) (IX.tt) (IX.tif (IX.tev (IX.b2 (O2.ne) (IX.pk 22) (IX.ix (IX.pk 3) (IX.pk 9)))) (IX.tt) (IX.tif (IX.tev (IX.b2 (O2.ne) (IX.pk 23) (IX.call 24 3 (IX.argV 18 (IX.argC (IX.ix (IX.pk 3) (IX.pk 8)) (IX.argV 9 (IX.nil))))))) (IX.tt) (IX.tif (IX.tev (IX.b2 (O2.ne) (IX.pk 23) (IX.call 24 3 (IX.argV 18 (IX.argC (IX.ix (IX.pk 3) (IX.pk 9)) (IX.argV 8 (IX.nil))))))) (IX.tt) (IX.tev (IX.b2 (O2.ne) (IX.call 10 3 (IX.argV 2 (IX.argV 9 (IX.argV 8 (IX.nil))))) (IX.tup (IX.cons (IX.var 22) (IX.cons (IX.var 21) (IX.cons (IX.var 23) (IX.nil))))))))))) (IS.ret (IX.c (PyData.bool false))) (IS.skip)) (IS.seq (IS.asg (Tg.nm 10) (IX.ix (IX.pk 3) (IX.pk 8))) (IS.seq (IS.asg (Tg.nm 11) (IX.ix (IX.pk 3) (IX.call 22 2 (IX.argV 1 (IX.argV 19 (IX.nil)))))) (IS.seq (IS.asg (Tg.nm 12) (IX.ix (IX.pk 3) (IX.call 22 2 (IX.argV 1 (IX.argV 19 (IX.nil)))))) (IS.seq (IS.asg (Tg.nm 13) (IX.call 11 4 (IX.argV 2 (IX.argV 10 (IX.argV 11 (IX.argV 9 (IX.nil))))))) (IS.seq (IS.asg (Tg.nm 14) (IX.call 22 2 (IX.argV 1 (IX.argV 19 (IX.nil))))) (IS.seq (IS.asg (Tg.nm 15) (IX.call 11 4 (IX.argV 2 (IX.argV 10 (IX.argV 12 (IX.argV 14 (IX.nil))))))) (IS.seq (IS.ite (IX.tif (IX.tev (IX.b2 (O2.ne) (IX.pk 13) (IX.tup (IX.cons (IX.ix (IX.pk 3) (IX.pk 9)) (IX.cons (IX.b2 (O2.mod) (IX.bi (Bi.int) (IX.cons (IX.b2 (O2.mul) (IX.pk 11) (IX.call 24 3 (IX.argV 18 (IX.argV 10 (IX.argV 9 (IX.nil)))))) (IX.nil))) (IX.pk 18)) (IX.nil)))))) (IX.tt) (IX.tev (IX.b2 (O2.ne) (IX.call 12 3 (IX.argV 2 (IX.argV 8 (IX.argV 13 (IX.nil))))) (IX.pk 11)))) (IS.ret (IX.c (PyData.bool false))) (IS.skip)) (IS.seq (IS.ite (IX.tif (IX.tev (IX.b2 (O2.ne) (IX.call 13 3 (IX.argV 2 (IX.argV 13 (IX.argV 15 (IX.nil))))) (IX.tup (IX.cons (IX.b2 (O2.mod) (IX.bi (Bi.int) (IX.cons (IX.b2 (O2.mul) (IX.ix (IX.pk 13) (IX.c (PyData.int 0))) (IX.ix (IX.pk 15) (IX.c (PyData.int 0)))) (IX.nil))) (IX.pk 18)) (IX.cons (IX.b2 (O2.mod) (IX.bi (Bi.int) (IX.cons (IX.b2 (O2.mul) (IX.ix (IX.pk 13) (IX.c (PyData.int 1))) (IX.ix (IX.pk 15) (IX.c (PyData.int 1)))) (IX.nil))) (IX.pk 18)) (IX.nil)))))) (IX.tt) (IX.tev (IX.b2 (O2.ne) (IX.call 12 3 (IX.argV 2 (IX.argV 8 (IX.argC (IX.call 13 3 (IX.argV 2 (IX.argV 13 (IX.argV 15 (IX.nil))))) (IX.nil))))) (IX.b2 (O2.mod) (IX.bi (Bi.int) (IX.cons (IX.b2 (O2.mul) (IX.pk 11) (IX.pk 12)) (IX.nil))) (IX.pk 18))))) (IS.ret (IX.c (PyData.bool false))) (IS.skip)) (IS.seq (IS.ite (IX.tif (IX.tev (IX.b2 (O2.ne) (IX.call 14 4 (IX.argV 2 (IX.argV 10 (IX.argV 13 (IX.argV 14 (IX.nil)))))) (IX.call 11 4 (IX.argV 2 (IX.argV 10 (IX.argV 11 (IX.argC (IX.b2 (O2.mod) (IX.bi (Bi.int) (IX.cons (IX.b2 (O2.add) (IX.pk 9) (IX.pk 14)) (IX.nil))) (IX.pk 19)) (IX.nil)))))))) (IX.tt) (IX.tev (IX.b2 (O2.ne) (IX.call 12 3 (IX.argV 2 (IX.argV 8 (IX.argC (IX.call 14 4 (IX.argV 2 (IX.argV 10 (IX.argV 13 (IX.argV 14 (IX.nil)))))) (IX.nil))))) (IX.pk 11)))) (IS.ret (IX.c (PyData.bool false))) (IS.skip)) (IS.seq (IS.asg (Tg.nm 16) (IX.call 15 3 (IX.argV 2 (IX.argV 10 (IX.argV 11 (IX.nil)))))) (IS.seq (IS.ite (IX.tif (IX.tev (IX.b2 (O2.ne) (IX.lc (IX.seq (IX.pk 16)) (Tg.nm 25) [25] (IX.tt) (IX.ix (IX.pk 25) (IX.c (PyData.int 0)))) (IX.bi (Bi.sorted) (IX.cons (IX.lc (IX.rng1 (IX.cons (IX.var 19) (IX.nil))) (Tg.nm 24) [24] (IX.tt) (IX.tup (IX.cons (IX.ix (IX.pk 3) (IX.pk 24)) (IX.cons (IX.b2 (O2.mod) (IX.bi (Bi.int) (IX.cons (IX.b2 (O2.mul) (IX.pk 11) (IX.call 24 3 (IX.argV 18 (IX.argV 10 (IX.argV 24 (IX.nil)))))) (IX.nil))) (IX.pk 18)) (IX.nil))))) (IX.nil))))) (IX.tt) (IX.tev (IX.b2 (O2.gt) (IX.bi (Bi.len) (IX.cons (IX.lc (IX.seq (IX.pk 16)) (Tg.nm 25) [25] (IX.tev (IX.b2 (O2.ne) (IX.ix (IX.pk 25) (IX.c (PyData.int 1))) (IX.c (PyData.int 1)))) (IX.c (PyData.int 1))) (IX.nil))) (IX.c (PyData.int 0))))) (IS.ret (IX.c (PyData.bool false))) (IS.skip)) (IS.seq (IS.asg (Tg.nm 17) (IX.lc (IX.rng1 (IX.cons (IX.b2 (O2.add) (IX.c (PyData.int 1)) (IX.call 22 2 (IX.argV 1 (IX.argC (IX.c (PyData.int 3)) (IX.nil))))) (IX.nil))) (Tg.nm 24) [24] (IX.tt) (IX.call 22 2 (IX.argV 1 (IX.argV 19 (IX.nil)))))) (IS.ret (IX.call 28 9 (IX.argV 1 (IX.argV 2 (IX.argV 18 (IX.argV 19 (IX.argV 3 (IX.argV 9 (IX.argV 11 (IX.argV 14 (IX.argV 17 (IX.nil)))))))))))))))))))))))))))))))))))))
def di_law : DefI := ⟨["script"], cc_law, ir_law⟩
def dd_law : He.DefD := ⟨("law", none), "law", "law", defArgs (top 34), defBody (top 34), defScope (top 34), [], []⟩
def dd__law_told : He.DefD := ⟨("_law_told", none), "_law_told", "_law_told", defArgs (top 28), defBody (top 28), defScope (top 28), [], []⟩
def tab (i : Nat) : Option DefI := match i with
  | 0 => some di_is_prime
  | 1 => some di_check
  | 2 => some di_power_in
  | 3 => some di_power
  | 4 => some di_members
  | 5 => some di_check_member
  | 6 => some di_log_of
  | 7 => some di_groups_up_to
  | 8 => some di_base_of
  | 9 => some di_check_key
  | 10 => some di_agreed
  | 11 => some di_lock
  | 12 => some di_unlock
  | 13 => some di_joined
  | 14 => some di_relocked
  | 15 => some di_locked_alike
  | 16 => some di_pledge
  | 17 => some di_pledges_of
  | 18 => some di_broken
  | 19 => some di_other_opening
  | 20 => some di_shared_unlock
  | 21 => some di__law_begin
  | 22 => some di__law_take
  | 24 => some di__law_power
  | 25 => some di__law_prime
  | 26 => some di__law_group
  | 27 => some di__law_wrong
  | 28 => some di__law_part1
  | 29 => some di_law
  | _ => none
def sp (i : Nat) : Option Fn := none
abbrev FP (k : Nat) : Nat → Fn := FF tab sp k
end Row

set_option Elab.async false
set_option linter.all false
set_option maxRecDepth 100000
set_option maxHeartbeats 1000000
namespace Row
open PySem PySem.Spec PyProof.Rows L2 L2.DL
open Enc (enc)
variable [TabL]
local macro_rules | `(tactic| trivial) => `(tactic| (simp only [decide_eq_true_eq, decide_eq_false_iff_not, Bool.and_eq_true, Bool.or_eq_true, Bool.not_eq_true', Bool.not_eq_false', Bool.or_eq_false_iff, Bool.and_eq_false_iff, List.length_map, irange_len, List.length_append, List.length_cons, List.length_nil]; omega))
local macro_rules | `(tactic| trivial) => `(tactic| exact Nat.le_of_ble_eq_true rfl)
local macro_rules | `(tactic| trivial) => `(tactic| omega)
local macro_rules | `(tactic| trivial) => `(tactic| assumption)
theorem FP_run {n i : Nat} {d : DefI} (h : tab i = some d) (hn : 1 ≤ n) : FP n i = run1 (FP (n - 1)) d := by
  obtain ⟨k, rfl⟩ : ∃ k, n = k + 1 := ⟨n - 1, by omega⟩
  show FF tab sp (k + 1) i = _
  rw [FF, h]
  rfl
variable {n : Nat} {s : Dr}
theorem take (hn : 1 ≤ n) {m : Int} (hm : 0 < m) (hb : m < 1000000000000000000) (hs : DrOk s) : Took m (FP n 22 [.drw, .val (.int m)] s) := by
  rw [FP_run (d := di__law_take) rfl hn]
  exact take_ok _ (by kernel_rfl) (by kernel_rfl) hm (divB_small hm hb) hs
theorem begin_ (hn : 1 ≤ n) (ns : List Int) (hl : ns.length ≤ 64) (s : Dr) : FP n 21 [.scr ns] s = .ok (.list [.list (ns.map .int), .int 0, .int 0, .int (seedF ns 1)], s) := by
  rw [FP_run (d := di__law_begin) rfl hn]
  exact begin_ok _ (by kernel_rfl) (by kernel_rfl) ns hl s
/-! ### powers modulo -/
def pw (p b t : Int) : Int := b ^ t.toNat % p
theorem mm {p a b : Int} : (a % p) * b % p = a * b % p := by rw [Int.mul_emod, Int.emod_emod, ← Int.mul_emod]
theorem mm2 {p a b : Int} : a * (b % p) % p = a * b % p := by rw [Int.mul_emod, Int.emod_emod, ← Int.mul_emod]
theorem pow_mm {p a : Int} : ∀ k : Nat, (a % p) ^ k % p = a ^ k % p
  | 0 => by rw [Int.pow_zero, Int.pow_zero]
  | k + 1 => by rw [Int.pow_succ, Int.pow_succ, mm2, ← mm, pow_mm k, mm]
theorem pw_in {p b t : Int} (hp : 2 ≤ p) : 0 ≤ pw p b t ∧ pw p b t < p := ⟨Int.emod_nonneg _ (by omega), Int.emod_lt_of_pos _ (by omega)⟩
theorem pw_zero {p b : Int} (hp : 2 ≤ p) : pw p b 0 = 1 := by
  unfold pw
  rw [show (0 : Int).toNat = 0 from rfl, Int.pow_zero]
  exact Int.emod_eq_of_lt (by omega) (by omega)
theorem pw_add {p b i j : Int} (hi : 0 ≤ i) (hj : 0 ≤ j) : pw p b (i + j) = pw p b i * pw p b j % p := by
  unfold pw
  rw [mm, mm2, Int.toNat_add hi hj, Int.pow_add]
theorem pw_one {p b : Int} : pw p b 1 = b % p := by
  unfold pw
  show b ^ 1 % p = _
  rw [Int.pow_succ, Int.pow_zero, Int.one_mul]
theorem pw_succ {p b i : Int} (hi : 0 ≤ i) : pw p b (i + 1) = pw p b i * b % p := by rw [pw_add hi (by omega), pw_one, mm2]
theorem pw_mod {p b i : Int} : pw p (b % p) i = pw p b i := pow_mm _
theorem ipow_mul (b : Int) (m : Nat) : ∀ n : Nat, (b ^ m) ^ n = b ^ (m * n)
  | 0 => by rw [Int.pow_zero, Nat.mul_zero, Int.pow_zero]
  | n + 1 => by rw [Int.pow_succ, ipow_mul b m n, Nat.mul_succ, Int.pow_add]
theorem imul_pow (a b : Int) : ∀ n : Nat, (a * b) ^ n = a ^ n * b ^ n
  | 0 => by rw [Int.pow_zero, Int.pow_zero, Int.pow_zero, Int.mul_one]
  | n + 1 => by rw [Int.pow_succ, imul_pow a b n, Int.pow_succ, Int.pow_succ, Int.mul_assoc, Int.mul_assoc, ← Int.mul_assoc (b ^ n), ← Int.mul_assoc a, Int.mul_comm (b ^ n) a]
theorem pw_mul {p b i j : Int} (hi : 0 ≤ i) (hj : 0 ≤ j) : pw p (pw p b i) j = pw p b (i * j) := by
  show (b ^ i.toNat % p) ^ j.toNat % p = _
  rw [pow_mm, ipow_mul]
  show _ = b ^ (i * j).toNat % p
  rw [Int.toNat_mul hi hj]
theorem pw_mulb {p a b i : Int} : pw p (a * b % p) i = pw p a i * pw p b i % p := by
  rw [pw_mod]
  unfold pw
  rw [mm, mm2, imul_pow]
theorem half_step {p f b : Int} (k : Nat) : (f * (b * b % p) ^ (k / 2)) % p * (if k % 2 = 1 then b else 1) % p = f * b ^ k % p := by
  have h1 : (f * (b * b % p) ^ (k / 2)) % p = f * b ^ (2 * (k / 2)) % p := by
    rw [← mm2, pow_mm, mm2]
    congr 2
    rw [← ipow_mul, Int.pow_succ, Int.pow_succ, Int.pow_zero, Int.one_mul]
  rw [h1, mm, Int.mul_assoc]
  congr 2
  rcases Nat.mod_two_eq_zero_or_one k with h | h
  · rw [if_neg (by omega), Int.mul_one]
    congr 1
    omega
  · rw [if_pos h, ← Int.pow_succ]
    congr 1
    omega
theorem power_in (hn : 1 ≤ n) {p b t : Int} (hp : 2 ≤ p) (hp2 : p ≤ 1000) (hb : -1000 ≤ b) (hb2 : b ≤ 1000) (ht : 0 ≤ t) (ht2 : t < 90000) : FP n 2 [.val (.int p), .val (.int b), .val (.int t)] s = .ok (.int (pw p b t), s) := by
  rw [FP_run (d := di_power_in) rfl (by omega)]
  apply Wp.eq
  show Wp (evS' (FP (n - 1)) ir_power_in _ _ _ [.val (.int p), .val (.int b), .val (.int t), .no] s) _
  unfold ir_power_in
  have m0 : ∀ x : Int, 0 ≤ x % p ∧ x % p < p := fun x => ⟨Int.emod_nonneg _ (by omega), Int.emod_lt_of_pos _ (by omega)⟩
  simp (disch := trivial)
  refine while_inv (fun k env s' => s' = s ∧ ∃ f c : Int, 0 ≤ f ∧ f < p ∧ 0 ≤ c ∧ c < p ∧ f * c ^ k % p = pw p b t ∧ env = [.val (.int p), .val (.int c), .val (.int (k : Int)), .val (.int f)]) (n0 := t.toNat) ⟨rfl, 1, b % p, by omega, by omega, (m0 b).1, (m0 b).2, ?_, ?_⟩ (by omega) ?_
  · rw [Int.one_mul]; exact pow_mm _
  · rw [Int.toNat_of_nonneg ht]
  rintro k env s kk ⟨rfl, f, c, f0, f1, c0, c1, e, rfl⟩ hk
  cases k with
  | zero =>
    rw [Int.pow_zero, Int.mul_one, Int.emod_eq_of_lt f0 f1] at e
    simp (disch := trivial) [e]
  | succ k =>
    have hs := half_step (p := p) (f := f) (b := c) (k + 1)
    have hlt : (k + 1) / 2 < k + 1 := by omega
    have hc : (((k + 1 : Nat) : Int) / 2) = (((k + 1) / 2 : Nat) : Int) := by omega
    simp (disch := trivial)
    refine Wp.ite_of (fun hc1 => ?_) fun hc1 => ?_
    · have hc2 : (k + 1) % 2 = 1 := by
        have := of_decide_eq_true hc1
        omega
      rw [if_pos hc2, e] at hs
      simp (disch := trivial)
      refine hk _ _ _ hlt ⟨rfl, f * c % p, c * c % p, (m0 _).1, (m0 _).2, (m0 _).1, (m0 _).2, ?_, by rw [← hc]; rfl⟩
      rw [← hs, mm, mm]
      congr 1
      rw [Int.mul_assoc, Int.mul_comm c, ← Int.mul_assoc]
    · have hc2 : ¬ (k + 1) % 2 = 1 := by
        have := of_decide_eq_false hc1
        omega
      rw [if_neg hc2, Int.mul_one, Int.emod_emod, e] at hs
      simp (disch := trivial)
      exact hk _ _ _ hlt ⟨rfl, f, c * c % p, f0, f1, (m0 _).1, (m0 _).2, hs, by rw [← hc]; rfl⟩
theorem law_power (hn : 1 ≤ n) {p b t : Int} (hp : 2 ≤ p) (hp2 : p ≤ 1000) (hb : -1000 ≤ b) (hb2 : b ≤ 1000) (ht : 0 ≤ t) (ht2 : t < 90000) : FP n 24 [.val (.int p), .val (.int b), .val (.int t)] s = .ok (.int (pw p b t), s) := by
  rw [FP_run (d := di__law_power) rfl (by omega)]
  apply Wp.eq
  show Wp (evS' (FP (n - 1)) ir__law_power _ _ _ [.val (.int p), .val (.int b), .val (.int t), .no, .no] s) _
  unfold ir__law_power
  simp (disch := trivial)
  refine for_inv (fun pre post env s' => s' = s ∧ ∃ y, y.nl = true ∧ env = [.val (.int p), .val (.int b), .val (.int t), .val (.int (pw p b pre.length)), y]) ⟨rfl, .no, rfl, by rw [show ((([] : List Int).length : Nat) : Int) = 0 from rfl, pw_zero hp]⟩ ?_ ?_
  · rintro pre x post env s kk kb e ⟨rfl, y, hy, rfl⟩ hkk hkb
    have := pw_in (p := p) (b := b) (t := (pre.length : Int)) hp
    simp (disch := trivial)
    refine hkk _ _ ⟨rfl, .val (.int x), rfl, ?_⟩
    rw [List.length_append, List.length_singleton]
    rw [show ((pre.length + 1 : Nat) : Int) = (pre.length : Int) + 1 by omega, pw_succ (by omega)]
  · rintro env s' ⟨rfl, y, hy, rfl⟩
    rw [irange_len, show (((t - 0).toNat : Nat) : Int) = t by omega]
    simp (disch := trivial)
end Row

set_option Elab.async false
set_option linter.all false
set_option maxRecDepth 100000
set_option maxHeartbeats 1000000
namespace Row
open PySem PySem.Spec PyProof.Rows L2 L2.DL
open Enc (enc)
variable [TabL]
local macro_rules | `(tactic| trivial) => `(tactic| (simp only [decide_eq_true_eq, decide_eq_false_iff_not, Bool.and_eq_true, Bool.or_eq_true, Bool.not_eq_true', Bool.not_eq_false', Bool.or_eq_false_iff, Bool.and_eq_false_iff, List.length_map, irange_len, List.length_append, List.length_cons, List.length_nil]; omega))
local macro_rules | `(tactic| trivial) => `(tactic| exact Nat.le_of_ble_eq_true rfl)
local macro_rules | `(tactic| trivial) => `(tactic| omega)
local macro_rules | `(tactic| trivial) => `(tactic| assumption)
variable {n : Nat} {s : Dr}
def ownL (p q g : Int) : List Int := (irange 0 q).map (pw p g)
structure Gr (p q g : Int) : Prop where
  p1 : 3 ≤ p
  p2 : p ≤ 47
  q1 : 2 ≤ q
  q2 : q ≤ 23
  qp : q < p
  g1 : 2 ≤ g
  g2 : g < p
  pg : pw p g q = 1
  fer : ∀ b, 1 ≤ b → b < p → pw p b (p - 1) = 1
  fq : ∀ w, 1 ≤ w → w < q → pw q w (q - 1) = 1
  nd : (ownL p q g).Nodup
  pos : ∀ i, 0 ≤ i → i < q → 1 ≤ pw p g i
  ck : ∀ k s, FP (k + 2) 1 [.val (.tuple [.int p, .int q, .int g])] s = .ok (.none, s)
def grB (p q g : Int) : Bool := decide (3 ≤ p) && (decide (p ≤ 47) && (decide (2 ≤ q) && (decide (q ≤ 23) && (decide (q < p) && (decide (2 ≤ g) && (decide (g < p) && (decide (pw p g q = 1) && ((irange 1 p).all (fun b => decide (pw p b (p - 1) = 1)) && ((irange 1 q).all (fun w => decide (pw q w (q - 1) = 1)) && (decide (ownL p q g).Nodup && (irange 0 q).all fun i => decide (1 ≤ pw p g i)))))))))))
theorem gr_mk {p q g : Int} (h : grB p q g = true) (ck : ∀ k s, FP (k + 2) 1 [.val (.tuple [.int p, .int q, .int g])] s = .ok (.none, s)) : Gr p q g := by
  unfold grB at h
  simp only [Bool.and_eq_true, decide_eq_true_eq, List.all_eq_true, mem_irange, and_imp] at h
  obtain ⟨h1, h2, h3, h4, h5, h6, h7, h8, h9, h10, h11, h12⟩ := h
  exact ⟨h1, h2, h3, h4, h5, h6, h7, h8, h9, h10, h11, h12, ck⟩
theorem gr0 : Gr 5 2 4 := gr_mk (by decide +kernel) fun k s => by kernel_rfl
theorem gr1 : Gr 7 3 2 := gr_mk (by decide +kernel) fun k s => by kernel_rfl
theorem gr2 : Gr 11 5 3 := gr_mk (by decide +kernel) fun k s => by kernel_rfl
theorem gr3 : Gr 13 3 3 := gr_mk (by decide +kernel) fun k s => by kernel_rfl
theorem gr4 : Gr 23 11 2 := gr_mk (by decide +kernel) fun k s => by kernel_rfl
theorem gr5 : Gr 29 7 7 := gr_mk (by decide +kernel) fun k s => by kernel_rfl
theorem gr6 : Gr 31 5 2 := gr_mk (by decide +kernel) fun k s => by kernel_rfl
theorem gr7 : Gr 47 23 2 := gr_mk (by decide +kernel) fun k s => by kernel_rfl
theorem gr8 : Gr 7 2 6 := gr_mk (by decide +kernel) fun k s => by kernel_rfl
theorem gr9 : Gr 3 2 2 := gr_mk (by decide +kernel) fun k s => by kernel_rfl
theorem law_group (hn : 2 ≤ n) (hs : DrOk s) : Wp (FP n 26 [.drw] s) fun d s' => ∃ p q g, d = .tuple [.int p, .int q, .int g] ∧ Gr p q g ∧ DrOk s' := by
  rw [FP_run (d := di__law_group) rfl (by omega)]
  show Wp (evS' (FP (n - 1)) ir__law_group _ _ _ [.drw, .no] s) _
  unfold ir__law_group
  simp (disch := trivial)
  refine wp_took (take (by omega) (by omega) (by omega) hs) fun t s t0 t1 hs => ?_
  have ht : t = 0 ∨ t = 1 ∨ t = 2 ∨ t = 3 ∨ t = 4 ∨ t = 5 ∨ t = 6 ∨ t = 7 ∨ t = 8 ∨ t = 9 := by omega
  rcases ht with rfl | rfl | rfl | rfl | rfl | rfl | rfl | rfl | rfl | rfl
  · exact ⟨_, _, rfl, _, _, _, rfl, gr0, hs⟩
  · exact ⟨_, _, rfl, _, _, _, rfl, gr1, hs⟩
  · exact ⟨_, _, rfl, _, _, _, rfl, gr2, hs⟩
  · exact ⟨_, _, rfl, _, _, _, rfl, gr3, hs⟩
  · exact ⟨_, _, rfl, _, _, _, rfl, gr4, hs⟩
  · exact ⟨_, _, rfl, _, _, _, rfl, gr5, hs⟩
  · exact ⟨_, _, rfl, _, _, _, rfl, gr6, hs⟩
  · exact ⟨_, _, rfl, _, _, _, rfl, gr7, hs⟩
  · exact ⟨_, _, rfl, _, _, _, rfl, gr8, hs⟩
  · exact ⟨_, _, rfl, _, _, _, rfl, gr9, hs⟩
section
variable {p q g : Int}
theorem Gr.ckn (G : Gr p q g) (hn : 2 ≤ n) : FP n 1 [.val (.tuple [.int p, .int q, .int g])] s = .ok (.none, s) := by
  obtain ⟨k, rfl⟩ : ∃ k, n = k + 2 := ⟨n - 2, by omega⟩
  exact G.ck k s
/-- a member -/
def Mem (p q g x : Int) : Prop := 1 ≤ x ∧ x < p ∧ pw p x q = 1
theorem check_member (hn : 3 ≤ n) (G : Gr p q g) {x : Int} (h : Mem p q g x) : FP n 5 [.val (.tuple [.int p, .int q, .int g]), .val (.int x)] s = .ok (.none, s) := by
  rw [FP_run (d := di_check_member) rfl (by omega)]
  apply Wp.eq
  show Wp (evS' (FP (n - 1)) ir_check_member _ _ _ [.val (.tuple [.int p, .int q, .int g]), .val (.int x)] s) _
  unfold ir_check_member
  obtain ⟨h1, h2, h3⟩ := h
  have ck := fun s => G.ckn (n := n - 1) (s := s) (by omega)
  obtain ⟨p1, p2, q1, q2, qp, g1, g2, -⟩ := G
  have pi := fun s => power_in (n := n - 1) (s := s) (p := p) (b := x) (t := q) (by omega) (by omega) (by omega) (by omega) (by omega) (by omega) (by omega)
  simp (disch := trivial) [ck, pi, h3]
theorem check_key (hn : 3 ≤ n) (G : Gr p q g) {x : Int} (h : 0 ≤ x) (h2 : x < q) : FP n 9 [.val (.tuple [.int p, .int q, .int g]), .val (.int x)] s = .ok (.none, s) := by
  rw [FP_run (d := di_check_key) rfl (by omega)]
  apply Wp.eq
  show Wp (evS' (FP (n - 1)) ir_check_key _ _ _ [.val (.tuple [.int p, .int q, .int g]), .val (.int x)] s) _
  unfold ir_check_key
  have ck := fun s => G.ckn (n := n - 1) (s := s) (by omega)
  obtain ⟨p1, p2, q1, q2, qp, g1, g2, -⟩ := G
  simp (disch := trivial) [ck]
theorem power (hn : 3 ≤ n) (G : Gr p q g) {b t : Int} (h : 1 ≤ b) (h2 : b < p) : FP n 3 [.val (.tuple [.int p, .int q, .int g]), .val (.int b), .val (.int t)] s = .ok (.int (pw p b (t % (p - 1))), s) := by
  rw [FP_run (d := di_power) rfl (by omega)]
  apply Wp.eq
  show Wp (evS' (FP (n - 1)) ir_power _ _ _ [.val (.tuple [.int p, .int q, .int g]), .val (.int b), .val (.int t)] s) _
  unfold ir_power
  have ck := fun s => G.ckn (n := n - 1) (s := s) (by omega)
  obtain ⟨p1, p2, q1, q2, qp, g1, g2, -⟩ := G
  have m0 : 0 ≤ t % (p - 1) ∧ t % (p - 1) < p - 1 := ⟨Int.emod_nonneg _ (by omega), Int.emod_lt_of_pos _ (by omega)⟩
  have pi := fun s => power_in (n := n - 1) (s := s) (p := p) (b := b) (t := t % (p - 1)) (by omega) (by omega) (by omega) (by omega) (by omega) m0.1 (by omega)
  simp (disch := trivial) [ck, pi]
theorem ownL_snoc {i : Int} (h : 0 ≤ i) : ownL p (i + 1) g = ownL p i g ++ [pw p g i] := by
  unfold ownL
  rw [irange_snoc h, List.map_append]; rfl
theorem members (hn : 3 ≤ n) (G : Gr p q g) : FP n 4 [.val (.tuple [.int p, .int q, .int g])] s = .ok (enc (sortE (ownL p q g)), s) := by
  rw [FP_run (d := di_members) rfl (by omega)]
  apply Wp.eq
  show Wp (evS' (FP (n - 1)) ir_members _ _ _ [.val (.tuple [.int p, .int q, .int g]), .no, .no, .no] s) _
  unfold ir_members
  have ck := fun s => G.ckn (n := n - 1) (s := s) (by omega)
  obtain ⟨p1, p2, q1, q2, qp, g1, g2, -⟩ := G
  simp (disch := trivial) [ck]
  refine for_inv (fun pre post env s' => s' = s ∧ ∃ y, y.nl = true ∧ env = [.val (.tuple [.int p, .int q, .int g]), .lst false (encs (ownL p pre.length g)), .val (.int (pw p g pre.length)), y]) ⟨rfl, .no, rfl, by rw [show ((([] : List Int).length : Nat) : Int) = 0 from rfl, pw_zero (by omega)]; rfl⟩ ?_ ?_
  · rintro pre x post env s kk kb e ⟨rfl, y, hy, rfl⟩ hkk hkb
    obtain ⟨e1, x0, x1, e4⟩ := irange_at e
    have := pw_in (p := p) (b := g) (t := (pre.length : Int)) (by omega)
    have hl : (ownL p (pre.length : Int) g).length < 16777216 := by unfold ownL; rw [List.length_map, irange_len]; omega
    simp (disch := trivial)
    refine hkk _ _ ⟨rfl, .val (.int x), rfl, ?_⟩
    rw [List.length_append, List.length_singleton]
    rw [show ((pre.length + 1 : Nat) : Int) = (pre.length : Int) + 1 by omega, pw_succ (by omega), ownL_snoc (by omega)]
  · rintro env s' ⟨rfl, y, hy, rfl⟩
    rw [irange_len, show (((q - 0).toNat : Nat) : Int) = q by omega]
    have hl : (ownL p q g).length ≤ 16777216 := by unfold ownL; rw [List.length_map, irange_len]; omega
    simp (disch := trivial)
theorem idx_split {xs : List Int} {x : Int} {a b : List Int} (h : xs = a ++ x :: b) (hx : x ∉ a) : xs.idxOf x = a.length := by
  rw [h, List.idxOf_append, if_neg hx, List.idxOf_cons_self, Nat.zero_add]
theorem own_split {i : Int} (h : 0 ≤ i) (h2 : i < q) : ownL p q g = ownL p i g ++ pw p g i :: (irange (i + 1) q).map (pw p g) := by
  unfold ownL
  rw [irange_split (a := 0) (b := i) (c := q) h (by omega), irange_cons h2, List.map_append, List.map_cons]
theorem log_of (hn : 4 ≤ n) (G : Gr p q g) {x : Int} (h : Mem p q g x) (hx : x ∈ ownL p q g) : FP n 6 [.val (.tuple [.int p, .int q, .int g]), .val (.int x)] s = .ok (.int ((ownL p q g).idxOf x : Nat), s) := by
  rw [FP_run (d := di_log_of) rfl (by omega)]
  apply Wp.eq
  show Wp (evS' (FP (n - 1)) ir_log_of _ _ _ [.val (.tuple [.int p, .int q, .int g]), .val (.int x), .no, .no] s) _
  unfold ir_log_of
  have ck := fun s => check_member (n := n - 1) (s := s) (by omega) G h
  obtain ⟨p1, p2, q1, q2, qp, g1, g2, -⟩ := G
  simp (disch := trivial) [ck]
  have h0 : x ∉ ownL p ((([] : List Int).length : Nat) : Int) g := by
    show ¬ x ∈ ([] : List Int)
    exact List.not_mem_nil
  refine for_inv (fun pre post env s' => s' = s ∧ x ∉ ownL p pre.length g ∧ ∃ y, y.nl = true ∧ env = [.val (.tuple [.int p, .int q, .int g]), .val (.int x), .val (.int (pw p g pre.length)), y]) ⟨rfl, h0, .no, rfl, by rw [show ((([] : List Int).length : Nat) : Int) = 0 from rfl, pw_zero (by omega)]⟩ ?_ ?_
  · rintro pre z post env s kk kb e ⟨rfl, hno, y, hy, rfl⟩ hkk hkb
    obtain ⟨e1, x0, x1, e4⟩ := irange_at e
    have := pw_in (p := p) (b := g) (t := (pre.length : Int)) (by omega)
    simp (disch := trivial)
    refine Wp.ite_of (fun hc => ?_) fun hc => ?_
    · have hc : pw p g pre.length = x := of_decide_eq_true hc
      have hz : z = (pre.length : Int) := by omega
      have : (ownL p q g).idxOf x = (ownL p pre.length g).length := idx_split (by rw [← hc]; exact own_split (by omega) (by omega)) hno
      simp (disch := trivial)
      rw [this, hz]
      unfold ownL
      rw [List.length_map, irange_len]; omega
    · have hc : ¬ pw p g pre.length = x := of_decide_eq_false hc
      simp (disch := trivial)
      refine hkk _ _ ⟨rfl, fun hm => ?_, .val (.int z), rfl, ?_⟩
      · rw [List.length_append, List.length_singleton, show ((pre.length + 1 : Nat) : Int) = (pre.length : Int) + 1 by omega, ownL_snoc (by omega), List.mem_append, List.mem_singleton] at hm
        rcases hm with hm | hm
        · exact hno hm
        · exact hc hm.symm
      · rw [List.length_append, List.length_singleton]
        rw [show ((pre.length + 1 : Nat) : Int) = (pre.length : Int) + 1 by omega, pw_succ (by omega)]
  · rintro env s' ⟨rfl, hno, y, hy, rfl⟩
    rw [irange_len, show (((q - 0).toNat : Nat) : Int) = q by omega] at hno
    exact (hno hx).elim
theorem agreed (hn : 4 ≤ n) (G : Gr p q g) {a b : Int} (a0 : 0 ≤ a) (a1 : a < q) (b0 : 0 ≤ b) (b1 : b < q) : FP n 10 [.val (.tuple [.int p, .int q, .int g]), .val (.int a), .val (.int b)] s = .ok (.tuple [.int (pw p g a), .int (pw p g b), .int (pw p (pw p g b) a)], s) := by
  rw [FP_run (d := di_agreed) rfl (by omega)]
  apply Wp.eq
  show Wp (evS' (FP (n - 1)) ir_agreed _ _ _ [.val (.tuple [.int p, .int q, .int g]), .val (.int a), .val (.int b), .no, .no, .no, .no, .no] s) _
  unfold ir_agreed
  have c1 := fun s => check_key (n := n - 1) (s := s) (by omega) G a0 a1
  have c2 := fun s => check_key (n := n - 1) (s := s) (by omega) G b0 b1
  obtain ⟨p1, p2, q1, q2, qp, g1, g2, -⟩ := G
  have hi := pw_in (p := p) (b := g) (t := b) (by omega)
  have pi := fun s b t h1 h2 h3 h4 => power_in (n := n - 1) (s := s) (p := p) (b := b) (t := t) (by omega) (by omega) (by omega) h1 h2 h3 h4
  have e1 := fun s => pi s g a (by omega) (by omega) a0 (by omega)
  have e2 := fun s => pi s g b (by omega) (by omega) b0 (by omega)
  have e3 := fun s => pi s (pw p g b) a (by omega) (by omega) a0 (by omega)
  simp (disch := trivial) [c1, c2, e1, e2, e3]
theorem lock (hn : 4 ≤ n) (G : Gr p q g) {x m d : Int} (hx : Mem p q g x) (hm : Mem p q g m) (d0 : 0 ≤ d) (d1 : d < q) : FP n 11 [.val (.tuple [.int p, .int q, .int g]), .val (.int x), .val (.int m), .val (.int d)] s = .ok (.tuple [.int (pw p g d), .int (m * pw p x d % p)], s) := by
  rw [FP_run (d := di_lock) rfl (by omega)]
  apply Wp.eq
  show Wp (evS' (FP (n - 1)) ir_lock _ _ _ [.val (.tuple [.int p, .int q, .int g]), .val (.int x), .val (.int m), .val (.int d), .no, .no, .no] s) _
  unfold ir_lock
  have c1 := fun s => check_member (n := n - 1) (s := s) (by omega) G hx
  have c2 := fun s => check_member (n := n - 1) (s := s) (by omega) G hm
  have c3 := fun s => check_key (n := n - 1) (s := s) (by omega) G d0 d1
  obtain ⟨p1, p2, q1, q2, qp, g1, g2, -⟩ := G
  obtain ⟨x0, x1, -⟩ := hx
  obtain ⟨m0, m1, -⟩ := hm
  have hi := pw_in (p := p) (b := x) (t := d) (by omega)
  have pi := fun s b t h1 h2 h3 h4 => power_in (n := n - 1) (s := s) (p := p) (b := b) (t := t) (by omega) (by omega) (by omega) h1 h2 h3 h4
  have e1 := fun s => pi s g d (by omega) (by omega) d0 (by omega)
  have e2 := fun s => pi s x d (by omega) (by omega) d0 (by omega)
  simp (disch := trivial) [c1, c2, c3, e1, e2]
theorem unlock (hn : 4 ≤ n) (G : Gr p q g) {k x y : Int} (k0 : 0 ≤ k) (k1 : k < q) (hx : Mem p q g x) (hy : Mem p q g y) : FP n 12 [.val (.tuple [.int p, .int q, .int g]), .val (.int k), .val (.tuple [.int x, .int y])] s = .ok (.int (y * pw p x (q - k) % p), s) := by
  rw [FP_run (d := di_unlock) rfl (by omega)]
  apply Wp.eq
  show Wp (evS' (FP (n - 1)) ir_unlock _ _ _ [.val (.tuple [.int p, .int q, .int g]), .val (.int k), .val (.tuple [.int x, .int y]), .no, .no, .no] s) _
  unfold ir_unlock
  have c1 := fun s => check_member (n := n - 1) (s := s) (by omega) G hx
  have c2 := fun s => check_member (n := n - 1) (s := s) (by omega) G hy
  have c3 := fun s => check_key (n := n - 1) (s := s) (by omega) G k0 k1
  obtain ⟨p1, p2, q1, q2, qp, g1, g2, -⟩ := G
  obtain ⟨x0, x1, -⟩ := hx
  obtain ⟨m0, m1, -⟩ := hy
  have hi := pw_in (p := p) (b := x) (t := q - k) (by omega)
  have pi := fun s b t h1 h2 h3 h4 => power_in (n := n - 1) (s := s) (p := p) (b := b) (t := t) (by omega) (by omega) (by omega) h1 h2 h3 h4
  have e2 := fun s => pi s x (q - k) (by omega) (by omega) (by omega) (by omega)
  simp (disch := trivial) [c1, c2, c3, e2]
theorem joined (hn : 4 ≤ n) (G : Gr p q g) {x y z w : Int} (hx : Mem p q g x) (hy : Mem p q g y) (hz : Mem p q g z) (hw : Mem p q g w) : FP n 13 [.val (.tuple [.int p, .int q, .int g]), .val (.tuple [.int x, .int y]), .val (.tuple [.int z, .int w])] s = .ok (.tuple [.int (x * z % p), .int (y * w % p)], s) := by
  rw [FP_run (d := di_joined) rfl (by omega)]
  apply Wp.eq
  show Wp (evS' (FP (n - 1)) ir_joined _ _ _ [.val (.tuple [.int p, .int q, .int g]), .val (.tuple [.int x, .int y]), .val (.tuple [.int z, .int w]), .no] s) _
  unfold ir_joined
  have c0 : gAdd (.tuple [.int x, .int y]) (.tuple [.int z, .int w]) = some (enc [x, y, z, w]) := gAdd_enc (xs := [x, y]) (ys := [z, w]) (by simp)
  have ck := fun v s (h : Mem p q g v) => check_member (n := n - 1) (s := s) (by omega) G h
  have hall : ∀ v ∈ [x, y, z, w], Mem p q g v := by
    intro v hv
    simp only [List.mem_cons, List.not_mem_nil, or_false] at hv
    rcases hv with rfl | rfl | rfl | rfl <;> assumption
  obtain ⟨p1, p2, q1, q2, qp, g1, g2, -⟩ := G
  obtain ⟨x0, x1, -⟩ := hx
  obtain ⟨y0, y1, -⟩ := hy
  obtain ⟨z0, z1, -⟩ := hz
  obtain ⟨w0, w1, -⟩ := hw
  simp (disch := trivial) [c0]
  refine for_inv (fun pre post env s' => s' = s ∧ ∃ y', y'.nl = true ∧ env = [.val (.tuple [.int p, .int q, .int g]), .val (.tuple [.int x, .int y]), .val (.tuple [.int z, .int w]), y']) ⟨rfl, .no, rfl, rfl⟩ ?_ ?_
  · rintro pre v post env s kk kb e ⟨rfl, y', hy, rfl⟩ hkk hkb
    have c1 := ck v s (hall v (by rw [e]; simp))
    simp (disch := trivial) [c1]
    exact hkk _ _ ⟨rfl, .val (.int v), rfl, rfl⟩
  · rintro env s' ⟨rfl, y', hy, rfl⟩
    simp (disch := trivial)
end
end Row

set_option Elab.async false
set_option linter.all false
set_option maxRecDepth 100000
set_option maxHeartbeats 1000000
namespace Row
open PySem PySem.Spec PyProof.Rows L2 L2.DL
open Enc (enc)
variable [TabL]
local macro_rules | `(tactic| trivial) => `(tactic| (simp only [decide_eq_true_eq, decide_eq_false_iff_not, Bool.and_eq_true, Bool.or_eq_true, Bool.not_eq_true', Bool.not_eq_false', Bool.or_eq_false_iff, Bool.and_eq_false_iff, List.length_map, irange_len, List.length_append, List.length_cons, List.length_nil]; omega))
local macro_rules | `(tactic| trivial) => `(tactic| exact Nat.le_of_ble_eq_true rfl)
local macro_rules | `(tactic| trivial) => `(tactic| omega)
local macro_rules | `(tactic| trivial) => `(tactic| assumption)
variable {n : Nat} {s : Dr} {p q g : Int}
/-! ### members -/
theorem Mem.of (G : Gr p q g) {x : Int} (h : 0 ≤ x) (h2 : x < p) (h3 : pw p x q = 1) : Mem p q g x := by
  refine ⟨?_, h2, h3⟩
  obtain ⟨p1, p2, q1, q2, qp, g1, g2, -⟩ := G
  rcases Int.lt_or_le 0 x with h4 | h4
  · omega
  · have hx : x = 0 := by omega
    subst hx
    have : pw p 0 q = 0 := by
      obtain ⟨k, hk⟩ : ∃ k, q.toNat = k + 1 := ⟨q.toNat - 1, by omega⟩
      unfold pw
      rw [hk, Int.pow_succ, Int.mul_zero, Int.zero_emod]
    rw [this] at h3
    omega
theorem pw_base_one (hp : 2 ≤ p) {i : Int} : pw p 1 i = 1 := by
  unfold pw
  rw [Int.one_pow]
  exact Int.emod_eq_of_lt (by omega) (by omega)
theorem Gr.p2' (G : Gr p q g) : 2 ≤ p := by have := G.p1; omega
theorem Gr.m_o (G : Gr p q g) {i : Int} (h : 0 ≤ i) : Mem p q g (pw p g i) := by
  have hp := G.p2'
  obtain ⟨a, b⟩ := pw_in (b := g) (t := i) hp
  have hq := G.q1
  refine .of G a b ?_
  rw [pw_mul h (by omega), Int.mul_comm, ← pw_mul (by omega) h, G.pg, pw_base_one hp]
theorem Gr.m_one (G : Gr p q g) : Mem p q g 1 := ⟨by omega, by have := G.p1; omega, pw_base_one G.p2'⟩
theorem Mem.mul (G : Gr p q g) {x y : Int} (hx : Mem p q g x) (hy : Mem p q g y) : Mem p q g (x * y % p) := by
  have hp := G.p2'
  refine .of G (Int.emod_nonneg _ (by omega)) (Int.emod_lt_of_pos _ (by omega)) ?_
  rw [pw_mulb, hx.2.2, hy.2.2, Int.one_mul]
  exact Int.emod_eq_of_lt (by omega) (by omega)
theorem Mem.pow (G : Gr p q g) {x i : Int} (hx : Mem p q g x) (h : 0 ≤ i) : Mem p q g (pw p x i) := by
  have hp := G.p2'
  have hq := G.q1
  obtain ⟨a, b⟩ := pw_in (b := x) (t := i) hp
  refine .of G a b ?_
  rw [pw_mul h (by omega), Int.mul_comm, ← pw_mul (by omega) h, hx.2.2, pw_base_one hp]
/-- powers of a member by the rest of the exponent -/
theorem Mem.rest (G : Gr p q g) {x i : Int} (hx : Mem p q g x) (h : 0 ≤ i) : pw p x (i % q) = pw p x i := by
  have hp := G.p2'
  have hq := G.q1
  have h1 : i = i % q + q * (i / q) := (Int.emod_add_mul_ediv i q).symm
  have h2 : 0 ≤ i % q := Int.emod_nonneg _ (by omega)
  have h3 : 0 ≤ i / q := Int.ediv_nonneg h (by omega)
  have h4 : 0 ≤ q * (i / q) := Int.mul_nonneg (by omega) h3
  conv => rhs; rw [h1]
  rw [pw_add h2 h4, ← pw_mul (by omega) h3, hx.2.2, pw_base_one hp, Int.mul_one]
  obtain ⟨a, b⟩ := pw_in (b := x) (t := i % q) hp
  rw [Int.emod_eq_of_lt a b]
theorem Mem.in_ {x : Int} (h : Mem p q g x) : 0 ≤ x ∧ x < p := ⟨by have := h.1; omega, h.2.1⟩
/-! ### what is made of them -/
theorem relocked (hn : 5 ≤ n) (G : Gr p q g) {u x y d : Int} (hu : Mem p q g u) (hx : Mem p q g x) (hy : Mem p q g y) (d0 : 0 ≤ d) (d1 : d < q) : FP n 14 [.val (.tuple [.int p, .int q, .int g]), .val (.int u), .val (.tuple [.int x, .int y]), .val (.int d)] s = .ok (.tuple [.int (x * pw p g d % p), .int (y * (1 * pw p u d % p) % p)], s) := by
  rw [FP_run (d := di_relocked) rfl (by omega)]
  apply Wp.eq
  show Wp (evS' (FP (n - 1)) ir_relocked _ _ _ [.val (.tuple [.int p, .int q, .int g]), .val (.int u), .val (.tuple [.int x, .int y]), .val (.int d)] s) _
  unfold ir_relocked
  have c1 := fun s => lock (n := n - 1) (s := s) (by omega) G hu G.m_one d0 d1
  have h1 : Mem p q g (1 * pw p u d % p) := by
    rw [Int.one_mul]
    have := (hu.pow G d0)
    obtain ⟨a, b⟩ := this.in_
    rw [Int.emod_eq_of_lt a b]
    exact this
  have c2 := fun s => joined (n := n - 1) (s := s) (by omega) G hx hy (G.m_o d0) h1
  simp (disch := trivial) [c1, c2, -Int.one_mul]
theorem pledge (hn : 4 ≤ n) (G : Gr p q g) {x m d : Int} (hx : Mem p q g x) (m0 : 0 ≤ m) (m1 : m < q) (d0 : 0 ≤ d) (d1 : d < q) : FP n 16 [.val (.tuple [.int p, .int q, .int g]), .val (.int x), .val (.int m), .val (.int d)] s = .ok (.int (pw p g m * pw p x d % p), s) := by
  rw [FP_run (d := di_pledge) rfl (by omega)]
  apply Wp.eq
  show Wp (evS' (FP (n - 1)) ir_pledge _ _ _ [.val (.tuple [.int p, .int q, .int g]), .val (.int x), .val (.int m), .val (.int d), .no, .no, .no] s) _
  unfold ir_pledge
  have c1 := fun s => check_member (n := n - 1) (s := s) (by omega) G hx
  have c2 := fun s => check_key (n := n - 1) (s := s) (by omega) G m0 m1
  have c3 := fun s => check_key (n := n - 1) (s := s) (by omega) G d0 d1
  obtain ⟨p1, p2, q1, q2, qp, g1, g2, -⟩ := G
  obtain ⟨x0, x1, -⟩ := hx
  have hi := pw_in (p := p) (b := x) (t := d) (by omega)
  have hj := pw_in (p := p) (b := g) (t := m) (by omega)
  have pi := fun s b t h1 h2 h3 h4 => power_in (n := n - 1) (s := s) (p := p) (b := b) (t := t) (by omega) (by omega) (by omega) h1 h2 h3 h4
  have e1 := fun s => pi s g m (by omega) (by omega) m0 (by omega)
  have e2 := fun s => pi s x d (by omega) (by omega) d0 (by omega)
  simp (disch := trivial) [c1, c2, c3, e1, e2]
def lockedL (p q g x m : Int) : List (Int × Int) := (irange 0 q).map fun d => (pw p g d, m * pw p x d % p)
theorem irange_pre {a b x : Int} {pre post : List Int} (h : irange a b = pre ++ x :: post) : pre = irange a x := by
  obtain ⟨e1, h1, h2, h3⟩ := irange_at h
  have : irange a b = irange a x ++ irange x b := irange_split h1 (by omega)
  rw [this] at h
  exact (List.append_inj_left h (by rw [irange_len]; omega)).symm
theorem locked_alike (hn : 5 ≤ n) (G : Gr p q g) {x m : Int} (hx : Mem p q g x) (hm : Mem p q g m) : FP n 15 [.val (.tuple [.int p, .int q, .int g]), .val (.int x), .val (.int m)] s = .ok (enc (sortE (cnt (lockedL p q g x m))), s) := by
  rw [FP_run (d := di_locked_alike) rfl (by omega)]
  apply Wp.eq
  show Wp (evS' (FP (n - 1)) ir_locked_alike _ _ _ [.val (.tuple [.int p, .int q, .int g]), .val (.int x), .val (.int m), .no, .no, .no] s) _
  unfold ir_locked_alike
  have c1 := fun s => check_member (n := n - 1) (s := s) (by omega) G hx
  have c2 := fun s => check_member (n := n - 1) (s := s) (by omega) G hm
  have c3 := fun d s d0 d1 => lock (n := n - 1) (s := s) (d := d) (by omega) G hx hm d0 d1
  obtain ⟨p1, p2, q1, q2, qp, g1, g2, -⟩ := G
  simp (disch := trivial) [c1, c2]
  refine for_inv (fun pre post env s' => s' = s ∧ ∃ y z, y.nl = true ∧ z.nl = true ∧ env = [.val (.tuple [.int p, .int q, .int g]), .val (.int x), .val (.int m), .dct (encD (cnt (pre.map fun d => (pw p g d, m * pw p x d % p)))), y, z]) ⟨rfl, .no, .no, rfl, rfl, rfl⟩ ?_ ?_
  · rintro pre d post env s kk kb e ⟨rfl, y, z, hy, hz, rfl⟩ hkk hkb
    obtain ⟨e1, x0, x1, e4⟩ := irange_at e
    have c4 := fun s => c3 d s x0 x1
    have hl : (cnt (pre.map fun d => (pw p g d, m * pw p x d % p))).length < 16777216 := by
      have := cnt_len (xs := pre.map fun d => (pw p g d, m * pw p x d % p))
      rw [List.length_map] at this
      omega
    simp (disch := first | exact hl | trivial) [c4]
    refine hkk _ _ ⟨rfl, .val (.int d), .val (.tuple [.int (pw p g d), .int (m * pw p x d % p)]), rfl, rfl, ?_⟩
    rw [List.map_append, List.map_cons, List.map_nil, ← cnt_snoc]
  · rintro env s' ⟨rfl, y, z, hy, hz, rfl⟩
    have hl : (cnt ((irange 0 q).map fun d => (pw p g d, m * pw p x d % p))).length ≤ 16777216 := by
      have := cnt_len (xs := (irange 0 q).map fun d => (pw p g d, m * pw p x d % p))
      rw [List.length_map, irange_len] at this
      omega
    simp (disch := first | exact hl | trivial)
    rfl
def pledgesL (p q g x m : Int) : List Int := (irange 0 q).map fun d => pw p g m * pw p x d % p
theorem pledges_of (hn : 5 ≤ n) (G : Gr p q g) {x m : Int} (hx : Mem p q g x) (m0 : 0 ≤ m) (m1 : m < q) : FP n 17 [.val (.tuple [.int p, .int q, .int g]), .val (.int x), .val (.int m)] s = .ok (enc (sortE (cnt (pledgesL p q g x m))), s) := by
  rw [FP_run (d := di_pledges_of) rfl (by omega)]
  apply Wp.eq
  show Wp (evS' (FP (n - 1)) ir_pledges_of _ _ _ [.val (.tuple [.int p, .int q, .int g]), .val (.int x), .val (.int m), .no, .no, .no] s) _
  unfold ir_pledges_of
  have c1 := fun s => check_member (n := n - 1) (s := s) (by omega) G hx
  have c2 := fun s => check_key (n := n - 1) (s := s) (by omega) G m0 m1
  have c3 := fun d s d0 d1 => pledge (n := n - 1) (s := s) (d := d) (by omega) G hx m0 m1 d0 d1
  obtain ⟨p1, p2, q1, q2, qp, g1, g2, -⟩ := G
  simp (disch := trivial) [c1, c2]
  refine for_inv (fun pre post env s' => s' = s ∧ ∃ y z, y.nl = true ∧ z.nl = true ∧ env = [.val (.tuple [.int p, .int q, .int g]), .val (.int x), .val (.int m), .dct (encD (cnt (pre.map fun d => pw p g m * pw p x d % p))), y, z]) ⟨rfl, .no, .no, rfl, rfl, rfl⟩ ?_ ?_
  · rintro pre d post env s kk kb e ⟨rfl, y, z, hy, hz, rfl⟩ hkk hkb
    obtain ⟨e1, x0, x1, e4⟩ := irange_at e
    have c4 := fun s => c3 d s x0 x1
    have hl : (cnt (pre.map fun d => pw p g m * pw p x d % p)).length < 16777216 := by
      have := cnt_len (xs := pre.map fun d => pw p g m * pw p x d % p)
      rw [List.length_map] at this
      omega
    simp (disch := first | exact hl | trivial) [c4]
    refine hkk _ _ ⟨rfl, .val (.int d), .val (.int (pw p g m * pw p x d % p)), rfl, rfl, ?_⟩
    rw [List.map_append, List.map_cons, List.map_nil, ← cnt_snoc]
  · rintro env s' ⟨rfl, y, z, hy, hz, rfl⟩
    have hl : (cnt ((irange 0 q).map fun d => pw p g m * pw p x d % p)).length ≤ 16777216 := by
      have := cnt_len (xs := (irange 0 q).map fun d => pw p g m * pw p x d % p)
      rw [List.length_map, irange_len] at this
      omega
    simp (disch := first | exact hl | trivial)
    rfl
def plg (p g x m d : Int) : Int := pw p g m * pw p x d % p
def brokenO (p q g x m1 d1 m2 d2 : Int) : Option Int := if plg p g x m1 d1 = plg p g x m2 d2 ∧ d1 ≠ d2 then some ((m1 - m2) * pw q ((d2 - d1) % q) (q - 2) % q) else none
theorem broken (hn : 5 ≤ n) (G : Gr p q g) {x m1 d1 m2 d2 : Int} (hx : Mem p q g x) (a0 : 0 ≤ m1) (a1 : m1 < q) (b0 : 0 ≤ d1) (b1 : d1 < q) (c0 : 0 ≤ m2) (c1 : m2 < q) (e0 : 0 ≤ d2) (e1 : d2 < q) : FP n 18 [.val (.tuple [.int p, .int q, .int g]), .val (.int x), .val (.tuple [.int m1, .int d1]), .val (.tuple [.int m2, .int d2])] s = .ok (encO (brokenO p q g x m1 d1 m2 d2), s) := by
  rw [FP_run (d := di_broken) rfl (by omega)]
  apply Wp.eq
  show Wp (evS' (FP (n - 1)) ir_broken _ _ _ [.val (.tuple [.int p, .int q, .int g]), .val (.int x), .val (.tuple [.int m1, .int d1]), .val (.tuple [.int m2, .int d2]), .no, .no, .no, .no, .no] s) _
  unfold ir_broken
  have k1 := fun s => check_key (n := n - 1) (s := s) (by omega) G a0 a1
  have k2 := fun s => check_key (n := n - 1) (s := s) (by omega) G b0 b1
  have k3 := fun s => check_key (n := n - 1) (s := s) (by omega) G c0 c1
  have k4 := fun s => check_key (n := n - 1) (s := s) (by omega) G e0 e1
  have p1 := fun s => pledge (n := n - 1) (s := s) (by omega) G hx a0 a1 b0 b1
  have p2 := fun s => pledge (n := n - 1) (s := s) (by omega) G hx c0 c1 e0 e1
  obtain ⟨_, _, q1, q2, qp, g1, g2, -⟩ := G
  have hb : 0 ≤ (d2 - d1) % q ∧ (d2 - d1) % q < q := ⟨Int.emod_nonneg _ (by omega), Int.emod_lt_of_pos _ (by omega)⟩
  have hi := pw_in (p := q) (b := (d2 - d1) % q) (t := q - 2) (by omega)
  have pi := fun s => power_in (n := n - 1) (s := s) (p := q) (b := (d2 - d1) % q) (t := q - 2) (by omega) (by omega) (by omega) (by omega) (by omega) (by omega) (by omega)
  simp (disch := trivial) [forL_cons, k1, k2, k3, k4, p1, p2]
  unfold brokenO plg
  by_cases h : pw p g m1 * pw p x d1 % p = pw p g m2 * pw p x d2 % p
  · by_cases h2 : d1 = d2
    · rw [if_neg (fun z => z.2 h2)]
      subst h2
      simp (disch := trivial) [h]
    · rw [if_pos ⟨h, h2⟩]
      simp (disch := trivial) [h, h2, pi]
  · rw [if_neg (fun z => h z.1)]
    simp (disch := trivial) [h]
theorem other_opening (hn : 4 ≤ n) (G : Gr p q g) {x w m d v : Int} (hx : Mem p q g x) (w0 : 1 ≤ w) (w1 : w < q) (m0 : 0 ≤ m) (m1 : m < q) (d0 : 0 ≤ d) (d1 : d < q) (v0 : 0 ≤ v) (v1 : v < q) (hw : pw p g w = x) : FP n 19 [.val (.tuple [.int p, .int q, .int g]), .val (.int x), .val (.int w), .val (.int m), .val (.int d), .val (.int v)] s = .ok (.int ((d + (m - v) * pw q w (q - 2)) % q), s) := by
  rw [FP_run (d := di_other_opening) rfl (by omega)]
  apply Wp.eq
  show Wp (evS' (FP (n - 1)) ir_other_opening _ _ _ [.val (.tuple [.int p, .int q, .int g]), .val (.int x), .val (.int w), .val (.int m), .val (.int d), .val (.int v), .no, .no, .no] s) _
  unfold ir_other_opening
  have k0 := fun s => check_member (n := n - 1) (s := s) (by omega) G hx
  have k1 := fun s => check_key (n := n - 1) (s := s) (by omega) G (show 0 ≤ w by omega) w1
  have k2 := fun s => check_key (n := n - 1) (s := s) (by omega) G m0 m1
  have k3 := fun s => check_key (n := n - 1) (s := s) (by omega) G d0 d1
  have k4 := fun s => check_key (n := n - 1) (s := s) (by omega) G v0 v1
  obtain ⟨p1, p2, q1, q2, qp, g1, g2, -⟩ := G
  have hi := pw_in (p := q) (b := w) (t := q - 2) (by omega)
  have pi := fun s => power_in (n := n - 1) (s := s) (p := q) (b := w) (t := q - 2) (by omega) (by omega) (by omega) (by omega) (by omega) (by omega) (by omega)
  have pi2 := fun s => power_in (n := n - 1) (s := s) (p := p) (b := g) (t := w) (by omega) (by omega) (by omega) (by omega) (by omega) (by omega) (by omega)
  simp (disch := trivial) [k0, k1, k2, k3, k4, pi2, hw, pi]
def wholeS (q : Int) (kf : List (Int × Int)) : Int := (kf.map fun r => r.1 * r.2 % q).sum
theorem wholeS_snoc {kf : List (Int × Int)} {r : Int × Int} : wholeS q (kf ++ [r]) = wholeS q kf + r.1 * r.2 % q := by
  unfold wholeS
  rw [List.map_append, List.sum_append]
  simp
theorem wholeS_nn (hq : 0 < q) (kf : List (Int × Int)) : 0 ≤ wholeS q kf := by
  induction kf with
  | nil => exact Int.le_refl _
  | cons r kf ih =>
    unfold wholeS at ih ⊢
    rw [List.map_cons, List.sum_cons]
    have := Int.emod_nonneg (r.1 * r.2) (show q ≠ 0 by omega)
    omega
theorem shared_unlock (hn : 4 ≤ n) (G : Gr p q g) {keys fs : List Int} {x y : Int} (hx : Mem p q g x) (hy : Mem p q g y) (hl : keys.length = fs.length) (h3 : keys.length ≤ 3) (hk : ∀ k ∈ keys, 0 ≤ k ∧ k < q) (hf : ∀ f ∈ fs, -4 ≤ f ∧ f ≤ 4) : FP n 20 [.val (.tuple [.int p, .int q, .int g]), .val (enc keys), .val (enc fs), .val (.tuple [.int x, .int y])] s = .ok (.int (y * pw p (pw p x (wholeS q (List.zip keys fs))) (q - 1) % p), s) := by
  rw [FP_run (d := di_shared_unlock) rfl (by omega)]
  apply Wp.eq
  show Wp (evS' (FP (n - 1)) ir_shared_unlock _ _ _ [.val (.tuple [.int p, .int q, .int g]), .val (enc keys), .val (enc fs), .val (.tuple [.int x, .int y]), .no, .no, .no, .no, .no, .no, .no] s) _
  unfold ir_shared_unlock
  have k0 := fun s => G.ckn (n := n - 1) (s := s) (by omega)
  have k1 := fun s => check_member (n := n - 1) (s := s) (by omega) G hx
  have k2 := fun s => check_member (n := n - 1) (s := s) (by omega) G hy
  have k3 := fun k s h0 h1 => check_key (n := n - 1) (s := s) (x := k) (by omega) G h0 h1
  obtain ⟨p1, p2, q1, q2, qp, g1, g2, -⟩ := G
  obtain ⟨x0, x1, -⟩ := hx
  obtain ⟨y0, y1, -⟩ := hy
  simp (disch := trivial) [forL_cons, k0, k1, k2]
  refine for_inv (fun pre post env s' => s' = s ∧ ∃ u v, u.nl = true ∧ v.nl = true ∧ env = [.val (.tuple [.int p, .int q, .int g]), .val (enc keys), .val (enc fs), .val (.tuple [.int x, .int y]), .val (.int y), .val (.int (pw p x (wholeS q pre))), .val (.int p), .val (.int q), .val (.int g), u, v]) ⟨rfl, .no, .no, rfl, rfl, by rw [show wholeS q [] = 0 from rfl, pw_zero (by omega)]⟩ ?_ ?_
  · rintro pre r post env s kk kb e ⟨rfl, u, v, hu, hv, rfl⟩ hkk hkb
    have hr : r ∈ List.zip keys fs := by rw [e]; simp
    obtain ⟨kk0, ff0⟩ := List.of_mem_zip (show (r.1, r.2) ∈ _ from hr)
    obtain ⟨a0, a1⟩ := hk _ kk0
    obtain ⟨b0, b1⟩ := hf _ ff0
    have c1 := fun s => k3 r.1 s a0 a1
    have m0 : 0 ≤ r.1 * r.2 % q ∧ r.1 * r.2 % q < q := ⟨Int.emod_nonneg _ (by omega), Int.emod_lt_of_pos _ (by omega)⟩
    have hi := pw_in (p := p) (b := x) (t := r.1 * r.2 % q) (by omega)
    have hj := pw_in (p := p) (b := x) (t := wholeS q pre) (by omega)
    have pi := fun s => power_in (n := n - 1) (s := s) (p := p) (b := x) (t := r.1 * r.2 % q) (by omega) (by omega) (by omega) (by omega) (by omega) (by omega) (by omega)
    simp (disch := trivial) [c1, pi]
    refine hkk _ _ ⟨rfl, .val (.int r.1), .val (.int r.2), rfl, rfl, ?_⟩
    rw [wholeS_snoc, pw_add (wholeS_nn (by omega) _) m0.1]
  · rintro env s' ⟨rfl, u, v, hu, hv, rfl⟩
    have hj := pw_in (p := p) (b := x) (t := wholeS q (List.zip keys fs)) (by omega)
    have hi := pw_in (p := p) (b := pw p x (wholeS q (List.zip keys fs))) (t := q - 1) (by omega)
    have pi := fun s => power_in (n := n - 1) (s := s) (p := p) (b := pw p x (wholeS q (List.zip keys fs))) (t := q - 1) (by omega) (by omega) (by omega) (by omega) (by omega) (by omega) (by omega)
    simp (disch := trivial) [pi]
end Row

set_option Elab.async false
set_option linter.all false
set_option maxRecDepth 100000
set_option maxHeartbeats 1000000
namespace Row
open PySem PySem.Spec PyProof.Rows L2 L2.DL
open Enc (enc)
variable [TabL]
/-! plain facts -/
variable {p q g : Int}
theorem perm_of_sub : ∀ {l m : List Int}, l.Nodup → (∀ x ∈ l, x ∈ m) → m.length ≤ l.length → l.Perm m
  | [], m, _, _, h => by
    have : m = [] := List.eq_nil_of_length_eq_zero (Nat.le_zero.mp h)
    rw [this]
  | a :: l, m, h1, h2, h3 => by
    have ham := h2 a (List.mem_cons_self ..)
    have hp := List.perm_cons_erase ham
    refine List.Perm.trans ?_ hp.symm
    refine List.Perm.cons a (perm_of_sub (List.nodup_cons.mp h1).2 (fun x hx => ?_) ?_)
    · have hne : x ≠ a := fun z => (List.nodup_cons.mp h1).1 (z ▸ hx)
      exact (List.mem_erase_of_ne hne).mpr (h2 x (List.mem_cons_of_mem _ hx))
    · rw [List.length_erase_of_mem ham]
      simp only [List.length_cons] at h3
      omega
theorem irange_nodup {a b : Int} : (irange a b).Nodup := by
  unfold irange List.Nodup
  rw [List.pairwise_map]
  refine List.Pairwise.imp ?_ List.nodup_range
  intro x y hxy h
  exact hxy (by omega)
theorem nodup_map {α : Type} {l : List Int} {φ : Int → α} (h : l.Nodup) (hi : ∀ x ∈ l, ∀ y ∈ l, φ x = φ y → x = y) : (l.map φ).Nodup := by
  induction l with
  | nil => exact List.Pairwise.nil
  | cons a l ih =>
    rw [List.map_cons, List.nodup_cons]
    obtain ⟨h1, h2⟩ := List.nodup_cons.mp h
    refine ⟨fun hm => ?_, ih h2 fun x hx y hy => hi x (List.mem_cons_of_mem _ hx) y (List.mem_cons_of_mem _ hy)⟩
    obtain ⟨x, hx, e⟩ := List.mem_map.mp hm
    exact h1 (hi x (List.mem_cons_of_mem _ hx) a (List.mem_cons_self ..) e ▸ hx)
theorem own_len (hq : 0 ≤ q) : (ownL p q g).length = q.toNat := by unfold ownL; rw [List.length_map, irange_len, Int.sub_zero]
theorem own_nth {i : Int} (h : 0 ≤ i) (h2 : i < q) : nth (ownL p q g) i = pw p g i := by
  unfold ownL
  rw [nth_map h (by rw [irange_len]; omega), nth_irange h (by omega), Int.zero_add]
theorem Gr.own_inj (G : Gr p q g) {i j : Int} (hi : 0 ≤ i) (hi2 : i < q) (hj : 0 ≤ j) (hj2 : j < q) (e : pw p g i = pw p g j) : i = j := by
  have hq := G.q1
  have hl := own_len (p := p) (g := g) (show 0 ≤ q by omega)
  have h1 : (ownL p q g)[i.toNat]? = (ownL p q g)[j.toNat]? := by
    have w : ∀ k : Int, 0 ≤ k → k < q → (ownL p q g)[k.toNat]? = some (pw p g k) := fun k k0 k1 => by
      have := own_nth (p := p) (g := g) k0 k1
      unfold nth at this
      rw [List.getElem?_eq_getElem (by omega)] at this ⊢
      rw [← this]; rfl
    rw [w i hi hi2, w j hj hj2, e]
  have := (List.getElem?_inj (by omega) G.nd).mp h1
  omega
/-- equal rests -/
theorem Gr.cong (G : Gr p q g) {x i j : Int} (hx : Mem p q g x) (hi : 0 ≤ i) (hj : 0 ≤ j) (h : i % q = j % q) : pw p x i = pw p x j := by
  rw [← hx.rest G hi, ← hx.rest G hj, h]
theorem Gr.cong_inv (G : Gr p q g) {i j : Int} (hi : 0 ≤ i) (hj : 0 ≤ j) (h : pw p g i = pw p g j) : i % q = j % q := by
  have hq := G.q1
  have hm : Mem p q g g := by
    have := G.m_o (i := 1) (by omega)
    rw [pw_one, Int.emod_eq_of_lt (by have := G.g1; omega) G.g2] at this
    exact this
  rw [← hm.rest G hi, ← hm.rest G hj] at h
  exact G.own_inj (Int.emod_nonneg _ (by omega)) (Int.emod_lt_of_pos _ (by omega)) (Int.emod_nonneg _ (by omega)) (Int.emod_lt_of_pos _ (by omega)) h
theorem Gr.m_g (G : Gr p q g) : Mem p q g g := by
  have := G.m_o (i := 1) (by omega)
  rw [pw_one, Int.emod_eq_of_lt (by have := G.g1; omega) G.g2] at this
  exact this
theorem Gr.own_mem (G : Gr p q g) {i : Int} (h : 0 ≤ i) : pw p g i ∈ ownL p q g := by
  have hq := G.q1
  rw [← G.m_g.rest G h]
  exact List.mem_map.mpr ⟨i % q, mem_irange.mpr ⟨Int.emod_nonneg _ (by omega), Int.emod_lt_of_pos _ (by omega)⟩, rfl⟩
theorem Gr.one (G : Gr p q g) {i : Int} (h : 0 ≤ i) (h2 : i % q = 0) : pw p g i = 1 := by
  rw [← G.m_g.rest G h, h2, pw_zero G.p2']
theorem mulmod {y a b : Int} (y0 : 0 ≤ y) (y1 : y < p) (h : a * b % p = 1) : y * a % p * b % p = y := by
  rw [mm, Int.mul_assoc, ← mm2, h, Int.mul_one, Int.emod_eq_of_lt y0 y1]
/-- what is locked is unlocked -/
theorem Gr.unl (G : Gr p q g) {y a b : Int} (y0 : 0 ≤ y) (y1 : y < p) (a0 : 0 ≤ a) (a1 : a < q) (b0 : 0 ≤ b) : y * pw p (pw p g a) b % p * pw p (pw p g b) (q - a) % p = y := by
  have hq := G.q1
  refine mulmod y0 y1 ?_
  rw [pw_mul a0 b0, pw_mul b0 (by omega), ← pw_add (Int.mul_nonneg a0 b0) (Int.mul_nonneg b0 (by omega))]
  have e : a * b + b * (q - a) = b * q := by grind
  rw [e]
  exact G.one (Int.mul_nonneg b0 (by omega)) (Int.mul_emod_left _ _)
theorem pw_mul2 {a b c x y : Int} (hx : 0 ≤ b) (hy : 0 ≤ c) : (x * pw p a b % p) * (y * pw p a c % p) % p = (x * y % p) * pw p a (b + c) % p := by
  rw [pw_add hx hy, mm, mm2, mm, mm2]
  congr 1
  grind
/-- what powers become below nought -/
theorem Gr.back (G : Gr p q g) {b t : Int} (hb : 1 ≤ b) (hb2 : b < p) (ht : 0 ≤ t) : pw p b (t % (p - 1)) = pw p b t := by
  have p1 := G.p1
  have f := G.fer b hb hb2
  have h1 : t = t % (p - 1) + (p - 1) * (t / (p - 1)) := (Int.emod_add_mul_ediv t (p - 1)).symm
  have h2 : 0 ≤ t % (p - 1) := Int.emod_nonneg _ (by omega)
  have h3 : 0 ≤ t / (p - 1) := Int.ediv_nonneg ht (by omega)
  have h4 : 0 ≤ (p - 1) * (t / (p - 1)) := Int.mul_nonneg (by omega) h3
  conv => rhs; rw [h1]
  rw [pw_add h2 h4, ← pw_mul (by omega) h3, f, pw_base_one G.p2', Int.mul_one]
  obtain ⟨a, c⟩ := pw_in (b := b) (t := t % (p - 1)) G.p2'
  rw [Int.emod_eq_of_lt a c]
theorem Gr.inv (G : Gr p q g) {b t : Int} (hb : 1 ≤ b) (hb2 : b < p) (ht : t < 0) : pw p b (t % (p - 1)) * pw p b (-t) % p = 1 := by
  have p1 := G.p1
  have h2 : 0 ≤ t % (p - 1) := Int.emod_nonneg _ (by omega)
  rw [← pw_add h2 (by omega), ← G.back hb hb2 (by omega)]
  have e : (t % (p - 1) + -t) % (p - 1) = 0 := by
    rw [Int.emod_add_emod]
    have : t + -t = 0 := by omega
    rw [this, Int.zero_emod]
  rw [e, pw_zero G.p2']
theorem nth_filter {xs : List Int} {f : Int → Bool} {k : Int} (hk : k ∈ xs) (hf : f k = true) (hu : ∀ x ∈ xs, f x = true → x = k) : 0 < (xs.filter f).length ∧ nth (xs.filter f) 0 = k := by
  have h1 : k ∈ xs.filter f := List.mem_filter.mpr ⟨hk, hf⟩
  have h2 : 0 < (xs.filter f).length := List.length_pos_of_mem h1
  refine ⟨h2, ?_⟩
  have h3 := nth_mem (xs := xs.filter f) (i := 0) (by omega) (by omega)
  obtain ⟨h4, h5⟩ := List.mem_filter.mp h3
  exact hu _ h4 h5
theorem Gr.neg (G : Gr p q g) {b t : Int} (hb : 1 ≤ b) (hb2 : b < p) (ht : t < 0) : 0 < ((irange 1 p).filter fun k => decide (k * pw p b (-t) % p = 1)).length ∧ nth ((irange 1 p).filter fun k => decide (k * pw p b (-t) % p = 1)) 0 = pw p b (t % (p - 1)) := by
  have p1 := G.p1
  have hi := G.inv hb hb2 ht
  obtain ⟨a, c⟩ := pw_in (b := b) (t := t % (p - 1)) G.p2'
  refine nth_filter (mem_irange.mpr ⟨?_, c⟩) (decide_eq_true hi) fun x hx hf => ?_
  · rcases Int.lt_or_le 0 (pw p b (t % (p - 1))) with h | h
    · omega
    · have : pw p b (t % (p - 1)) = 0 := by omega
      rw [this, Int.zero_mul, Int.zero_emod] at hi
      omega
  · obtain ⟨x0, x1⟩ := mem_irange.mp hx
    have hf : x * pw p b (-t) % p = 1 := of_decide_eq_true hf
    have e1 : x * pw p b (-t) % p * pw p b (t % (p - 1)) % p = x := mulmod (by omega) x1 (by rw [Int.mul_comm]; exact hi)
    rw [hf, Int.one_mul, Int.emod_eq_of_lt a c] at e1
    exact e1.symm
/-! ### pledges -/
theorem Gr.plg (G : Gr p q g) {w m d : Int} (w0 : 0 ≤ w) (m0 : 0 ≤ m) (d0 : 0 ≤ d) : plg p g (pw p g w) m d = pw p g (m + w * d) := by
  unfold Row.plg
  rw [pw_mul w0 d0, ← pw_add m0 (Int.mul_nonneg w0 d0)]
theorem Gr.winv (G : Gr p q g) {w : Int} (w0 : 1 ≤ w) (w1 : w < q) : w * pw q w (q - 2) % q = 1 := by
  have hq := G.q1
  have := G.fq w w0 w1
  rw [show q - 1 = (q - 2) + 1 by omega, pw_succ (by omega)] at this
  rw [Int.mul_comm]
  exact this
theorem Gr.cancel (G : Gr p q g) {w x y : Int} (w0 : 1 ≤ w) (w1 : w < q) (h : w * x % q = w * y % q) : x % q = y % q := by
  have hw := G.winv w0 w1
  have key : ∀ x : Int, pw q w (q - 2) * (w * x % q) % q = x % q := fun x => by
    rw [mm2, ← Int.mul_assoc, Int.mul_comm (pw q w (q - 2)), ← mm, hw, Int.one_mul]
  rw [← key x, h, key y]
theorem emod_of {a b : Int} (h : (a - b) % q = 0) : a % q = b % q := Int.emod_eq_emod_iff_emod_sub_eq_zero.mpr h
theorem sub_of {a b : Int} (h : a % q = b % q) : (a - b) % q = 0 := Int.emod_eq_emod_iff_emod_sub_eq_zero.mp h
theorem Gr.opening (G : Gr p q g) {w m d v : Int} (w0 : 1 ≤ w) (w1 : w < q) : (v + w * ((d + (m - v) * pw q w (q - 2)) % q)) % q = (m + w * d) % q := by
  have hw := G.winv w0 w1
  have e1 : (v + w * ((d + (m - v) * pw q w (q - 2)) % q)) % q = (v + w * (d + (m - v) * pw q w (q - 2))) % q := by
    rw [← Int.add_emod_emod, mm2, Int.add_emod_emod]
  rw [e1]
  refine emod_of ?_
  have e2 : v + w * (d + (m - v) * pw q w (q - 2)) - (m + w * d) = (m - v) * (w * pw q w (q - 2) - 1) := by grind
  rw [e2]
  have h3 : (w * pw q w (q - 2) - 1) % q = 0 := sub_of (by rw [hw, Int.emod_eq_of_lt (by omega) (by have := G.q1; omega)])
  rw [← mm2, h3, Int.mul_zero, Int.zero_emod]
theorem Gr.breaks (G : Gr p q g) {w m d v e : Int} (w0 : 1 ≤ w) (w1 : w < q) (d0 : 0 ≤ d) (d1 : d < q) (e0 : 0 ≤ e) (e1 : e < q) (hne : d ≠ e) (h : (m + w * d) % q = (v + w * e) % q) : (m - v) * pw q ((e - d) % q) (q - 2) % q = w := by
  have hq := G.q1
  have b0 : 0 ≤ (e - d) % q := Int.emod_nonneg _ (by omega)
  have b1 : (e - d) % q < q := Int.emod_lt_of_pos _ (by omega)
  have b2 : 1 ≤ (e - d) % q := by
    rcases Int.lt_or_le 0 ((e - d) % q) with h2 | h2
    · omega
    · have h3 : (e - d) % q = 0 := by omega
      have h4 := emod_of h3
      rw [Int.emod_eq_of_lt e0 e1, Int.emod_eq_of_lt d0 d1] at h4
      exact (hne h4.symm).elim
  have hw := G.winv b2 b1
  have h5 := sub_of h
  have h6 : (m - v) % q = w * ((e - d) % q) % q := by
    rw [mm2]
    refine emod_of ?_
    have : m - v - w * (e - d) = m + w * d - (v + w * e) := by grind
    rw [this]
    exact h5
  rw [← mm, h6, mm, Int.mul_assoc, ← mm2, hw, Int.mul_one, Int.emod_eq_of_lt (by omega) w1]
theorem Gr.pl_nodup (G : Gr p q g) {w m : Int} (w0 : 1 ≤ w) (w1 : w < q) (m0 : 0 ≤ m) : (pledgesL p q g (pw p g w) m).Nodup := by
  have hq := G.q1
  refine nodup_map irange_nodup fun x hx y hy e => ?_
  obtain ⟨x0, x1⟩ := mem_irange.mp hx
  obtain ⟨y0, y1⟩ := mem_irange.mp hy
  have e : Row.plg p g (pw p g w) m x = Row.plg p g (pw p g w) m y := e
  rw [G.plg (by omega) m0 x0, G.plg (by omega) m0 y0] at e
  have h1 := G.cong_inv (Int.add_nonneg m0 (Int.mul_nonneg (by omega) x0)) (Int.add_nonneg m0 (Int.mul_nonneg (by omega) y0)) e
  have h2 := sub_of h1
  have h3 : w * x % q = w * y % q := emod_of (by rw [show w * x - w * y = m + w * x - (m + w * y) by omega]; exact h2)
  have h4 := G.cancel w0 w1 h3
  rwa [Int.emod_eq_of_lt x0 x1, Int.emod_eq_of_lt y0 y1] at h4
theorem Gr.pl_perm (G : Gr p q g) {w m : Int} (w0 : 1 ≤ w) (w1 : w < q) (m0 : 0 ≤ m) : (pledgesL p q g (pw p g w) m).Perm (ownL p q g) := by
  refine perm_of_sub (G.pl_nodup w0 w1 m0) (fun x hx => ?_) (by unfold pledgesL ownL; rw [List.length_map, List.length_map]; exact Nat.le_refl _)
  obtain ⟨d, hd, rfl⟩ := List.mem_map.mp hx
  obtain ⟨d0, d1⟩ := mem_irange.mp hd
  show Row.plg p g (pw p g w) m d ∈ _
  rw [G.plg (by omega) m0 d0]
  exact G.own_mem (Int.add_nonneg m0 (Int.mul_nonneg (by omega) d0))
theorem Gr.pl_sort (G : Gr p q g) {w m : Int} (w0 : 1 ≤ w) (w1 : w < q) (m0 : 0 ≤ m) : sortE (cnt (pledgesL p q g (pw p g w) m)) = (sortE (ownL p q g)).map fun x => (x, (1 : Int)) := by
  rw [cnt_nodup (G.pl_nodup w0 w1 m0), sortE_snd, sortE_cong (G.pl_perm w0 w1 m0)]
theorem Gr.pl_one (G : Gr p q g) {m : Int} (m0 : 0 ≤ m) : sortE (cnt (pledgesL p q g 1 m)) = [(pw p g m, q)] := by
  have hq := G.q1
  have e : pledgesL p q g 1 m = List.replicate q.toNat (pw p g m) := by
    unfold pledgesL
    refine List.eq_replicate_iff.mpr ⟨by rw [List.length_map, irange_len, Int.sub_zero], fun x hx => ?_⟩
    obtain ⟨d, hd, rfl⟩ := List.mem_map.mp hx
    obtain ⟨a, b⟩ := pw_in (b := g) (t := m) G.p2'
    rw [pw_base_one G.p2', Int.mul_one, Int.emod_eq_of_lt a b]
  rw [e, cnt_const (by omega), Int.toNat_of_nonneg (by omega)]
  unfold sortE
  exact List.mergeSort_singleton _
theorem Gr.lk_nodup (G : Gr p q g) {x m : Int} : (lockedL p q g x m).Nodup := by
  refine nodup_map irange_nodup fun i hi j hj e => ?_
  obtain ⟨x0, x1⟩ := mem_irange.mp hi
  obtain ⟨y0, y1⟩ := mem_irange.mp hj
  exact G.own_inj x0 x1 y0 y1 (congrArg Prod.fst e)
theorem Gr.lk_sort (G : Gr p q g) {x m : Int} : sortE (cnt (lockedL p q g x m)) = (sortE (lockedL p q g x m)).map fun x => (x, (1 : Int)) := by
  rw [cnt_nodup G.lk_nodup, sortE_snd]
theorem Gr.own_set (G : Gr p q g) : ((sortU (ownL p q g)).length : Int) = q := by
  have hq := G.q1
  have := (firsts_perm (xs := ownL p q g)).length_eq
  rw [firsts_self G.nd] at this
  rw [← this, own_len (by omega), Int.toNat_of_nonneg (by omega)]
/-- a shared key -/
theorem wholeS_mod (hq : 0 < q) : ∀ kf : List (Int × Int), wholeS q kf % q = (kf.map fun r => r.1 * r.2).sum % q
  | [] => rfl
  | r :: kf => by
    have ih := wholeS_mod hq kf
    unfold wholeS at ih ⊢
    rw [List.map_cons, List.sum_cons, List.map_cons, List.sum_cons, Int.emod_add_emod, Int.add_emod, ih, ← Int.add_emod]
theorem Gr.shared (G : Gr p q g) {y b : Int} {kf : List (Int × Int)} (y0 : 0 ≤ y) (y1 : y < p) (b0 : 0 ≤ b) : y * pw p (pw p g ((kf.map fun r => r.1 * r.2).sum % q)) b % p * pw p (pw p (pw p g b) (wholeS q kf)) (q - 1) % p = y := by
  have hq := G.q1
  have w0 := wholeS_nn (q := q) (by omega) kf
  have hm := wholeS_mod (q := q) (by omega) kf
  have z0 : 0 ≤ (kf.map fun r => r.1 * r.2).sum % q := Int.emod_nonneg _ (by omega)
  refine mulmod y0 y1 ?_
  rw [pw_mul z0 b0, pw_mul b0 w0, pw_mul (Int.mul_nonneg b0 w0) (by omega), ← pw_add (Int.mul_nonneg z0 b0) (Int.mul_nonneg (Int.mul_nonneg b0 w0) (by omega)), ← hm]
  refine G.one (Int.add_nonneg (Int.mul_nonneg (by rw [hm]; exact z0) b0) (Int.mul_nonneg (Int.mul_nonneg b0 w0) (by omega))) ?_
  rw [Int.add_emod, mm, ← Int.add_emod]
  have e : wholeS q kf * b + b * wholeS q kf * (q - 1) = b * wholeS q kf * q := by grind
  rw [e]
  exact Int.mul_emod_left _ _
end Row

set_option Elab.async false
set_option linter.all false
set_option maxRecDepth 100000
namespace Row
open PySem PySem.Spec PyProof.Rows L2 L2.DL
variable [TabL]
def law_r26 : IS := IS.ret (IX.call 28 9 (IX.argV 1 (IX.argV 2 (IX.argV 18 (IX.argV 19 (IX.argV 3 (IX.argV 9 (IX.argV 11 (IX.argV 14 (IX.argV 17 (IX.nil)))))))))))
def law_s25 : IS := IS.asg (Tg.nm 17) (IX.lc (IX.rng1 (IX.cons (IX.b2 (O2.add) (IX.c (PyData.int 1)) (IX.call 22 2 (IX.argV 1 (IX.argC (IX.c (PyData.int 3)) (IX.nil))))) (IX.nil))) (Tg.nm 24) [24] (IX.tt) (IX.call 22 2 (IX.argV 1 (IX.argV 19 (IX.nil)))))
def law_r25 : IS := IS.seq law_s25 law_r26
def law_s24 : IS := IS.ite (IX.tif (IX.tev (IX.b2 (O2.ne) (IX.lc (IX.seq (IX.pk 16)) (Tg.nm 25) [25] (IX.tt) (IX.ix (IX.pk 25) (IX.c (PyData.int 0)))) (IX.bi (Bi.sorted) (IX.cons (IX.lc (IX.rng1 (IX.cons (IX.var 19) (IX.nil))) (Tg.nm 24) [24] (IX.tt) (IX.tup (IX.cons (IX.ix (IX.pk 3) (IX.pk 24)) (IX.cons (IX.b2 (O2.mod) (IX.bi (Bi.int) (IX.cons (IX.b2 (O2.mul) (IX.pk 11) (IX.call 24 3 (IX.argV 18 (IX.argV 10 (IX.argV 24 (IX.nil)))))) (IX.nil))) (IX.pk 18)) (IX.nil))))) (IX.nil))))) (IX.tt) (IX.tev (IX.b2 (O2.gt) (IX.bi (Bi.len) (IX.cons (IX.lc (IX.seq (IX.pk 16)) (Tg.nm 25) [25] (IX.tev (IX.b2 (O2.ne) (IX.ix (IX.pk 25) (IX.c (PyData.int 1))) (IX.c (PyData.int 1)))) (IX.c (PyData.int 1))) (IX.nil))) (IX.c (PyData.int 0))))) (IS.ret (IX.c (PyData.bool false))) (IS.skip)
def law_r24 : IS := IS.seq law_s24 law_r25
def law_s23 : IS := IS.asg (Tg.nm 16) (IX.call 15 3 (IX.argV 2 (IX.argV 10 (IX.argV 11 (IX.nil)))))
def law_r23 : IS := IS.seq law_s23 law_r24
def law_s22 : IS := IS.ite (IX.tif (IX.tev (IX.b2 (O2.ne) (IX.call 14 4 (IX.argV 2 (IX.argV 10 (IX.argV 13 (IX.argV 14 (IX.nil)))))) (IX.call 11 4 (IX.argV 2 (IX.argV 10 (IX.argV 11 (IX.argC (IX.b2 (O2.mod) (IX.bi (Bi.int) (IX.cons (IX.b2 (O2.add) (IX.pk 9) (IX.pk 14)) (IX.nil))) (IX.pk 19)) (IX.nil)))))))) (IX.tt) (IX.tev (IX.b2 (O2.ne) (IX.call 12 3 (IX.argV 2 (IX.argV 8 (IX.argC (IX.call 14 4 (IX.argV 2 (IX.argV 10 (IX.argV 13 (IX.argV 14 (IX.nil)))))) (IX.nil))))) (IX.pk 11)))) (IS.ret (IX.c (PyData.bool false))) (IS.skip)
def law_r22 : IS := IS.seq law_s22 law_r23
def law_s21 : IS := IS.ite (IX.tif (IX.tev (IX.b2 (O2.ne) (IX.call 13 3 (IX.argV 2 (IX.argV 13 (IX.argV 15 (IX.nil))))) (IX.tup (IX.cons (IX.b2 (O2.mod) (IX.bi (Bi.int) (IX.cons (IX.b2 (O2.mul) (IX.ix (IX.pk 13) (IX.c (PyData.int 0))) (IX.ix (IX.pk 15) (IX.c (PyData.int 0)))) (IX.nil))) (IX.pk 18)) (IX.cons (IX.b2 (O2.mod) (IX.bi (Bi.int) (IX.cons (IX.b2 (O2.mul) (IX.ix (IX.pk 13) (IX.c (PyData.int 1))) (IX.ix (IX.pk 15) (IX.c (PyData.int 1)))) (IX.nil))) (IX.pk 18)) (IX.nil)))))) (IX.tt) (IX.tev (IX.b2 (O2.ne) (IX.call 12 3 (IX.argV 2 (IX.argV 8 (IX.argC (IX.call 13 3 (IX.argV 2 (IX.argV 13 (IX.argV 15 (IX.nil))))) (IX.nil))))) (IX.b2 (O2.mod) (IX.bi (Bi.int) (IX.cons (IX.b2 (O2.mul) (IX.pk 11) (IX.pk 12)) (IX.nil))) (IX.pk 18))))) (IS.ret (IX.c (PyData.bool false))) (IS.skip)
def law_r21 : IS := IS.seq law_s21 law_r22
def law_s20 : IS := IS.ite (IX.tif (IX.tev (IX.b2 (O2.ne) (IX.pk 13) (IX.tup (IX.cons (IX.ix (IX.pk 3) (IX.pk 9)) (IX.cons (IX.b2 (O2.mod) (IX.bi (Bi.int) (IX.cons (IX.b2 (O2.mul) (IX.pk 11) (IX.call 24 3 (IX.argV 18 (IX.argV 10 (IX.argV 9 (IX.nil)))))) (IX.nil))) (IX.pk 18)) (IX.nil)))))) (IX.tt) (IX.tev (IX.b2 (O2.ne) (IX.call 12 3 (IX.argV 2 (IX.argV 8 (IX.argV 13 (IX.nil))))) (IX.pk 11)))) (IS.ret (IX.c (PyData.bool false))) (IS.skip)
def law_r20 : IS := IS.seq law_s20 law_r21
def law_s19 : IS := IS.asg (Tg.nm 15) (IX.call 11 4 (IX.argV 2 (IX.argV 10 (IX.argV 12 (IX.argV 14 (IX.nil))))))
def law_r19 : IS := IS.seq law_s19 law_r20
def law_s18 : IS := IS.asg (Tg.nm 14) (IX.call 22 2 (IX.argV 1 (IX.argV 19 (IX.nil))))
def law_r18 : IS := IS.seq law_s18 law_r19
def law_s17 : IS := IS.asg (Tg.nm 13) (IX.call 11 4 (IX.argV 2 (IX.argV 10 (IX.argV 11 (IX.argV 9 (IX.nil))))))
def law_r17 : IS := IS.seq law_s17 law_r18
def law_s16 : IS := IS.asg (Tg.nm 12) (IX.ix (IX.pk 3) (IX.call 22 2 (IX.argV 1 (IX.argV 19 (IX.nil)))))
def law_r16 : IS := IS.seq law_s16 law_r17
def law_s15 : IS := IS.asg (Tg.nm 11) (IX.ix (IX.pk 3) (IX.call 22 2 (IX.argV 1 (IX.argV 19 (IX.nil)))))
def law_r15 : IS := IS.seq law_s15 law_r16
def law_s14 : IS := IS.asg (Tg.nm 10) (IX.ix (IX.pk 3) (IX.pk 8))
def law_r14 : IS := IS.seq law_s14 law_r15
def law_s13 : IS := IS.ite (IX.tif (IX.tev (IX.b2 (O2.ne) (IX.pk 21) (IX.ix (IX.pk 3) (IX.pk 8)))) (IX.tt) (IX.tif (IX.tev (IX.b2 (O2.ne) (IX.pk 22) (IX.ix (IX.pk 3) (IX.pk 9)))) (IX.tt) (IX.tif (IX.tev (IX.b2 (O2.ne) (IX.pk 23) (IX.call 24 3 (IX.argV 18 (IX.argC (IX.ix (IX.pk 3) (IX.pk 8)) (IX.argV 9 (IX.nil))))))) (IX.tt) (IX.tif (IX.tev (IX.b2 (O2.ne) (IX.pk 23) (IX.call 24 3 (IX.argV 18 (IX.argC (IX.ix (IX.pk 3) (IX.pk 9)) (IX.argV 8 (IX.nil))))))) (IX.tt) (IX.tev (IX.b2 (O2.ne) (IX.call 10 3 (IX.argV 2 (IX.argV 9 (IX.argV 8 (IX.nil))))) (IX.tup (IX.cons (IX.var 22) (IX.cons (IX.var 21) (IX.cons (IX.var 23) (IX.nil))))))))))) (IS.ret (IX.c (PyData.bool false))) (IS.skip)
def law_r13 : IS := IS.seq law_s13 law_r14
def law_s12 : IS := IS.asg (Tg.tup (Tg.tcons (Tg.nm 21) (Tg.tcons (Tg.nm 22) (Tg.tcons (Tg.nm 23) (Tg.tnil))))) (IX.call 10 3 (IX.argV 2 (IX.argV 8 (IX.argV 9 (IX.nil)))))
def law_r12 : IS := IS.seq law_s12 law_r13
def law_s11 : IS := IS.asg (Tg.nm 9) (IX.call 22 2 (IX.argV 1 (IX.argV 19 (IX.nil))))
def law_r11 : IS := IS.seq law_s11 law_r12
def law_s10 : IS := IS.asg (Tg.nm 8) (IX.call 22 2 (IX.argV 1 (IX.argV 19 (IX.nil))))
def law_r10 : IS := IS.seq law_s10 law_r11
def law_s9 : IS := IS.ite (IX.tev (IX.b2 (O2.ne) (IX.call 3 3 (IX.argV 2 (IX.argV 5 (IX.argV 6 (IX.nil))))) (IX.ife (IX.tev (IX.b2 (O2.ge) (IX.pk 6) (IX.c (PyData.int 0)))) (IX.var 7) (IX.ix (IX.lc (IX.rng2 (IX.cons (IX.c (PyData.int 1)) (IX.cons (IX.var 18) (IX.nil)))) (Tg.nm 24) [24] (IX.tev (IX.b2 (O2.eq) (IX.b2 (O2.mod) (IX.bi (Bi.int) (IX.cons (IX.b2 (O2.mul) (IX.pk 24) (IX.pk 7)) (IX.nil))) (IX.pk 18)) (IX.c (PyData.int 1)))) (IX.var 24)) (IX.c (PyData.int 0)))))) (IS.ret (IX.c (PyData.bool false))) (IS.skip)
def law_r9 : IS := IS.seq law_s9 law_r10
def law_s8 : IS := IS.asg (Tg.nm 7) (IX.call 24 3 (IX.argV 18 (IX.argV 5 (IX.argC (IX.bi (Bi.abs) (IX.cons (IX.pk 6) (IX.nil))) (IX.nil)))))
def law_r8 : IS := IS.seq law_s8 law_r9
def law_s7 : IS := IS.asg (Tg.nm 6) (IX.b2 (O2.sub) (IX.call 22 2 (IX.argV 1 (IX.argC (IX.c (PyData.int 60)) (IX.nil)))) (IX.c (PyData.int 20)))
def law_r7 : IS := IS.seq law_s7 law_r8
def law_s6 : IS := IS.asg (Tg.nm 5) (IX.b2 (O2.add) (IX.c (PyData.int 1)) (IX.call 22 2 (IX.argV 1 (IX.argC (IX.b2 (O2.sub) (IX.pk 18) (IX.c (PyData.int 1))) (IX.nil)))))
def law_r6 : IS := IS.seq law_s6 law_r7
def law_s5 : IS := IS.ite (IX.tev (IX.b2 (O2.ne) (IX.call 6 2 (IX.argV 2 (IX.argV 4 (IX.nil)))) (IX.idx 3 (IX.var 4)))) (IS.ret (IX.c (PyData.bool false))) (IS.skip)
def law_r5 : IS := IS.seq law_s5 law_r6
def law_s4 : IS := IS.asg (Tg.nm 4) (IX.ix (IX.pk 3) (IX.call 22 2 (IX.argV 1 (IX.argV 19 (IX.nil)))))
def law_r4 : IS := IS.seq law_s4 law_r5
def law_s3 : IS := IS.ite (IX.tif (IX.tev (IX.b2 (O2.ne) (IX.call 4 1 (IX.argV 2 (IX.nil))) (IX.bi (Bi.tuple) (IX.cons (IX.bi (Bi.sorted) (IX.cons (IX.pk 3) (IX.nil))) (IX.nil))))) (IX.tt) (IX.tev (IX.b2 (O2.ne) (IX.bi (Bi.lset) (IX.cons (IX.pk 3) (IX.nil))) (IX.pk 19)))) (IS.ret (IX.c (PyData.bool false))) (IS.skip)
def law_r3 : IS := IS.seq law_s3 law_r4
def law_s2 : IS := IS.asg (Tg.nm 3) (IX.lc (IX.rng1 (IX.cons (IX.var 19) (IX.nil))) (Tg.nm 24) [24] (IX.tt) (IX.call 24 3 (IX.argV 18 (IX.argV 20 (IX.argV 24 (IX.nil))))))
def law_r2 : IS := IS.seq law_s2 law_r3
def law_s1 : IS := IS.asg (Tg.tup (Tg.tcons (Tg.nm 18) (Tg.tcons (Tg.nm 19) (Tg.tcons (Tg.nm 20) (Tg.tnil))))) (IX.var 2)
def law_r1 : IS := IS.seq law_s1 law_r2
def law_s0 : IS := IS.asg (Tg.nm 2) (IX.call 26 1 (IX.argV 1 (IX.nil)))
def law_r0 : IS := IS.seq law_s0 law_r1
theorem ir_law_is : ir_law = law_r0 := by kernel_rfl
@[simp] theorem law_e0 {F : Nat → Fn} {k kb kc : Kn} {env : En} {s : Dr} : evS' F law_r0 k kb kc env s = evS' F law_s0 (evS' F law_r1 k kb kc) kb kc env s := by rw [law_r0]; exact xS_seqS
@[simp] theorem law_e1 {F : Nat → Fn} {k kb kc : Kn} {env : En} {s : Dr} : evS' F law_r1 k kb kc env s = evS' F law_s1 (evS' F law_r2 k kb kc) kb kc env s := by rw [law_r1]; exact xS_seqS
@[simp] theorem law_e2 {F : Nat → Fn} {k kb kc : Kn} {env : En} {s : Dr} : evS' F law_r2 k kb kc env s = evS' F law_s2 (evS' F law_r3 k kb kc) kb kc env s := by rw [law_r2]; exact xS_seqS
@[simp] theorem law_e3 {F : Nat → Fn} {k kb kc : Kn} {env : En} {s : Dr} : evS' F law_r3 k kb kc env s = evS' F law_s3 (evS' F law_r4 k kb kc) kb kc env s := by rw [law_r3]; exact xS_seqS
@[simp] theorem law_e4 {F : Nat → Fn} {k kb kc : Kn} {env : En} {s : Dr} : evS' F law_r4 k kb kc env s = evS' F law_s4 (evS' F law_r5 k kb kc) kb kc env s := by rw [law_r4]; exact xS_seqS
@[simp] theorem law_e5 {F : Nat → Fn} {k kb kc : Kn} {env : En} {s : Dr} : evS' F law_r5 k kb kc env s = evS' F law_s5 (evS' F law_r6 k kb kc) kb kc env s := by rw [law_r5]; exact xS_seqS
@[simp] theorem law_e6 {F : Nat → Fn} {k kb kc : Kn} {env : En} {s : Dr} : evS' F law_r6 k kb kc env s = evS' F law_s6 (evS' F law_r7 k kb kc) kb kc env s := by rw [law_r6]; exact xS_seqS
@[simp] theorem law_e7 {F : Nat → Fn} {k kb kc : Kn} {env : En} {s : Dr} : evS' F law_r7 k kb kc env s = evS' F law_s7 (evS' F law_r8 k kb kc) kb kc env s := by rw [law_r7]; exact xS_seqS
@[simp] theorem law_e8 {F : Nat → Fn} {k kb kc : Kn} {env : En} {s : Dr} : evS' F law_r8 k kb kc env s = evS' F law_s8 (evS' F law_r9 k kb kc) kb kc env s := by rw [law_r8]; exact xS_seqS
@[simp] theorem law_e9 {F : Nat → Fn} {k kb kc : Kn} {env : En} {s : Dr} : evS' F law_r9 k kb kc env s = evS' F law_s9 (evS' F law_r10 k kb kc) kb kc env s := by rw [law_r9]; exact xS_seqS
@[simp] theorem law_e10 {F : Nat → Fn} {k kb kc : Kn} {env : En} {s : Dr} : evS' F law_r10 k kb kc env s = evS' F law_s10 (evS' F law_r11 k kb kc) kb kc env s := by rw [law_r10]; exact xS_seqS
@[simp] theorem law_e11 {F : Nat → Fn} {k kb kc : Kn} {env : En} {s : Dr} : evS' F law_r11 k kb kc env s = evS' F law_s11 (evS' F law_r12 k kb kc) kb kc env s := by rw [law_r11]; exact xS_seqS
@[simp] theorem law_e12 {F : Nat → Fn} {k kb kc : Kn} {env : En} {s : Dr} : evS' F law_r12 k kb kc env s = evS' F law_s12 (evS' F law_r13 k kb kc) kb kc env s := by rw [law_r12]; exact xS_seqS
@[simp] theorem law_e13 {F : Nat → Fn} {k kb kc : Kn} {env : En} {s : Dr} : evS' F law_r13 k kb kc env s = evS' F law_s13 (evS' F law_r14 k kb kc) kb kc env s := by rw [law_r13]; exact xS_seqS
@[simp] theorem law_e14 {F : Nat → Fn} {k kb kc : Kn} {env : En} {s : Dr} : evS' F law_r14 k kb kc env s = evS' F law_s14 (evS' F law_r15 k kb kc) kb kc env s := by rw [law_r14]; exact xS_seqS
@[simp] theorem law_e15 {F : Nat → Fn} {k kb kc : Kn} {env : En} {s : Dr} : evS' F law_r15 k kb kc env s = evS' F law_s15 (evS' F law_r16 k kb kc) kb kc env s := by rw [law_r15]; exact xS_seqS
@[simp] theorem law_e16 {F : Nat → Fn} {k kb kc : Kn} {env : En} {s : Dr} : evS' F law_r16 k kb kc env s = evS' F law_s16 (evS' F law_r17 k kb kc) kb kc env s := by rw [law_r16]; exact xS_seqS
@[simp] theorem law_e17 {F : Nat → Fn} {k kb kc : Kn} {env : En} {s : Dr} : evS' F law_r17 k kb kc env s = evS' F law_s17 (evS' F law_r18 k kb kc) kb kc env s := by rw [law_r17]; exact xS_seqS
@[simp] theorem law_e18 {F : Nat → Fn} {k kb kc : Kn} {env : En} {s : Dr} : evS' F law_r18 k kb kc env s = evS' F law_s18 (evS' F law_r19 k kb kc) kb kc env s := by rw [law_r18]; exact xS_seqS
@[simp] theorem law_e19 {F : Nat → Fn} {k kb kc : Kn} {env : En} {s : Dr} : evS' F law_r19 k kb kc env s = evS' F law_s19 (evS' F law_r20 k kb kc) kb kc env s := by rw [law_r19]; exact xS_seqS
@[simp] theorem law_e20 {F : Nat → Fn} {k kb kc : Kn} {env : En} {s : Dr} : evS' F law_r20 k kb kc env s = evS' F law_s20 (evS' F law_r21 k kb kc) kb kc env s := by rw [law_r20]; exact xS_seqS
@[simp] theorem law_e21 {F : Nat → Fn} {k kb kc : Kn} {env : En} {s : Dr} : evS' F law_r21 k kb kc env s = evS' F law_s21 (evS' F law_r22 k kb kc) kb kc env s := by rw [law_r21]; exact xS_seqS
@[simp] theorem law_e22 {F : Nat → Fn} {k kb kc : Kn} {env : En} {s : Dr} : evS' F law_r22 k kb kc env s = evS' F law_s22 (evS' F law_r23 k kb kc) kb kc env s := by rw [law_r22]; exact xS_seqS
@[simp] theorem law_e23 {F : Nat → Fn} {k kb kc : Kn} {env : En} {s : Dr} : evS' F law_r23 k kb kc env s = evS' F law_s23 (evS' F law_r24 k kb kc) kb kc env s := by rw [law_r23]; exact xS_seqS
@[simp] theorem law_e24 {F : Nat → Fn} {k kb kc : Kn} {env : En} {s : Dr} : evS' F law_r24 k kb kc env s = evS' F law_s24 (evS' F law_r25 k kb kc) kb kc env s := by rw [law_r24]; exact xS_seqS
@[simp] theorem law_e25 {F : Nat → Fn} {k kb kc : Kn} {env : En} {s : Dr} : evS' F law_r25 k kb kc env s = evS' F law_s25 (evS' F law_r26 k kb kc) kb kc env s := by rw [law_r25]; exact xS_seqS
def _law_part1_r24 : IS := IS.ret (IX.call 27 0 (IX.nil))
def _law_part1_s23 : IS := IS.forS [22] (IX.seq (IX.pk 22)) (Tg.tup (Tg.tcons (Tg.nm 24) (Tg.tcons (Tg.nm 25) (Tg.tcons (Tg.nm 26) (Tg.tnil))))) (IS.ite (IX.tev (IX.b2 (O2.ne) (IX.pk 26) (IX.ix (IX.lc (IX.rng2 (IX.cons (IX.c (PyData.int 2)) (IX.cons (IX.var 24) (IX.nil)))) (Tg.nm 29) [29] (IX.tev (IX.b2 (O2.eq) (IX.call 24 3 (IX.argV 24 (IX.argV 29 (IX.argV 25 (IX.nil))))) (IX.c (PyData.int 1)))) (IX.var 29)) (IX.c (PyData.int 0))))) (IS.ret (IX.c (PyData.bool false))) (IS.skip))
def _law_part1_r23 : IS := IS.seq _law_part1_s23 _law_part1_r24
def _law_part1_s22 : IS := IS.ite (IX.tev (IX.b2 (O2.ne) (IX.lc (IX.seq (IX.pk 22)) (Tg.nm 28) [28] (IX.tt) (IX.tup (IX.cons (IX.ix (IX.pk 28) (IX.c (PyData.int 0))) (IX.cons (IX.ix (IX.pk 28) (IX.c (PyData.int 1))) (IX.nil))))) (IX.pk 23))) (IS.ret (IX.c (PyData.bool false))) (IS.skip)
def _law_part1_r22 : IS := IS.seq _law_part1_s22 _law_part1_r23
def _law_part1_s21 : IS := IS.forS [] (IX.rng2 (IX.cons (IX.c (PyData.int 3)) (IX.cons (IX.b2 (O2.add) (IX.pk 21) (IX.c (PyData.int 1))) (IX.nil)))) (Tg.nm 24) (IS.ite (IX.tru (IX.call 25 1 (IX.argV 24 (IX.nil)))) (IS.asg (Tg.nm 23) (IX.b2 (O2.add) (IX.pk 23) (IX.lc (IX.rng2 (IX.cons (IX.c (PyData.int 2)) (IX.cons (IX.var 24) (IX.nil)))) (Tg.nm 25) [25] (IX.tif (IX.tru (IX.call 25 1 (IX.argV 25 (IX.nil)))) (IX.tev (IX.b2 (O2.eq) (IX.b2 (O2.mod) (IX.bi (Bi.int) (IX.cons (IX.b2 (O2.sub) (IX.pk 24) (IX.c (PyData.int 1))) (IX.nil))) (IX.pk 25)) (IX.c (PyData.int 0)))) (IX.ff)) (IX.tup (IX.cons (IX.var 24) (IX.cons (IX.var 25) (IX.nil))))))) (IS.skip))
def _law_part1_r21 : IS := IS.seq _law_part1_s21 _law_part1_r22
def _law_part1_s20 : IS := IS.asg (Tg.nm 23) (IX.lst (IX.nil))
def _law_part1_r20 : IS := IS.seq _law_part1_s20 _law_part1_r21
def _law_part1_s19 : IS := IS.asg (Tg.nm 22) (IX.call 7 1 (IX.argV 21 (IX.nil)))
def _law_part1_r19 : IS := IS.seq _law_part1_s19 _law_part1_r20
def _law_part1_s18 : IS := IS.asg (Tg.nm 21) (IX.b2 (O2.add) (IX.c (PyData.int 3)) (IX.call 22 2 (IX.argV 0 (IX.argC (IX.c (PyData.int 30)) (IX.nil)))))
def _law_part1_r18 : IS := IS.seq _law_part1_s18 _law_part1_r19
def _law_part1_s17 : IS := IS.ite (IX.tev (IX.b2 (O2.ne) (IX.call 18 4 (IX.argV 1 (IX.argV 13 (IX.argC (IX.tup (IX.cons (IX.var 14) (IX.cons (IX.var 5) (IX.nil)))) (IX.argC (IX.tup (IX.cons (IX.var 7) (IX.cons (IX.var 19) (IX.nil)))) (IX.nil)))))) (IX.ife (IX.tru (IX.pk 20)) (IX.var 12) (IX.c (PyData.none))))) (IS.ret (IX.c (PyData.bool false))) (IS.skip)
def _law_part1_r17 : IS := IS.seq _law_part1_s17 _law_part1_r18
def _law_part1_s16 : IS := IS.asg (Tg.nm 20) (IX.andV (IX.b2 (O2.eq) (IX.call 16 4 (IX.argV 1 (IX.argV 13 (IX.argV 7 (IX.argV 19 (IX.nil)))))) (IX.pk 15)) (IX.b2 (O2.ne) (IX.pk 19) (IX.pk 5)))
def _law_part1_r16 : IS := IS.seq _law_part1_s16 _law_part1_r17
def _law_part1_s15 : IS := IS.asg (Tg.nm 19) (IX.call 22 2 (IX.argV 0 (IX.argV 3 (IX.nil))))
def _law_part1_r15 : IS := IS.seq _law_part1_s15 _law_part1_r16
def _law_part1_s14 : IS := IS.ite (IX.tev (IX.b2 (O2.ne) (IX.call 18 4 (IX.argV 1 (IX.argV 13 (IX.argC (IX.tup (IX.cons (IX.var 14) (IX.cons (IX.var 5) (IX.nil)))) (IX.argC (IX.tup (IX.cons (IX.var 17) (IX.cons (IX.var 18) (IX.nil)))) (IX.nil)))))) (IX.ife (IX.tev (IX.b2 (O2.ne) (IX.pk 18) (IX.pk 5))) (IX.var 12) (IX.c (PyData.none))))) (IS.ret (IX.c (PyData.bool false))) (IS.skip)
def _law_part1_r14 : IS := IS.seq _law_part1_s14 _law_part1_r15
def _law_part1_s13 : IS := IS.ite (IX.tev (IX.b2 (O2.ne) (IX.call 16 4 (IX.argV 1 (IX.argV 13 (IX.argV 17 (IX.argV 18 (IX.nil)))))) (IX.pk 15))) (IS.ret (IX.c (PyData.bool false))) (IS.skip)
def _law_part1_r13 : IS := IS.seq _law_part1_s13 _law_part1_r14
def _law_part1_s12 : IS := IS.asg (Tg.nm 18) (IX.call 19 6 (IX.argV 1 (IX.argV 13 (IX.argV 12 (IX.argV 14 (IX.argV 5 (IX.argV 17 (IX.nil))))))))
def _law_part1_r12 : IS := IS.seq _law_part1_s12 _law_part1_r13
def _law_part1_s11 : IS := IS.asg (Tg.nm 17) (IX.call 22 2 (IX.argV 0 (IX.argV 3 (IX.nil))))
def _law_part1_r11 : IS := IS.seq _law_part1_s11 _law_part1_r12
def _law_part1_s10 : IS := IS.ite (IX.tif (IX.tev (IX.b2 (O2.ne) (IX.pk 16) (IX.bi (Bi.tuple) (IX.cons (IX.lc (IX.seq (IX.bi (Bi.sorted) (IX.cons (IX.pk 4) (IX.nil)))) (Tg.nm 30) [30] (IX.tt) (IX.tup (IX.cons (IX.var 30) (IX.cons (IX.c (PyData.int 1)) (IX.nil))))) (IX.nil))))) (IX.tt) (IX.tif (IX.tev (IX.b2 (O2.ne) (IX.call 17 3 (IX.argV 1 (IX.argV 13 (IX.argV 7 (IX.nil))))) (IX.pk 16))) (IX.tt) (IX.tev (IX.b2 (O2.ne) (IX.call 17 3 (IX.argV 1 (IX.argC (IX.c (PyData.int 1)) (IX.argV 14 (IX.nil))))) (IX.tup (IX.cons (IX.tup (IX.cons (IX.ix (IX.pk 4) (IX.pk 14)) (IX.cons (IX.var 3) (IX.nil)))) (IX.nil))))))) (IS.ret (IX.c (PyData.bool false))) (IS.skip)
def _law_part1_r10 : IS := IS.seq _law_part1_s10 _law_part1_r11
def _law_part1_s9 : IS := IS.asg (Tg.nm 16) (IX.call 17 3 (IX.argV 1 (IX.argV 13 (IX.argV 14 (IX.nil)))))
def _law_part1_r9 : IS := IS.seq _law_part1_s9 _law_part1_r10
def _law_part1_s8 : IS := IS.ite (IX.tif (IX.tev (IX.b2 (O2.ne) (IX.pk 15) (IX.b2 (O2.mod) (IX.bi (Bi.int) (IX.cons (IX.b2 (O2.mul) (IX.ix (IX.pk 4) (IX.pk 14)) (IX.call 24 3 (IX.argV 2 (IX.argV 13 (IX.argV 5 (IX.nil)))))) (IX.nil))) (IX.pk 2)))) (IX.tt) (IX.tev (IX.b2 (O2.ne) (IX.pk 15) (IX.ix (IX.pk 4) (IX.b2 (O2.mod) (IX.bi (Bi.int) (IX.cons (IX.b2 (O2.add) (IX.pk 14) (IX.b2 (O2.mul) (IX.pk 12) (IX.pk 5))) (IX.nil))) (IX.pk 3)))))) (IS.ret (IX.c (PyData.bool false))) (IS.skip)
def _law_part1_r8 : IS := IS.seq _law_part1_s8 _law_part1_r9
def _law_part1_s7 : IS := IS.asg (Tg.nm 15) (IX.call 16 4 (IX.argV 1 (IX.argV 13 (IX.argV 14 (IX.argV 5 (IX.nil))))))
def _law_part1_r7 : IS := IS.seq _law_part1_s7 _law_part1_r8
def _law_part1_s6 : IS := IS.asg (Tg.nm 14) (IX.call 22 2 (IX.argV 0 (IX.argV 3 (IX.nil))))
def _law_part1_r6 : IS := IS.seq _law_part1_s6 _law_part1_r7
def _law_part1_s5 : IS := IS.asg (Tg.nm 13) (IX.ix (IX.pk 4) (IX.pk 12))
def _law_part1_r5 : IS := IS.seq _law_part1_s5 _law_part1_r6
def _law_part1_s4 : IS := IS.asg (Tg.nm 12) (IX.b2 (O2.add) (IX.c (PyData.int 1)) (IX.call 22 2 (IX.argV 0 (IX.argC (IX.b2 (O2.sub) (IX.pk 3) (IX.c (PyData.int 1))) (IX.nil)))))
def _law_part1_r4 : IS := IS.seq _law_part1_s4 _law_part1_r5
def _law_part1_s3 : IS := IS.ite (IX.tev (IX.b2 (O2.ne) (IX.call 20 4 (IX.argV 1 (IX.argC (IX.bi (Bi.tuple) (IX.cons (IX.pk 8) (IX.nil))) (IX.argC (IX.bi (Bi.tuple) (IX.cons (IX.pk 9) (IX.nil))) (IX.argV 11 (IX.nil)))))) (IX.pk 6))) (IS.ret (IX.c (PyData.bool false))) (IS.skip)
def _law_part1_r3 : IS := IS.seq _law_part1_s3 _law_part1_r4
def _law_part1_s2 : IS := IS.asg (Tg.nm 11) (IX.call 11 4 (IX.argV 1 (IX.argC (IX.ix (IX.pk 4) (IX.pk 10)) (IX.argV 6 (IX.argV 5 (IX.nil))))))
def _law_part1_r2 : IS := IS.seq _law_part1_s2 _law_part1_r3
def _law_part1_s1 : IS := IS.asg (Tg.nm 10) (IX.b2 (O2.mod) (IX.bi (Bi.int) (IX.cons (IX.bi (Bi.sum) (IX.cons (IX.lc (IX.rng1 (IX.cons (IX.bi (Bi.len) (IX.cons (IX.pk 8) (IX.nil))) (IX.nil))) (Tg.nm 29) [29] (IX.tt) (IX.b2 (O2.mul) (IX.ix (IX.pk 8) (IX.pk 29)) (IX.ix (IX.pk 9) (IX.pk 29)))) (IX.nil))) (IX.nil))) (IX.pk 3))
def _law_part1_r1 : IS := IS.seq _law_part1_s1 _law_part1_r2
def _law_part1_s0 : IS := IS.asg (Tg.nm 9) (IX.lc (IX.seq (IX.pk 8)) (Tg.nm 27) [27] (IX.tt) (IX.b2 (O2.sub) (IX.call 22 2 (IX.argV 0 (IX.argC (IX.c (PyData.int 9)) (IX.nil)))) (IX.c (PyData.int 4))))
def _law_part1_r0 : IS := IS.seq _law_part1_s0 _law_part1_r1
theorem ir__law_part1_is : ir__law_part1 = _law_part1_r0 := by kernel_rfl
@[simp] theorem _law_part1_e0 {F : Nat → Fn} {k kb kc : Kn} {env : En} {s : Dr} : evS' F _law_part1_r0 k kb kc env s = evS' F _law_part1_s0 (evS' F _law_part1_r1 k kb kc) kb kc env s := by rw [_law_part1_r0]; exact xS_seqS
@[simp] theorem _law_part1_e1 {F : Nat → Fn} {k kb kc : Kn} {env : En} {s : Dr} : evS' F _law_part1_r1 k kb kc env s = evS' F _law_part1_s1 (evS' F _law_part1_r2 k kb kc) kb kc env s := by rw [_law_part1_r1]; exact xS_seqS
@[simp] theorem _law_part1_e2 {F : Nat → Fn} {k kb kc : Kn} {env : En} {s : Dr} : evS' F _law_part1_r2 k kb kc env s = evS' F _law_part1_s2 (evS' F _law_part1_r3 k kb kc) kb kc env s := by rw [_law_part1_r2]; exact xS_seqS
@[simp] theorem _law_part1_e3 {F : Nat → Fn} {k kb kc : Kn} {env : En} {s : Dr} : evS' F _law_part1_r3 k kb kc env s = evS' F _law_part1_s3 (evS' F _law_part1_r4 k kb kc) kb kc env s := by rw [_law_part1_r3]; exact xS_seqS
@[simp] theorem _law_part1_e4 {F : Nat → Fn} {k kb kc : Kn} {env : En} {s : Dr} : evS' F _law_part1_r4 k kb kc env s = evS' F _law_part1_s4 (evS' F _law_part1_r5 k kb kc) kb kc env s := by rw [_law_part1_r4]; exact xS_seqS
@[simp] theorem _law_part1_e5 {F : Nat → Fn} {k kb kc : Kn} {env : En} {s : Dr} : evS' F _law_part1_r5 k kb kc env s = evS' F _law_part1_s5 (evS' F _law_part1_r6 k kb kc) kb kc env s := by rw [_law_part1_r5]; exact xS_seqS
@[simp] theorem _law_part1_e6 {F : Nat → Fn} {k kb kc : Kn} {env : En} {s : Dr} : evS' F _law_part1_r6 k kb kc env s = evS' F _law_part1_s6 (evS' F _law_part1_r7 k kb kc) kb kc env s := by rw [_law_part1_r6]; exact xS_seqS
@[simp] theorem _law_part1_e7 {F : Nat → Fn} {k kb kc : Kn} {env : En} {s : Dr} : evS' F _law_part1_r7 k kb kc env s = evS' F _law_part1_s7 (evS' F _law_part1_r8 k kb kc) kb kc env s := by rw [_law_part1_r7]; exact xS_seqS
@[simp] theorem _law_part1_e8 {F : Nat → Fn} {k kb kc : Kn} {env : En} {s : Dr} : evS' F _law_part1_r8 k kb kc env s = evS' F _law_part1_s8 (evS' F _law_part1_r9 k kb kc) kb kc env s := by rw [_law_part1_r8]; exact xS_seqS
@[simp] theorem _law_part1_e9 {F : Nat → Fn} {k kb kc : Kn} {env : En} {s : Dr} : evS' F _law_part1_r9 k kb kc env s = evS' F _law_part1_s9 (evS' F _law_part1_r10 k kb kc) kb kc env s := by rw [_law_part1_r9]; exact xS_seqS
@[simp] theorem _law_part1_e10 {F : Nat → Fn} {k kb kc : Kn} {env : En} {s : Dr} : evS' F _law_part1_r10 k kb kc env s = evS' F _law_part1_s10 (evS' F _law_part1_r11 k kb kc) kb kc env s := by rw [_law_part1_r10]; exact xS_seqS
@[simp] theorem _law_part1_e11 {F : Nat → Fn} {k kb kc : Kn} {env : En} {s : Dr} : evS' F _law_part1_r11 k kb kc env s = evS' F _law_part1_s11 (evS' F _law_part1_r12 k kb kc) kb kc env s := by rw [_law_part1_r11]; exact xS_seqS
@[simp] theorem _law_part1_e12 {F : Nat → Fn} {k kb kc : Kn} {env : En} {s : Dr} : evS' F _law_part1_r12 k kb kc env s = evS' F _law_part1_s12 (evS' F _law_part1_r13 k kb kc) kb kc env s := by rw [_law_part1_r12]; exact xS_seqS
@[simp] theorem _law_part1_e13 {F : Nat → Fn} {k kb kc : Kn} {env : En} {s : Dr} : evS' F _law_part1_r13 k kb kc env s = evS' F _law_part1_s13 (evS' F _law_part1_r14 k kb kc) kb kc env s := by rw [_law_part1_r13]; exact xS_seqS
@[simp] theorem _law_part1_e14 {F : Nat → Fn} {k kb kc : Kn} {env : En} {s : Dr} : evS' F _law_part1_r14 k kb kc env s = evS' F _law_part1_s14 (evS' F _law_part1_r15 k kb kc) kb kc env s := by rw [_law_part1_r14]; exact xS_seqS
@[simp] theorem _law_part1_e15 {F : Nat → Fn} {k kb kc : Kn} {env : En} {s : Dr} : evS' F _law_part1_r15 k kb kc env s = evS' F _law_part1_s15 (evS' F _law_part1_r16 k kb kc) kb kc env s := by rw [_law_part1_r15]; exact xS_seqS
@[simp] theorem _law_part1_e16 {F : Nat → Fn} {k kb kc : Kn} {env : En} {s : Dr} : evS' F _law_part1_r16 k kb kc env s = evS' F _law_part1_s16 (evS' F _law_part1_r17 k kb kc) kb kc env s := by rw [_law_part1_r16]; exact xS_seqS
@[simp] theorem _law_part1_e17 {F : Nat → Fn} {k kb kc : Kn} {env : En} {s : Dr} : evS' F _law_part1_r17 k kb kc env s = evS' F _law_part1_s17 (evS' F _law_part1_r18 k kb kc) kb kc env s := by rw [_law_part1_r17]; exact xS_seqS
@[simp] theorem _law_part1_e18 {F : Nat → Fn} {k kb kc : Kn} {env : En} {s : Dr} : evS' F _law_part1_r18 k kb kc env s = evS' F _law_part1_s18 (evS' F _law_part1_r19 k kb kc) kb kc env s := by rw [_law_part1_r18]; exact xS_seqS
@[simp] theorem _law_part1_e19 {F : Nat → Fn} {k kb kc : Kn} {env : En} {s : Dr} : evS' F _law_part1_r19 k kb kc env s = evS' F _law_part1_s19 (evS' F _law_part1_r20 k kb kc) kb kc env s := by rw [_law_part1_r19]; exact xS_seqS
@[simp] theorem _law_part1_e20 {F : Nat → Fn} {k kb kc : Kn} {env : En} {s : Dr} : evS' F _law_part1_r20 k kb kc env s = evS' F _law_part1_s20 (evS' F _law_part1_r21 k kb kc) kb kc env s := by rw [_law_part1_r20]; exact xS_seqS
@[simp] theorem _law_part1_e21 {F : Nat → Fn} {k kb kc : Kn} {env : En} {s : Dr} : evS' F _law_part1_r21 k kb kc env s = evS' F _law_part1_s21 (evS' F _law_part1_r22 k kb kc) kb kc env s := by rw [_law_part1_r21]; exact xS_seqS
@[simp] theorem _law_part1_e22 {F : Nat → Fn} {k kb kc : Kn} {env : En} {s : Dr} : evS' F _law_part1_r22 k kb kc env s = evS' F _law_part1_s22 (evS' F _law_part1_r23 k kb kc) kb kc env s := by rw [_law_part1_r22]; exact xS_seqS
@[simp] theorem _law_part1_e23 {F : Nat → Fn} {k kb kc : Kn} {env : En} {s : Dr} : evS' F _law_part1_r23 k kb kc env s = evS' F _law_part1_s23 (evS' F _law_part1_r24 k kb kc) kb kc env s := by rw [_law_part1_r23]; exact xS_seqS
end Row

set_option Elab.async false
set_option linter.all false
set_option maxRecDepth 100000
set_option maxHeartbeats 1000000
namespace Row
open PySem PySem.Spec PyProof.Rows L2 L2.DL
open Enc (enc)
variable [TabL]
local macro_rules | `(tactic| trivial) => `(tactic| (simp only [decide_eq_true_eq, decide_eq_false_iff_not, Bool.and_eq_true, Bool.or_eq_true, Bool.not_eq_true', Bool.not_eq_false', Bool.or_eq_false_iff, Bool.and_eq_false_iff, List.length_map, irange_len, List.length_append, List.length_cons, List.length_nil]; omega))
local macro_rules | `(tactic| trivial) => `(tactic| exact Nat.le_of_ble_eq_true rfl)
local macro_rules | `(tactic| trivial) => `(tactic| omega)
local macro_rules | `(tactic| trivial) => `(tactic| assumption)
variable {n : Nat} {s : Dr} {p q g : Int}
theorem gNe_iii {a b c a' b' c' : Int} : gNe (.tuple [.int a, .int b, .int c]) (.tuple [.int a', .int b', .int c']) = some (.bool (!decide ((⟨a, b, c⟩ : T3 Int Int Int) = ⟨a', b', c'⟩))) := gNe_enc (a := (⟨a, b, c⟩ : T3 Int Int Int)) (b := ⟨a', b', c'⟩) (Nat.le_of_ble_eq_true rfl)
theorem law1 (hs : DrOk s) (k kb kc : Kn) (Q : D → Dr → Prop)
    (hk : ∀ (p q g : Int) (s : Dr), DrOk s → Gr p q g → Wp (evS' (FP 20) law_r4 k kb kc [.no, .drw, .val (.tuple [.int p, .int q, .int g]), .val (.list (encs (ownL p q g))), .no, .no, .no, .no, .no, .no, .no, .no, .no, .no, .no, .no, .no, .no, .val (.int p), .val (.int q), .val (.int g), .no, .no, .no, .no, .no] s) Q) :
    Wp (evS' (FP 20) law_r0 k kb kc [.no, .drw, .no, .no, .no, .no, .no, .no, .no, .no, .no, .no, .no, .no, .no, .no, .no, .no, .no, .no, .no, .no, .no, .no, .no, .no] s) Q := by
  obtain ⟨_, s1, e1, p, q, g, rfl, G, hs1⟩ := law_group (n := 20) (by omega) hs
  obtain ⟨p1, p2, q1, q2, qp, g1, g2, pg, -⟩ := id G
  simp (disch := trivial) [law_s0, law_s1, e1, -law_e2]
  rw [law_e2]
  unfold law_s2
  simp (disch := trivial) [-law_e3]
  refine lc_all (irange 0 q) (fun i => pw p g i) (by simp (disch := trivial) <;> rfl) (fun i hi => ?_) ?_
  · obtain ⟨i0, i1⟩ := mem_irange.mp hi
    have e := fun s => law_power (n := 20) (s := s) (p := p) (b := g) (t := i) (by omega) (by omega) (by omega) (by omega) (by omega) (by omega) (by omega)
    simp (disch := trivial) [e]
  have m := fun s => members (n := 20) (s := s) (by omega) G
  have hl := own_len (p := p) (g := g) (show 0 ≤ q by omega)
  have hl2 : (ownL p q g).length < 4000 := by omega
  have hl3 : (ownL p q g).length ≤ 16777216 := by omega
  have ho := G.own_set
  rw [show (irange 0 q).map (fun i => pw p g i) = ownL p q g from rfl]
  simp (disch := first | exact hl2 | exact hl3 | trivial) [law_s3, m, ho, -law_e4]
  exact hk p q g _ hs1 G
theorem law2 (hs : DrOk s) (G : Gr p q g) (k kb kc : Kn) (Q : D → Dr → Prop)
    (hk : ∀ (x : Int) (s : Dr), DrOk s → Wp (evS' (FP 20) law_r6 k kb kc [.no, .drw, .val (.tuple [.int p, .int q, .int g]), .val (.list (encs (ownL p q g))), .val (.int x), .no, .no, .no, .no, .no, .no, .no, .no, .no, .no, .no, .no, .no, .val (.int p), .val (.int q), .val (.int g), .no, .no, .no, .no, .no] s) Q) :
    Wp (evS' (FP 20) law_r4 k kb kc [.no, .drw, .val (.tuple [.int p, .int q, .int g]), .val (.list (encs (ownL p q g))), .no, .no, .no, .no, .no, .no, .no, .no, .no, .no, .no, .no, .no, .no, .val (.int p), .val (.int q), .val (.int g), .no, .no, .no, .no, .no] s) Q := by
  obtain ⟨p1, p2, q1, q2, qp, g1, g2, pg, -⟩ := id G
  have hl := own_len (p := p) (g := g) (show 0 ≤ q by omega)
  simp (disch := trivial) [law_s4]
  refine wp_took (take (by omega) (by omega) (by omega) hs) fun t s t0 t1 hs => ?_
  have e := own_nth (p := p) (g := g) t0 t1
  have hm := G.own_mem t0
  have lo := fun s => log_of (n := 20) (s := s) (by omega) G (G.m_o t0) hm
  have gi : gIndex (encs (ownL p q g)) (.int (pw p g t)) = some (.int ((ownL p q g).idxOf (pw p g t) : Int)) := gIndex_int hm
  simp (disch := trivial) [law_s5, e, lo, gi, -law_e6]
  exact hk _ _ hs
theorem law3 (hs : DrOk s) (G : Gr p q g) {x : Int} (k kb kc : Kn) (Q : D → Dr → Prop)
    (hk : ∀ (y4 y5 y6 y7 : Sl) (s : Dr), DrOk s → Wp (evS' (FP 20) law_r10 k kb kc [.no, .drw, .val (.tuple [.int p, .int q, .int g]), .val (.list (encs (ownL p q g))), y4, y5, y6, y7, .no, .no, .no, .no, .no, .no, .no, .no, .no, .no, .val (.int p), .val (.int q), .val (.int g), .no, .no, .no, .no, .no] s) Q) :
    Wp (evS' (FP 20) law_r6 k kb kc [.no, .drw, .val (.tuple [.int p, .int q, .int g]), .val (.list (encs (ownL p q g))), .val (.int x), .no, .no, .no, .no, .no, .no, .no, .no, .no, .no, .no, .no, .no, .val (.int p), .val (.int q), .val (.int g), .no, .no, .no, .no, .no] s) Q := by
  obtain ⟨p1, p2, q1, q2, qp, g1, g2, pg, -⟩ := id G
  simp (disch := trivial) [law_s6]
  refine wp_took (take (by omega) (by omega) (by omega) hs) fun b s b0 b1 hs => ?_
  simp (disch := trivial) [law_s7]
  refine wp_took (take (by omega) (by omega) (by omega) hs) fun t s t0 t1 hs => ?_
  have lp := fun s => law_power (n := 20) (s := s) (p := p) (b := 1 + b) (t := if t - 20 < 0 then -(t - 20) else t - 20) (by omega) (by omega) (by omega) (by omega) (by omega) (by split <;> omega) (by split <;> omega)
  have po := fun s => power (n := 20) (s := s) (t := t - 20) (by omega) G (show 1 ≤ 1 + b by omega) (by omega)
  have hi := pw_in (p := p) (b := 1 + b) (t := t - 20) (by omega)
  simp (disch := trivial) [law_s8, lp, law_s9, po, -law_e10]
  refine Wp.ite_of (fun hc => ?_) fun hc => ?_
  · have hc := of_decide_eq_true hc
    have h2 : ¬ t - 20 < 0 := by omega
    have e := G.back (b := 1 + b) (t := t - 20) (by omega) (by omega) (by omega)
    simp (disch := trivial) [if_neg h2, e, -law_e10]
    exact hk _ _ _ _ _ hs
  · have hc := of_decide_eq_false hc
    have h2 : t - 20 < 0 := by omega
    simp (disch := trivial) [if_pos h2, -law_e10]
    have hi2 := pw_in (p := p) (b := 1 + b) (t := -(t - 20)) (by omega)
    refine lc_enc (irange 1 p) (fun k => decide (k * pw p (1 + b) (-(t - 20)) % p = 1)) (fun k => k) (by simp (disch := trivial) <;> rfl) (fun k hk => ?_) ?_
    · obtain ⟨k0, k1⟩ := mem_irange.mp hk
      simp (disch := trivial)
    rw [List.map_id']
    obtain ⟨e1, e2⟩ := G.neg (b := 1 + b) (t := t - 20) (by omega) (by omega) h2
    have e3 : gIx (.list (encs ((irange 1 p).filter fun k => decide (k * pw p (1 + b) (-(t - 20)) % p = 1)))) (.int 0) = some (.int (pw p (1 + b) ((t - 20) % (p - 1)))) := by
      rw [gIx_encL_s (by omega) (by omega), e2]; rfl
    simp (disch := trivial) [e3, -law_e10]
    exact hk _ _ _ _ _ hs
theorem law4 (hs : DrOk s) (G : Gr p q g) {y4 y5 y6 y7 : Sl} (k kb kc : Kn) (Q : D → Dr → Prop)
    (hk : ∀ (a b : Int) (y21 y22 y23 : Sl) (s : Dr), DrOk s → 0 ≤ a → a < q → 0 ≤ b → b < q → Wp (evS' (FP 20) law_r14 k kb kc [.no, .drw, .val (.tuple [.int p, .int q, .int g]), .val (.list (encs (ownL p q g))), y4, y5, y6, y7, .val (.int a), .val (.int b), .no, .no, .no, .no, .no, .no, .no, .no, .val (.int p), .val (.int q), .val (.int g), y21, y22, y23, .no, .no] s) Q) :
    Wp (evS' (FP 20) law_r10 k kb kc [.no, .drw, .val (.tuple [.int p, .int q, .int g]), .val (.list (encs (ownL p q g))), y4, y5, y6, y7, .no, .no, .no, .no, .no, .no, .no, .no, .no, .no, .val (.int p), .val (.int q), .val (.int g), .no, .no, .no, .no, .no] s) Q := by
  obtain ⟨p1, p2, q1, q2, qp, g1, g2, pg, -⟩ := id G
  have hl := own_len (p := p) (g := g) (show 0 ≤ q by omega)
  simp (disch := trivial) [law_s10]
  refine wp_took (take (by omega) (by omega) (by omega) hs) fun a s a0 a1 hs => ?_
  simp (disch := trivial) [law_s11]
  refine wp_took (take (by omega) (by omega) (by omega) hs) fun b s b0 b1 hs => ?_
  have ag := fun s => agreed (n := 20) (s := s) (by omega) G a0 a1 b0 b1
  have ag2 := fun s => agreed (n := 20) (s := s) (by omega) G b0 b1 a0 a1
  have ea := own_nth (p := p) (g := g) a0 a1
  have eb := own_nth (p := p) (g := g) b0 b1
  have ia := pw_in (p := p) (b := g) (t := a) (by omega)
  have ib := pw_in (p := p) (b := g) (t := b) (by omega)
  have l1 := fun s => law_power (n := 20) (s := s) (p := p) (b := pw p g a) (t := b) (by omega) (by omega) (by omega) (by omega) (by omega) (by omega) (by omega)
  have l2 := fun s => law_power (n := 20) (s := s) (p := p) (b := pw p g b) (t := a) (by omega) (by omega) (by omega) (by omega) (by omega) (by omega) (by omega)
  have e : pw p (pw p g a) b = pw p (pw p g b) a := by rw [pw_mul a0 b0, pw_mul b0 a0, Int.mul_comm]
  simp (disch := trivial) [law_s12, law_s13, ag, ag2, ea, eb, l1, l2, e, gNe_iii, -law_e14]
  exact hk a b _ _ _ _ hs a0 a1 b0 b1
end Row

set_option Elab.async false
set_option linter.all false
set_option maxRecDepth 100000
set_option maxHeartbeats 1000000
namespace Row
open PySem PySem.Spec PyProof.Rows L2 L2.DL
open Enc (enc)
variable [TabL]
local macro_rules | `(tactic| trivial) => `(tactic| (simp only [decide_eq_true_eq, decide_eq_false_iff_not, Bool.and_eq_true, Bool.or_eq_true, Bool.not_eq_true', Bool.not_eq_false', Bool.or_eq_false_iff, Bool.and_eq_false_iff, List.length_map, irange_len, List.length_append, List.length_cons, List.length_nil]; omega))
local macro_rules | `(tactic| trivial) => `(tactic| exact Nat.le_of_ble_eq_true rfl)
local macro_rules | `(tactic| trivial) => `(tactic| omega)
local macro_rules | `(tactic| trivial) => `(tactic| assumption)
variable {n : Nat} {s : Dr} {p q g a b c m o : Int} {y4 y5 y6 y7 y21 y22 y23 : Sl}
theorem law5 (hs : DrOk s) (G : Gr p q g) (a0 : 0 ≤ a) (a1 : a < q) (b0 : 0 ≤ b) (b1 : b < q) (k kb kc : Kn) (Q : D → Dr → Prop)
    (hk : ∀ (m o c : Int) (s : Dr), DrOk s → Mem p q g m → Mem p q g o → 0 ≤ c → c < q → Wp (evS' (FP 20) law_r20 k kb kc [.no, .drw, .val (.tuple [.int p, .int q, .int g]), .val (.list (encs (ownL p q g))), y4, y5, y6, y7, .val (.int a), .val (.int b), .val (.int (pw p g a)), .val (.int m), .val (.int o), .val (.tuple [.int (pw p g b), .int (m * pw p (pw p g a) b % p)]), .val (.int c), .val (.tuple [.int (pw p g c), .int (o * pw p (pw p g a) c % p)]), .no, .no, .val (.int p), .val (.int q), .val (.int g), y21, y22, y23, .no, .no] s) Q) :
    Wp (evS' (FP 20) law_r14 k kb kc [.no, .drw, .val (.tuple [.int p, .int q, .int g]), .val (.list (encs (ownL p q g))), y4, y5, y6, y7, .val (.int a), .val (.int b), .no, .no, .no, .no, .no, .no, .no, .no, .val (.int p), .val (.int q), .val (.int g), y21, y22, y23, .no, .no] s) Q := by
  obtain ⟨p1, p2, q1, q2, qp, g1, g2, pg, -⟩ := id G
  have hl := own_len (p := p) (g := g) (show 0 ≤ q by omega)
  have ea := own_nth (p := p) (g := g) a0 a1
  simp (disch := trivial) [law_s14, ea, law_s15]
  refine wp_took (take (by omega) (by omega) (by omega) hs) fun i s i0 i1 hs => ?_
  have ei := own_nth (p := p) (g := g) i0 i1
  simp (disch := trivial) [law_s16, ei]
  refine wp_took (take (by omega) (by omega) (by omega) hs) fun j s j0 j1 hs => ?_
  have ej := own_nth (p := p) (g := g) j0 j1
  have l1 := fun s => lock (n := 20) (s := s) (by omega) G (G.m_o a0) (G.m_o i0) b0 b1
  simp (disch := trivial) [law_s17, ej, l1, law_s18]
  refine wp_took (take (by omega) (by omega) (by omega) hs) fun c s c0 c1 hs => ?_
  have l2 := fun s => lock (n := 20) (s := s) (by omega) G (G.m_o a0) (G.m_o j0) c0 c1
  simp (disch := trivial) [law_s19, l2, -law_e20]
  exact hk _ _ c s hs (G.m_o i0) (G.m_o j0) c0 c1
theorem law6 (hs : DrOk s) (G : Gr p q g) (a0 : 0 ≤ a) (a1 : a < q) (b0 : 0 ≤ b) (b1 : b < q) (hm : Mem p q g m) (ho : Mem p q g o) (c0 : 0 ≤ c) (c1 : c < q) (k kb kc : Kn) (Q : D → Dr → Prop)
    (hk : Wp (evS' (FP 20) law_r23 k kb kc [.no, .drw, .val (.tuple [.int p, .int q, .int g]), .val (.list (encs (ownL p q g))), y4, y5, y6, y7, .val (.int a), .val (.int b), .val (.int (pw p g a)), .val (.int m), .val (.int o), .val (.tuple [.int (pw p g b), .int (m * pw p (pw p g a) b % p)]), .val (.int c), .val (.tuple [.int (pw p g c), .int (o * pw p (pw p g a) c % p)]), .no, .no, .val (.int p), .val (.int q), .val (.int g), y21, y22, y23, .no, .no] s) Q) :
    Wp (evS' (FP 20) law_r20 k kb kc [.no, .drw, .val (.tuple [.int p, .int q, .int g]), .val (.list (encs (ownL p q g))), y4, y5, y6, y7, .val (.int a), .val (.int b), .val (.int (pw p g a)), .val (.int m), .val (.int o), .val (.tuple [.int (pw p g b), .int (m * pw p (pw p g a) b % p)]), .val (.int c), .val (.tuple [.int (pw p g c), .int (o * pw p (pw p g a) c % p)]), .no, .no, .val (.int p), .val (.int q), .val (.int g), y21, y22, y23, .no, .no] s) Q := by
  obtain ⟨p1, p2, q1, q2, qp, g1, g2, pg, -⟩ := id G
  have hl := own_len (p := p) (g := g) (show 0 ≤ q by omega)
  have ma := G.m_o a0
  have mb := G.m_o b0
  have mc := G.m_o c0
  have ea := own_nth (p := p) (g := g) a0 a1
  have eb := own_nth (p := p) (g := g) b0 b1
  obtain ⟨w0, w1⟩ := ma.in_
  obtain ⟨v0, v1⟩ := mb.in_
  obtain ⟨u0, u1⟩ := mc.in_
  obtain ⟨m0, m1⟩ := hm.in_
  obtain ⟨o0, o1⟩ := ho.in_
  have ab := ma.pow G b0
  have ac := ma.pow G c0
  obtain ⟨x0, x1⟩ := ab.in_
  obtain ⟨z0, z1⟩ := ac.in_
  have my := hm.mul G ab
  have mz := ho.mul G ac
  obtain ⟨my0, my1⟩ := my.in_
  obtain ⟨mz0, mz1⟩ := mz.in_
  have lp := fun s => law_power (n := 20) (s := s) (p := p) (b := pw p g a) (t := b) (by omega) (by omega) (by omega) (by omega) (by omega) (by omega) (by omega)
  have un := fun s => unlock (n := 20) (s := s) (by omega) G a0 a1 mb my
  have e1 := G.unl m0 m1 a0 a1 b0
  -- joined
  have jn := fun s => joined (n := 20) (s := s) (by omega) G mb my mc mz
  have un2 := fun s => unlock (n := 20) (s := s) (by omega) G a0 a1 (mb.mul G mc) (my.mul G mz)
  have hmo := (hm.mul G ho).in_
  have e2 : m * pw p (pw p g a) b % p * (o * pw p (pw p g a) c % p) % p * pw p (pw p g b * pw p g c % p) (q - a) % p = m * o % p := by
    rw [pw_mul2 b0 c0, ← pw_add b0 c0]
    exact G.unl hmo.1 hmo.2 a0 a1 (by omega)
  -- relocked
  have rl := fun s => relocked (n := 20) (s := s) (by omega) G ma mb my c0 c1
  have bc0 : 0 ≤ (b + c) % q := Int.emod_nonneg _ (by omega)
  have bc1 : (b + c) % q < q := Int.emod_lt_of_pos _ (by omega)
  have lk := fun s => lock (n := 20) (s := s) (by omega) G ma hm bc0 bc1
  have f1 : pw p g ((b + c) % q) = pw p g b * pw p g c % p := by rw [G.m_g.rest G (by omega), pw_add b0 c0]
  have f2 : m * pw p (pw p g a) b % p * (1 * pw p (pw p g a) c % p) % p = m * pw p (pw p g a) ((b + c) % q) % p := by
    rw [ma.rest G (by omega), Int.one_mul, mm2, pw_add b0 c0, mm, mm2, Int.mul_assoc]
  have f3 : Mem p q g (m * pw p (pw p g a) ((b + c) % q) % p) := hm.mul G (ma.pow G bc0)
  rw [f2] at rl
  rw [f1] at lk
  have un3 := fun s => unlock (n := 20) (s := s) (by omega) G a0 a1 (mb.mul G mc) f3
  have e3 : m * pw p (pw p g a) ((b + c) % q) % p * pw p (pw p g b * pw p g c % p) (q - a) % p = m := by
    rw [ma.rest G (by omega), ← pw_add b0 c0]
    exact G.unl m0 m1 a0 a1 (by omega)
  rw [e1] at un
  rw [e2] at un2
  rw [e3] at un3
  simp (disch := trivial) [law_s20, eb, lp, un, -law_e21]
  simp (disch := trivial) [law_s21, jn, un2, -law_e22]
  simp (disch := trivial) [law_s22, rl, lk, un3, -law_e23]
  exact hk
theorem law7 (hs : DrOk s) (G : Gr p q g) (a0 : 0 ≤ a) (a1 : a < q) (hm : Mem p q g m) (k kb kc : Kn) (Q : D → Dr → Prop)
    (hk : ∀ (y16 : Sl) s, DrOk s → Wp (evS' (FP 20) law_r25 k kb kc [.no, .drw, .val (.tuple [.int p, .int q, .int g]), .val (.list (encs (ownL p q g))), y4, y5, y6, y7, .val (.int a), .val (.int b), .val (.int (pw p g a)), .val (.int m), .val (.int o), .val (.tuple [.int (pw p g b), .int (m * pw p (pw p g a) b % p)]), .val (.int c), .val (.tuple [.int (pw p g c), .int (o * pw p (pw p g a) c % p)]), y16, .no, .val (.int p), .val (.int q), .val (.int g), y21, y22, y23, .no, .no] s) Q) :
    Wp (evS' (FP 20) law_r23 k kb kc [.no, .drw, .val (.tuple [.int p, .int q, .int g]), .val (.list (encs (ownL p q g))), y4, y5, y6, y7, .val (.int a), .val (.int b), .val (.int (pw p g a)), .val (.int m), .val (.int o), .val (.tuple [.int (pw p g b), .int (m * pw p (pw p g a) b % p)]), .val (.int c), .val (.tuple [.int (pw p g c), .int (o * pw p (pw p g a) c % p)]), .no, .no, .val (.int p), .val (.int q), .val (.int g), y21, y22, y23, .no, .no] s) Q := by
  obtain ⟨p1, p2, q1, q2, qp, g1, g2, pg, -⟩ := id G
  have hl := own_len (p := p) (g := g) (show 0 ≤ q by omega)
  have ma := G.m_o a0
  obtain ⟨w0, w1⟩ := ma.in_
  obtain ⟨m0, m1⟩ := hm.in_
  have la := fun s => locked_alike (n := 20) (s := s) (by omega) G ma hm
  have hll : (lockedL p q g (pw p g a) m).length = q.toNat := by unfold lockedL; rw [List.length_map, irange_len, Int.sub_zero]
  rw [G.lk_sort] at la
  simp (disch := trivial) [law_s23, la, law_s24, -law_e25]
  refine lc_all ((sortE (lockedL p q g (pw p g a) m)).map fun x => (x, (1 : Int))) (fun r => r.1) (by simp (disch := trivial) <;> rfl) (fun r hr => ?_) ?_
  · simp (disch := trivial)
  have h1 : ((sortE (lockedL p q g (pw p g a) m)).map fun x => (x, (1 : Int))).map (fun r => r.1) = sortE (lockedL p q g (pw p g a) m) := by
    rw [List.map_map]; exact List.map_id _
  rw [h1]
  simp (disch := trivial) [-law_e25]
  refine lc_all (irange 0 q) (fun d => (pw p g d, m * pw p (pw p g a) d % p)) (by simp (disch := trivial) <;> rfl) (fun d hd => ?_) ?_
  · obtain ⟨d0, d1⟩ := mem_irange.mp hd
    have ed := own_nth (p := p) (g := g) d0 d1
    have id_ := pw_in (p := p) (b := pw p g a) (t := d) (by omega)
    have lp := fun s => law_power (n := 20) (s := s) (p := p) (b := pw p g a) (t := d) (by omega) (by omega) (by omega) (by omega) (by omega) (by omega) (by omega)
    simp (disch := trivial) [ed, lp]
  rw [show (irange 0 q).map (fun d => (pw p g d, m * pw p (pw p g a) d % p)) = lockedL p q g (pw p g a) m from rfl]
  have hll2 : (lockedL p q g (pw p g a) m).length ≤ 16777216 := by omega
  simp (disch := first | exact hll2 | trivial) [-law_e25]
  refine lc_enc ((sortE (lockedL p q g (pw p g a) m)).map fun x => (x, (1 : Int))) (fun r => decide (r.2 ≠ 1)) (fun r => (1 : Int)) (by simp (disch := trivial) <;> rfl) (fun r hr => ?_) ?_
  · simp (disch := trivial)
  have h2 : ((sortE (lockedL p q g (pw p g a) m)).map fun x => (x, (1 : Int))).filter (fun r => decide (r.2 ≠ 1)) = [] := by
    rw [List.filter_eq_nil_iff]
    intro r hr
    obtain ⟨x, _, rfl⟩ := List.mem_map.mp hr
    simp
  rw [h2]
  simp (disch := trivial) [-law_e25]
  exact hk _ _ hs
end Row

set_option Elab.async false
set_option linter.all false
set_option maxRecDepth 100000
set_option maxHeartbeats 1000000
namespace Row
open PySem PySem.Spec PyProof.Rows L2 L2.DL
open Enc (enc)
variable [TabL]
local macro_rules | `(tactic| trivial) => `(tactic| (simp only [decide_eq_true_eq, decide_eq_false_iff_not, Bool.and_eq_true, Bool.or_eq_true, Bool.not_eq_true', Bool.not_eq_false', Bool.or_eq_false_iff, Bool.and_eq_false_iff, List.length_map, irange_len, List.length_append, List.length_cons, List.length_nil]; omega))
local macro_rules | `(tactic| trivial) => `(tactic| exact Nat.le_of_ble_eq_true rfl)
local macro_rules | `(tactic| trivial) => `(tactic| omega)
local macro_rules | `(tactic| trivial) => `(tactic| assumption)
variable {n : Nat} {s : Dr} {p q g a b c m w v : Int} {ks fs : List Int}
theorem zip_sum {ks fs : List Int} (h : ks.length = fs.length) : (irange 0 ks.length).map (fun i => nth ks i * nth fs i) = (List.zip ks fs).map fun r => r.1 * r.2 := by
  rw [zip_nth h, List.map_map]; rfl
theorem part_1 (hs : DrOk s) (G : Gr p q g) (b0 : 0 ≤ b) (b1 : b < q) (hm : Mem p q g m) (hk1 : ks.length ≤ 3) (hk2 : ∀ k ∈ ks, 0 ≤ k ∧ k < q) (k kb kc : Kn) (Q : D → Dr → Prop)
    (hk : ∀ (y9 y10 y11 : Sl) (s : Dr), DrOk s → Wp (evS' (FP 19) _law_part1_r4 k kb kc [.drw, .val (.tuple [.int p, .int q, .int g]), .val (.int p), .val (.int q), .val (.list (encs (ownL p q g))), .val (.int b), .val (.int m), .val (.int c), .val (.list (encs ks)), y9, y10, y11, .no, .no, .no, .no, .no, .no, .no, .no, .no, .no, .no, .no, .no, .no, .no, .no, .no, .no, .no] s) Q) :
    Wp (evS' (FP 19) _law_part1_r0 k kb kc [.drw, .val (.tuple [.int p, .int q, .int g]), .val (.int p), .val (.int q), .val (.list (encs (ownL p q g))), .val (.int b), .val (.int m), .val (.int c), .val (.list (encs ks)), .no, .no, .no, .no, .no, .no, .no, .no, .no, .no, .no, .no, .no, .no, .no, .no, .no, .no, .no, .no, .no, .no] s) Q := by
  obtain ⟨p1, p2, q1, q2, qp, g1, g2, pg, -⟩ := id G
  have hl := own_len (p := p) (g := g) (show 0 ≤ q by omega)
  simp (disch := trivial) [_law_part1_s0, -_law_part1_e1]
  refine lc_draws (β := Int) ks (fun f => -4 ≤ f ∧ f ≤ 4) hs (by simp (disch := trivial) <;> rfl) (fun x hx s hs => ?_) fun fs s hfl hfo hs => ?_
  · simp (disch := trivial)
    refine wp_took (take (by omega) (by omega) (by omega) hs) fun t s t0 t1 hs => ?_
    simp (disch := trivial)
    refine ⟨?_, hs⟩
    omega
  simp (disch := trivial) [_law_part1_s1, -_law_part1_e2]
  refine lc_all (irange 0 ks.length) (fun i => nth ks i * nth fs i) (by simp (disch := trivial) <;> rfl) (fun i hi => ?_) ?_
  · obtain ⟨i0, i1⟩ := mem_irange.mp hi
    obtain ⟨k0, k1⟩ := hk2 _ (nth_mem i0 i1)
    obtain ⟨f0, f1⟩ := hfo _ (nth_mem (xs := fs) i0 (by omega))
    simp (disch := trivial)
  rw [zip_sum hfl.symm]
  generalize hS : ((List.zip ks fs).map fun r : Int × Int => r.1 * r.2).sum = S
  have z0 : 0 ≤ S % q := Int.emod_nonneg _ (by omega)
  have z1 : S % q < q := Int.emod_lt_of_pos _ (by omega)
  have ez := own_nth (p := p) (g := g) z0 z1
  have mz := G.m_o z0
  obtain ⟨u0, u1⟩ := mz.in_
  obtain ⟨m0, m1⟩ := hm.in_
  have lk := fun s => lock (n := 19) (s := s) (by omega) G mz hm b0 b1
  have su := fun s => shared_unlock (n := 19) (s := s) (by omega) G (G.m_o b0) (hm.mul G (mz.pow G b0)) hfl.symm hk1 hk2 hfo
  have sh := G.shared (y := m) (b := b) (kf := List.zip ks fs) m0 m1 b0
  rw [hS] at sh
  rw [sh] at su
  simp (disch := trivial) [hS, _law_part1_s2, ez, lk, -_law_part1_e3]
  simp (disch := trivial) [_law_part1_s3, su, -_law_part1_e4]
  exact hk _ _ _ _ hs
theorem part_2 (hs : DrOk s) (G : Gr p q g) (b0 : 0 ≤ b) (b1 : b < q) {y9 y10 y11 : Sl} (k kb kc : Kn) (Q : D → Dr → Prop)
    (hk : ∀ (w v : Int) (s : Dr), DrOk s → 1 ≤ w → w < q → 0 ≤ v → v < q → Wp (evS' (FP 19) _law_part1_r9 k kb kc [.drw, .val (.tuple [.int p, .int q, .int g]), .val (.int p), .val (.int q), .val (.list (encs (ownL p q g))), .val (.int b), .val (.int m), .val (.int c), .val (.list (encs ks)), y9, y10, y11, .val (.int w), .val (.int (pw p g w)), .val (.int v), .val (.int (pw p g (v + w * b))), .no, .no, .no, .no, .no, .no, .no, .no, .no, .no, .no, .no, .no, .no, .no] s) Q) :
    Wp (evS' (FP 19) _law_part1_r4 k kb kc [.drw, .val (.tuple [.int p, .int q, .int g]), .val (.int p), .val (.int q), .val (.list (encs (ownL p q g))), .val (.int b), .val (.int m), .val (.int c), .val (.list (encs ks)), y9, y10, y11, .no, .no, .no, .no, .no, .no, .no, .no, .no, .no, .no, .no, .no, .no, .no, .no, .no, .no, .no] s) Q := by
  obtain ⟨p1, p2, q1, q2, qp, g1, g2, pg, -⟩ := id G
  have hl := own_len (p := p) (g := g) (show 0 ≤ q by omega)
  simp (disch := trivial) [_law_part1_s4]
  refine wp_took (take (by omega) (by omega) (by omega) hs) fun w s w0 w1 hs => ?_
  have ew := own_nth (p := p) (q := q) (g := g) (i := 1 + w) (by omega) (by omega)
  simp (disch := trivial) [_law_part1_s5, ew, _law_part1_s6]
  refine wp_took (take (by omega) (by omega) (by omega) hs) fun v s v0 v1 hs => ?_
  have ev := own_nth (p := p) (g := g) v0 v1
  have mw := G.m_o (i := 1 + w) (by omega)
  obtain ⟨u0, u1⟩ := mw.in_
  obtain ⟨t0, t1⟩ := (mw.pow G b0).in_
  obtain ⟨x0, x1⟩ := (G.m_o v0).in_
  have pl := fun s => pledge (n := 19) (s := s) (by omega) G mw v0 v1 b0 b1
  have e1 := G.plg (w := 1 + w) (m := v) (d := b) (by omega) v0 b0
  unfold plg at e1
  have lp := fun s => law_power (n := 19) (s := s) (p := p) (b := pw p g (1 + w)) (t := b) (by omega) (by omega) (by omega) (by omega) (by omega) (by omega) (by omega)
  have wb0 : 0 ≤ (1 + w) * b := Int.mul_nonneg (by omega) b0
  have z0 : 0 ≤ (v + (1 + w) * b) % q := Int.emod_nonneg _ (by omega)
  have z1 : (v + (1 + w) * b) % q < q := Int.emod_lt_of_pos _ (by omega)
  have ez := own_nth (p := p) (g := g) z0 z1
  rw [G.m_g.rest G (by omega)] at ez
  simp (disch := trivial) [_law_part1_s7, pl, _law_part1_s8, ev, lp, e1, ez, -_law_part1_e9]
  exact hk (1 + w) v s hs (by omega) (by omega) v0 v1
theorem part_3 (hs : DrOk s) (G : Gr p q g) (b0 : 0 ≤ b) (b1 : b < q) (c0 : 0 ≤ c) (c1 : c < q) (w0 : 1 ≤ w) (w1 : w < q) (v0 : 0 ≤ v) (v1 : v < q) {y9 y10 y11 : Sl} (k kb kc : Kn) (Q : D → Dr → Prop)
    (hk : ∀ (y16 : Sl) (s : Dr), DrOk s → Wp (evS' (FP 19) _law_part1_r11 k kb kc [.drw, .val (.tuple [.int p, .int q, .int g]), .val (.int p), .val (.int q), .val (.list (encs (ownL p q g))), .val (.int b), .val (.int m), .val (.int c), .val (.list (encs ks)), y9, y10, y11, .val (.int w), .val (.int (pw p g w)), .val (.int v), .val (.int (pw p g (v + w * b))), y16, .no, .no, .no, .no, .no, .no, .no, .no, .no, .no, .no, .no, .no, .no] s) Q) :
    Wp (evS' (FP 19) _law_part1_r9 k kb kc [.drw, .val (.tuple [.int p, .int q, .int g]), .val (.int p), .val (.int q), .val (.list (encs (ownL p q g))), .val (.int b), .val (.int m), .val (.int c), .val (.list (encs ks)), y9, y10, y11, .val (.int w), .val (.int (pw p g w)), .val (.int v), .val (.int (pw p g (v + w * b))), .no, .no, .no, .no, .no, .no, .no, .no, .no, .no, .no, .no, .no, .no, .no] s) Q := by
  obtain ⟨p1, p2, q1, q2, qp, g1, g2, pg, -⟩ := id G
  have hl := own_len (p := p) (g := g) (show 0 ≤ q by omega)
  have hl2 : (ownL p q g).length ≤ 16777216 := by omega
  have mw := G.m_o (i := w) (by omega)
  have ev := own_nth (p := p) (g := g) v0 v1
  have po := fun s => pledges_of (n := 19) (s := s) (by omega) G mw v0 v1
  have pc := fun s => pledges_of (n := 19) (s := s) (by omega) G mw c0 c1
  have p1' := fun s => pledges_of (n := 19) (s := s) (by omega) G G.m_one v0 v1
  rw [G.pl_sort w0 w1 v0] at po
  rw [G.pl_sort w0 w1 c0] at pc
  rw [G.pl_one v0] at p1'
  simp (disch := first | exact hl2 | trivial) [_law_part1_s9, po, _law_part1_s10, -_law_part1_e11]
  refine lc_all (sortE (ownL p q g)) (fun x => (x, (1 : Int))) (by simp (disch := first | exact hl2 | trivial) <;> rfl) (fun x hx => ?_) ?_
  · simp (disch := trivial)
  simp (disch := trivial) [pc, p1', ev, -_law_part1_e11]
  have e : enc [(pw p g v, q)] = .tuple [.tuple [.int (pw p g v), .int q]] := rfl
  have e2 : gNe (.tuple [.tuple [.int (pw p g v), .int q]]) (.tuple [.tuple [.int (pw p g v), .int q]]) = some (.bool false) := by
    rw [← e, gNe_enc (Nat.le_of_ble_eq_true rfl), decide_eq_true rfl]; rfl
  simp (disch := trivial) [e, e2, -_law_part1_e11]
  exact hk _ s hs
end Row

set_option Elab.async false
set_option linter.all false
set_option maxRecDepth 100000
set_option maxHeartbeats 1000000
namespace Row
open PySem PySem.Spec PyProof.Rows L2 L2.DL
open Enc (enc)
variable [TabL]
local macro_rules | `(tactic| trivial) => `(tactic| (simp only [decide_eq_true_eq, decide_eq_false_iff_not, Bool.and_eq_true, Bool.or_eq_true, Bool.not_eq_true', Bool.not_eq_false', Bool.or_eq_false_iff, Bool.and_eq_false_iff, List.length_map, irange_len, List.length_append, List.length_cons, List.length_nil]; omega))
local macro_rules | `(tactic| trivial) => `(tactic| exact Nat.le_of_ble_eq_true rfl)
local macro_rules | `(tactic| trivial) => `(tactic| omega)
local macro_rules | `(tactic| trivial) => `(tactic| assumption)
variable {n : Nat} {s : Dr} {p q g a b c m w v u d : Int} {ks fs : List Int} {y9 y10 y11 y16 y17 y18 : Sl}
theorem Gr.brk (G : Gr p q g) (w0 : 1 ≤ w) (w1 : w < q) (v0 : 0 ≤ v) (b0 : 0 ≤ b) (b1 : b < q) (u0 : 0 ≤ u) (d0 : 0 ≤ d) (d1 : d < q) : brokenO p q g (pw p g w) v b u d = if pw p g (u + w * d) = pw p g (v + w * b) ∧ d ≠ b then some w else none := by
  unfold brokenO
  rw [G.plg (by omega) v0 b0, G.plg (by omega) u0 d0]
  have x0 : 0 ≤ v + w * b := Int.add_nonneg v0 (Int.mul_nonneg (by omega) b0)
  have z0 : 0 ≤ u + w * d := Int.add_nonneg u0 (Int.mul_nonneg (by omega) d0)
  by_cases h : pw p g (u + w * d) = pw p g (v + w * b) ∧ d ≠ b
  · rw [if_pos h, if_pos ⟨h.1.symm, fun z => h.2 z.symm⟩, G.breaks w0 w1 b0 b1 d0 d1 (fun z => h.2 z.symm) (G.cong_inv x0 z0 h.1.symm)]
  · rw [if_neg h, if_neg fun z => h ⟨z.1.symm, fun y => z.2 y.symm⟩]
theorem part_4 (hs : DrOk s) (G : Gr p q g) (b0 : 0 ≤ b) (b1 : b < q) (w0 : 1 ≤ w) (w1 : w < q) (v0 : 0 ≤ v) (v1 : v < q) (k kb kc : Kn) (Q : D → Dr → Prop)
    (hk : ∀ (y17 y18 : Sl) (s : Dr), DrOk s → Wp (evS' (FP 19) _law_part1_r15 k kb kc [.drw, .val (.tuple [.int p, .int q, .int g]), .val (.int p), .val (.int q), .val (.list (encs (ownL p q g))), .val (.int b), .val (.int m), .val (.int c), .val (.list (encs ks)), y9, y10, y11, .val (.int w), .val (.int (pw p g w)), .val (.int v), .val (.int (pw p g (v + w * b))), y16, y17, y18, .no, .no, .no, .no, .no, .no, .no, .no, .no, .no, .no, .no] s) Q) :
    Wp (evS' (FP 19) _law_part1_r11 k kb kc [.drw, .val (.tuple [.int p, .int q, .int g]), .val (.int p), .val (.int q), .val (.list (encs (ownL p q g))), .val (.int b), .val (.int m), .val (.int c), .val (.list (encs ks)), y9, y10, y11, .val (.int w), .val (.int (pw p g w)), .val (.int v), .val (.int (pw p g (v + w * b))), y16, .no, .no, .no, .no, .no, .no, .no, .no, .no, .no, .no, .no, .no, .no] s) Q := by
  obtain ⟨p1, p2, q1, q2, qp, g1, g2, pg, -⟩ := id G
  have mw := G.m_o (i := w) (by omega)
  simp (disch := trivial) [_law_part1_s11]
  refine wp_took (take (by omega) (by omega) (by omega) hs) fun u s u0 u1 hs => ?_
  have oo := fun s => other_opening (n := 19) (s := s) (by omega) G mw w0 w1 v0 v1 b0 b1 u0 u1 rfl
  have hop := G.opening (m := v) (d := b) (v := u) w0 w1
  generalize hd : (b + (v - u) * pw q w (q - 2)) % q = d at oo hop
  have d0 : 0 ≤ d := by rw [← hd]; exact Int.emod_nonneg _ (by omega)
  have d1 : d < q := by rw [← hd]; exact Int.emod_lt_of_pos _ (by omega)
  have x0 : 0 ≤ v + w * b := Int.add_nonneg v0 (Int.mul_nonneg (by omega) b0)
  have z0 : 0 ≤ u + w * d := Int.add_nonneg u0 (Int.mul_nonneg (by omega) d0)
  have e1 : pw p g (u + w * d) = pw p g (v + w * b) := G.cong G.m_g z0 x0 hop
  have pl := fun s => pledge (n := 19) (s := s) (by omega) G mw u0 u1 d0 d1
  have e2 := G.plg (w := w) (m := u) (d := d) (by omega) u0 d0
  unfold plg at e2
  rw [e2, e1] at pl
  have br := fun s => broken (n := 19) (s := s) (by omega) G mw v0 v1 b0 b1 u0 u1 d0 d1
  rw [G.brk w0 w1 v0 b0 b1 u0 d0 d1] at br
  simp (disch := trivial) [_law_part1_s12, oo, _law_part1_s13, pl, -_law_part1_e14]
  by_cases h : d = b
  · rw [if_neg (fun z => z.2 h), h] at br
    simp (disch := trivial) [_law_part1_s14, br, h, -_law_part1_e15]
    exact hk _ _ s hs
  · rw [if_pos ⟨e1, h⟩] at br
    simp (disch := trivial) [_law_part1_s14, br, h, -_law_part1_e15]
    exact hk _ _ s hs
theorem part_5 (hs : DrOk s) (G : Gr p q g) (b0 : 0 ≤ b) (b1 : b < q) (c0 : 0 ≤ c) (c1 : c < q) (w0 : 1 ≤ w) (w1 : w < q) (v0 : 0 ≤ v) (v1 : v < q) (k kb kc : Kn) (Q : D → Dr → Prop)
    (hk : ∀ (y19 y20 : Sl) (s : Dr), DrOk s → Wp (evS' (FP 19) _law_part1_r18 k kb kc [.drw, .val (.tuple [.int p, .int q, .int g]), .val (.int p), .val (.int q), .val (.list (encs (ownL p q g))), .val (.int b), .val (.int m), .val (.int c), .val (.list (encs ks)), y9, y10, y11, .val (.int w), .val (.int (pw p g w)), .val (.int v), .val (.int (pw p g (v + w * b))), y16, y17, y18, y19, y20, .no, .no, .no, .no, .no, .no, .no, .no, .no, .no] s) Q) :
    Wp (evS' (FP 19) _law_part1_r15 k kb kc [.drw, .val (.tuple [.int p, .int q, .int g]), .val (.int p), .val (.int q), .val (.list (encs (ownL p q g))), .val (.int b), .val (.int m), .val (.int c), .val (.list (encs ks)), y9, y10, y11, .val (.int w), .val (.int (pw p g w)), .val (.int v), .val (.int (pw p g (v + w * b))), y16, y17, y18, .no, .no, .no, .no, .no, .no, .no, .no, .no, .no, .no, .no] s) Q := by
  obtain ⟨p1, p2, q1, q2, qp, g1, g2, pg, -⟩ := id G
  have mw := G.m_o (i := w) (by omega)
  simp (disch := trivial) [_law_part1_s15]
  refine wp_took (take (by omega) (by omega) (by omega) hs) fun d s d0 d1 hs => ?_
  have pl := fun s => pledge (n := 19) (s := s) (by omega) G mw c0 c1 d0 d1
  have e2 := G.plg (w := w) (m := c) (d := d) (by omega) c0 d0
  unfold plg at e2
  rw [e2] at pl
  have br := fun s => broken (n := 19) (s := s) (by omega) G mw v0 v1 b0 b1 c0 c1 d0 d1
  rw [G.brk w0 w1 v0 b0 b1 c0 d0 d1] at br
  by_cases h : pw p g (c + w * d) = pw p g (v + w * b)
  · by_cases h2 : d = b
    · rw [if_neg (fun z => z.2 h2)] at br
      subst h2
      simp (disch := trivial) [_law_part1_s16, pl, h, -_law_part1_e17]
      simp (disch := trivial) [_law_part1_s17, br, h, -_law_part1_e18]
      exact hk _ _ s hs
    · rw [if_pos ⟨h, h2⟩] at br
      simp (disch := trivial) [_law_part1_s16, pl, h, h2, -_law_part1_e17]
      simp (disch := trivial) [_law_part1_s17, br, h, h2, -_law_part1_e18]
      exact hk _ _ s hs
  · rw [if_neg (fun z => h z.1)] at br
    simp (disch := trivial) [_law_part1_s16, pl, h, -_law_part1_e17]
    simp (disch := trivial) [_law_part1_s17, br, h, -_law_part1_e18]
    exact hk _ _ s hs
end Row

set_option Elab.async false
set_option linter.all false
set_option maxRecDepth 1000000
set_option maxHeartbeats 4000000
namespace Row
open PySem PySem.Spec PyProof.Rows L2 L2.DL
open Enc (enc)
variable [TabL]
variable {s : Dr}
/-- the end of the law, for each number -/
def tailR (y1 y2 y3 y4 y5 y6 y7 y8 y9 y10 y11 y12 y13 y14 y15 y16 y17 y18 y20 y22 y27 y28 y29 y30 : Sl) (m : Int) (s : Dr) : R (D × Dr) := evS' (FP 19) _law_part1_r19 (fun _ s => .ok (.none, s)) (fun _ _ => .stuck) (fun _ _ => .stuck) [.drw, y1, y2, y3, y4, y5, y6, y7, y8, y9, y10, y11, y12, y13, y14, y15, y16, y17, y18, y22, y20, .val (.int m), .no, .no, .no, .no, .no, y27, y28, y29, y30] s
section
variable {y1 y2 y3 y4 y5 y6 y7 y8 y9 y10 y11 y12 y13 y14 y15 y16 y17 y18 y20 y22 y27 y28 y29 y30 : Sl}
theorem tail_3 : tailR y1 y2 y3 y4 y5 y6 y7 y8 y9 y10 y11 y12 y13 y14 y15 y16 y17 y18 y20 y22 y27 y28 y29 y30 3 s = .ok (.bool true, s) := by kernel_rfl
theorem tail_4 : tailR y1 y2 y3 y4 y5 y6 y7 y8 y9 y10 y11 y12 y13 y14 y15 y16 y17 y18 y20 y22 y27 y28 y29 y30 4 s = .ok (.bool true, s) := by kernel_rfl
theorem tail_5 : tailR y1 y2 y3 y4 y5 y6 y7 y8 y9 y10 y11 y12 y13 y14 y15 y16 y17 y18 y20 y22 y27 y28 y29 y30 5 s = .ok (.bool true, s) := by kernel_rfl
theorem tail_6 : tailR y1 y2 y3 y4 y5 y6 y7 y8 y9 y10 y11 y12 y13 y14 y15 y16 y17 y18 y20 y22 y27 y28 y29 y30 6 s = .ok (.bool true, s) := by kernel_rfl
theorem tail_7 : tailR y1 y2 y3 y4 y5 y6 y7 y8 y9 y10 y11 y12 y13 y14 y15 y16 y17 y18 y20 y22 y27 y28 y29 y30 7 s = .ok (.bool true, s) := by kernel_rfl
theorem tail_8 : tailR y1 y2 y3 y4 y5 y6 y7 y8 y9 y10 y11 y12 y13 y14 y15 y16 y17 y18 y20 y22 y27 y28 y29 y30 8 s = .ok (.bool true, s) := by kernel_rfl
theorem tail_9 : tailR y1 y2 y3 y4 y5 y6 y7 y8 y9 y10 y11 y12 y13 y14 y15 y16 y17 y18 y20 y22 y27 y28 y29 y30 9 s = .ok (.bool true, s) := by kernel_rfl
theorem tail_10 : tailR y1 y2 y3 y4 y5 y6 y7 y8 y9 y10 y11 y12 y13 y14 y15 y16 y17 y18 y20 y22 y27 y28 y29 y30 10 s = .ok (.bool true, s) := by kernel_rfl
theorem tail_11 : tailR y1 y2 y3 y4 y5 y6 y7 y8 y9 y10 y11 y12 y13 y14 y15 y16 y17 y18 y20 y22 y27 y28 y29 y30 11 s = .ok (.bool true, s) := by kernel_rfl
theorem tail_12 : tailR y1 y2 y3 y4 y5 y6 y7 y8 y9 y10 y11 y12 y13 y14 y15 y16 y17 y18 y20 y22 y27 y28 y29 y30 12 s = .ok (.bool true, s) := by kernel_rfl
theorem tail_13 : tailR y1 y2 y3 y4 y5 y6 y7 y8 y9 y10 y11 y12 y13 y14 y15 y16 y17 y18 y20 y22 y27 y28 y29 y30 13 s = .ok (.bool true, s) := by kernel_rfl
theorem tail_14 : tailR y1 y2 y3 y4 y5 y6 y7 y8 y9 y10 y11 y12 y13 y14 y15 y16 y17 y18 y20 y22 y27 y28 y29 y30 14 s = .ok (.bool true, s) := by kernel_rfl
theorem tail_15 : tailR y1 y2 y3 y4 y5 y6 y7 y8 y9 y10 y11 y12 y13 y14 y15 y16 y17 y18 y20 y22 y27 y28 y29 y30 15 s = .ok (.bool true, s) := by kernel_rfl
theorem tail_16 : tailR y1 y2 y3 y4 y5 y6 y7 y8 y9 y10 y11 y12 y13 y14 y15 y16 y17 y18 y20 y22 y27 y28 y29 y30 16 s = .ok (.bool true, s) := by kernel_rfl
theorem tail_17 : tailR y1 y2 y3 y4 y5 y6 y7 y8 y9 y10 y11 y12 y13 y14 y15 y16 y17 y18 y20 y22 y27 y28 y29 y30 17 s = .ok (.bool true, s) := by kernel_rfl
theorem tail_18 : tailR y1 y2 y3 y4 y5 y6 y7 y8 y9 y10 y11 y12 y13 y14 y15 y16 y17 y18 y20 y22 y27 y28 y29 y30 18 s = .ok (.bool true, s) := by kernel_rfl
theorem tail_19 : tailR y1 y2 y3 y4 y5 y6 y7 y8 y9 y10 y11 y12 y13 y14 y15 y16 y17 y18 y20 y22 y27 y28 y29 y30 19 s = .ok (.bool true, s) := by kernel_rfl
theorem tail_20 : tailR y1 y2 y3 y4 y5 y6 y7 y8 y9 y10 y11 y12 y13 y14 y15 y16 y17 y18 y20 y22 y27 y28 y29 y30 20 s = .ok (.bool true, s) := by kernel_rfl
theorem tail_21 : tailR y1 y2 y3 y4 y5 y6 y7 y8 y9 y10 y11 y12 y13 y14 y15 y16 y17 y18 y20 y22 y27 y28 y29 y30 21 s = .ok (.bool true, s) := by kernel_rfl
theorem tail_22 : tailR y1 y2 y3 y4 y5 y6 y7 y8 y9 y10 y11 y12 y13 y14 y15 y16 y17 y18 y20 y22 y27 y28 y29 y30 22 s = .ok (.bool true, s) := by kernel_rfl
theorem tail_23 : tailR y1 y2 y3 y4 y5 y6 y7 y8 y9 y10 y11 y12 y13 y14 y15 y16 y17 y18 y20 y22 y27 y28 y29 y30 23 s = .ok (.bool true, s) := by kernel_rfl
theorem tail_24 : tailR y1 y2 y3 y4 y5 y6 y7 y8 y9 y10 y11 y12 y13 y14 y15 y16 y17 y18 y20 y22 y27 y28 y29 y30 24 s = .ok (.bool true, s) := by kernel_rfl
theorem tail_25 : tailR y1 y2 y3 y4 y5 y6 y7 y8 y9 y10 y11 y12 y13 y14 y15 y16 y17 y18 y20 y22 y27 y28 y29 y30 25 s = .ok (.bool true, s) := by kernel_rfl
theorem tail_26 : tailR y1 y2 y3 y4 y5 y6 y7 y8 y9 y10 y11 y12 y13 y14 y15 y16 y17 y18 y20 y22 y27 y28 y29 y30 26 s = .ok (.bool true, s) := by kernel_rfl
theorem tail_27 : tailR y1 y2 y3 y4 y5 y6 y7 y8 y9 y10 y11 y12 y13 y14 y15 y16 y17 y18 y20 y22 y27 y28 y29 y30 27 s = .ok (.bool true, s) := by kernel_rfl
theorem tail_28 : tailR y1 y2 y3 y4 y5 y6 y7 y8 y9 y10 y11 y12 y13 y14 y15 y16 y17 y18 y20 y22 y27 y28 y29 y30 28 s = .ok (.bool true, s) := by kernel_rfl
theorem tail_29 : tailR y1 y2 y3 y4 y5 y6 y7 y8 y9 y10 y11 y12 y13 y14 y15 y16 y17 y18 y20 y22 y27 y28 y29 y30 29 s = .ok (.bool true, s) := by kernel_rfl
theorem tail_30 : tailR y1 y2 y3 y4 y5 y6 y7 y8 y9 y10 y11 y12 y13 y14 y15 y16 y17 y18 y20 y22 y27 y28 y29 y30 30 s = .ok (.bool true, s) := by kernel_rfl
theorem tail_31 : tailR y1 y2 y3 y4 y5 y6 y7 y8 y9 y10 y11 y12 y13 y14 y15 y16 y17 y18 y20 y22 y27 y28 y29 y30 31 s = .ok (.bool true, s) := by kernel_rfl
theorem tail_32 : tailR y1 y2 y3 y4 y5 y6 y7 y8 y9 y10 y11 y12 y13 y14 y15 y16 y17 y18 y20 y22 y27 y28 y29 y30 32 s = .ok (.bool true, s) := by kernel_rfl
theorem tail_all {m : Int} (h : 3 ≤ m) (h2 : m < 33) : tailR y1 y2 y3 y4 y5 y6 y7 y8 y9 y10 y11 y12 y13 y14 y15 y16 y17 y18 y20 y22 y27 y28 y29 y30 m s = .ok (.bool true, s) := by
  have hm : m = 3 ∨ m = 4 ∨ m = 5 ∨ m = 6 ∨ m = 7 ∨ m = 8 ∨ m = 9 ∨ m = 10 ∨ m = 11 ∨ m = 12 ∨ m = 13 ∨ m = 14 ∨ m = 15 ∨ m = 16 ∨ m = 17 ∨ m = 18 ∨ m = 19 ∨ m = 20 ∨ m = 21 ∨ m = 22 ∨ m = 23 ∨ m = 24 ∨ m = 25 ∨ m = 26 ∨ m = 27 ∨ m = 28 ∨ m = 29 ∨ m = 30 ∨ m = 31 ∨ m = 32 := by omega
  rcases hm with rfl | rfl | rfl | rfl | rfl | rfl | rfl | rfl | rfl | rfl | rfl | rfl | rfl | rfl | rfl | rfl | rfl | rfl | rfl | rfl | rfl | rfl | rfl | rfl | rfl | rfl | rfl | rfl | rfl | rfl
  · exact tail_3
  · exact tail_4
  · exact tail_5
  · exact tail_6
  · exact tail_7
  · exact tail_8
  · exact tail_9
  · exact tail_10
  · exact tail_11
  · exact tail_12
  · exact tail_13
  · exact tail_14
  · exact tail_15
  · exact tail_16
  · exact tail_17
  · exact tail_18
  · exact tail_19
  · exact tail_20
  · exact tail_21
  · exact tail_22
  · exact tail_23
  · exact tail_24
  · exact tail_25
  · exact tail_26
  · exact tail_27
  · exact tail_28
  · exact tail_29
  · exact tail_30
  · exact tail_31
  · exact tail_32
end
end Row

set_option Elab.async false
set_option linter.all false
set_option maxRecDepth 100000
set_option maxHeartbeats 1000000
namespace Row
open PySem PySem.Spec PyProof.Rows L2 L2.DL
open Enc (enc)
variable [TabL]
local macro_rules | `(tactic| trivial) => `(tactic| (simp only [decide_eq_true_eq, decide_eq_false_iff_not, Bool.and_eq_true, Bool.or_eq_true, Bool.not_eq_true', Bool.not_eq_false', Bool.or_eq_false_iff, Bool.and_eq_false_iff, List.length_map, irange_len, List.length_append, List.length_cons, List.length_nil]; omega))
local macro_rules | `(tactic| trivial) => `(tactic| exact Nat.le_of_ble_eq_true rfl)
local macro_rules | `(tactic| trivial) => `(tactic| omega)
local macro_rules | `(tactic| trivial) => `(tactic| assumption)
variable {n : Nat} {s : Dr} {p q g a b c m o w v u d : Int} {ks fs : List Int} {y4 y5 y6 y7 y16 y21 y22 y23 : Sl}
theorem tail_wp {y1 y2 y3 y4 y5 y6 y7 y8 y9 y10 y11 y12 y13 y14 y15 y16 y17 y18 y19 y20 y27 y28 y29 y30 : Sl} {t : Int} (h : 0 ≤ t) (h2 : t < 30) : Wp (evS' (FP 19) _law_part1_r19 (fun _ s => .ok (.none, s)) (fun _ _ => .stuck) (fun _ _ => .stuck) [.drw, y1, y2, y3, y4, y5, y6, y7, y8, y9, y10, y11, y12, y13, y14, y15, y16, y17, y18, y19, y20, .val (.int (3 + t)), .no, .no, .no, .no, .no, y27, y28, y29, y30] s) fun d s' => d = .bool true := by
  have e := tail_all (s := s) (m := 3 + t) (y1 := y1) (y2 := y2) (y3 := y3) (y4 := y4) (y5 := y5) (y6 := y6) (y7 := y7) (y8 := y8) (y9 := y9) (y10 := y10) (y11 := y11) (y12 := y12) (y13 := y13) (y14 := y14) (y15 := y15) (y16 := y16) (y17 := y17) (y18 := y18) (y20 := y20) (y27 := y27) (y28 := y28) (y29 := y29) (y30 := y30) (y22 := y19) (by omega) (by omega)
  unfold tailR at e
  rw [e, Wp.ok]
theorem part1 (hs : DrOk s) (G : Gr p q g) (b0 : 0 ≤ b) (b1 : b < q) (hm : Mem p q g m) (c0 : 0 ≤ c) (c1 : c < q) (hk1 : ks.length ≤ 3) (hk2 : ∀ k ∈ ks, 0 ≤ k ∧ k < q) : Wp (FP 20 28 [.drw, .val (.tuple [.int p, .int q, .int g]), .val (.int p), .val (.int q), .val (.list (encs (ownL p q g))), .val (.int b), .val (.int m), .val (.int c), .val (.list (encs ks))] s) fun d s' => d = .bool true := by
  rw [FP_run (d := di__law_part1) rfl (by omega)]
  show Wp (evS' (FP 19) ir__law_part1 (fun _ s => .ok (.none, s)) (fun _ _ => .stuck) (fun _ _ => .stuck) [.drw, .val (.tuple [.int p, .int q, .int g]), .val (.int p), .val (.int q), .val (.list (encs (ownL p q g))), .val (.int b), .val (.int m), .val (.int c), .val (.list (encs ks)), .no, .no, .no, .no, .no, .no, .no, .no, .no, .no, .no, .no, .no, .no, .no, .no, .no, .no, .no, .no, .no, .no] s) _
  rw [ir__law_part1_is]
  refine part_1 hs G b0 b1 hm hk1 hk2 _ _ _ _ fun y9 y10 y11 s hs => ?_
  refine part_2 hs G b0 b1 _ _ _ _ fun w v s hs w0 w1 v0 v1 => ?_
  refine part_3 hs G b0 b1 c0 c1 w0 w1 v0 v1 _ _ _ _ fun y16 s hs => ?_
  refine part_4 hs G b0 b1 w0 w1 v0 v1 _ _ _ _ fun y17 y18 s hs => ?_
  refine part_5 hs G b0 b1 c0 c1 w0 w1 v0 v1 _ _ _ _ fun y19 y20 s hs => ?_
  simp (disch := trivial) [_law_part1_s18, -_law_part1_e19]
  refine wp_took (take (by omega) (by omega) (by omega) hs) fun t s t0 t1 hs => ?_
  simp (disch := trivial) [-_law_part1_e19]
  exact tail_wp t0 t1
theorem law8 (hs : DrOk s) (G : Gr p q g) (b0 : 0 ≤ b) (b1 : b < q) (hm : Mem p q g m) (c0 : 0 ≤ c) (c1 : c < q) :
    Wp (evS' (FP 20) law_r25 (fun _ s => .ok (.none, s)) (fun _ _ => .stuck) (fun _ _ => .stuck) [.no, .drw, .val (.tuple [.int p, .int q, .int g]), .val (.list (encs (ownL p q g))), y4, y5, y6, y7, .val (.int a), .val (.int b), .val (.int (pw p g a)), .val (.int m), .val (.int o), .val (.tuple [.int (pw p g b), .int (m * pw p (pw p g a) b % p)]), .val (.int c), .val (.tuple [.int (pw p g c), .int (o * pw p (pw p g a) c % p)]), y16, .no, .val (.int p), .val (.int q), .val (.int g), y21, y22, y23, .no, .no] s) fun d s' => d = .bool true := by
  obtain ⟨p1, p2, q1, q2, qp, g1, g2, pg, -⟩ := id G
  obtain ⟨t, s2, e, t0, t1, hs2⟩ := take (n := 20) (by omega) (m := 3) (by omega) (by omega) hs
  simp (disch := trivial) [law_s25, -law_r26]
  refine lc_draws (β := Int) (irange 0 (1 + t)) (fun y => 0 ≤ y ∧ y < q) hs2 (by simp (disch := trivial) [e] <;> rfl) (fun x hx s hs => ?_) fun ks s hl hk hs => ?_
  · simp (disch := trivial)
    exact Took.draw (take (by omega) (by omega) (by omega) hs)
  rw [irange_len] at hl
  obtain ⟨d, s', e, rfl⟩ := part1 hs G b0 b1 hm c0 c1 (ks := ks) (by omega) hk
  simp (disch := trivial) [law_r26, e]
theorem law_all {s : Dr} (hs : DrOk s) : Wp (evS' (FP 20) ir_law (fun _ s => .ok (.none, s)) (fun _ _ => .stuck) (fun _ _ => .stuck) [.no, .drw, .no, .no, .no, .no, .no, .no, .no, .no, .no, .no, .no, .no, .no, .no, .no, .no, .no, .no, .no, .no, .no, .no, .no, .no] s) fun d s' => d = .bool true := by
  rw [ir_law_is]
  refine law1 hs _ _ _ _ fun p q g s hs G => ?_
  refine law2 hs G _ _ _ _ fun x s hs => ?_
  refine law3 hs G _ _ _ _ fun y4 y5 y6 y7 s hs => ?_
  refine law4 hs G _ _ _ _ fun a b y21 y22 y23 s hs a0 a1 b0 b1 => ?_
  refine law5 hs G a0 a1 b0 b1 _ _ _ _ fun m o c s hs hm ho c0 c1 => ?_
  refine law6 hs G a0 a1 b0 b1 hm ho c0 c1 _ _ _ _ ?_
  refine law7 hs G a0 a1 hm _ _ _ _ fun y16 s hs => ?_
  exact law8 hs G b0 b1 hm c0 c1
theorem plain0 (ns : List Int) (hl : ns.length ≤ 63) : ∃ seed : Int, 0 ≤ seed ∧ (∀ s, ∃ s', FP 20 21 [.scr ns] s = .ok (.list [.list (ns.map .int), .int 0, .int 0, .int seed], s')) ∧ LawRun (FP 20) di_law 1 ir_law ns seed := by
  obtain ⟨h1, h2⟩ := seedF_ok ns (c := 1) (by decide) (by decide)
  refine ⟨seedF ns 1, h1, fun s => ⟨s, begin_ (by omega) ns (by omega) s⟩, ?_⟩
  have hs : DrOk (dr0 ns (seedF ns 1)) := ⟨by show ns.length ≤ 64; omega, Int.le_refl _, Int.le_refl _, h1, h2⟩
  obtain ⟨d, s', e, rfl⟩ := law_all hs
  exact ⟨s', e⟩
end Row

set_option Elab.async false
set_option linter.all false
set_option maxRecDepth 100000
set_option maxHeartbeats 0
namespace Row
open PySem PySem.Spec PyProof.Rows L2 L2.DL
def fn : List He.DefD := [dd_is_prime, dd_check, dd_power_in, dd_power, dd_members, dd_check_member, dd_log_of, dd_groups_up_to, dd_base_of, dd_check_key, dd_agreed, dd_lock, dd_unlock, dd_joined, dd_relocked, dd_locked_alike, dd_pledge, dd_pledges_of, dd_broken, dd_other_opening, dd_shared_unlock, dd__law_begin, dd__law_take, dd__law_power, dd__law_prime, dd__law_group, dd__law_wrong, dd__law_part1, dd_law, dd__law_told]
def fa : List He.Fa := [.glo "is_prime", .glo "check", .glo "power_in", .glo "power", .glo "members", .glo "check_member", .glo "log_of", .glo "groups_up_to", .glo "base_of", .glo "check_key", .glo "agreed", .glo "lock", .glo "unlock", .glo "joined", .glo "relocked", .glo "locked_alike", .glo "pledge", .glo "pledges_of", .glo "broken", .glo "other_opening", .glo "shared_unlock", .glo "_law_begin", .glo "_law_take", .glo "_law_power", .glo "_law_prime", .glo "_law_group", .glo "_law_wrong", .glo "_law_part1", .glo "law", .glo "_law_told", .free "len", .free "any", .free "all", .free "sum", .free "max", .free "min", .free "abs", .free "int", .free "list", .free "tuple", .free "range", .free "enumerate", .free "zip", .free "sorted", .free "set"]
abbrev R : PySem.W.OpenRow := PySem.W.OpenLaw.row PySem.Challenge.rw_secrethall_k05_whole_small_groups
def tfs : List Str := ["_law_wrong"]
def tfd : List He.Defn := [("_law_wrong", none)]
def ex (K : PySem.W.Frag) : Bool := exB PySem.Challenge.pw_secrethall_k05_whole_small_groups tfs true K && cstB K csts
theorem exL {K : PySem.W.Frag} (e : ex K = true) : exB PySem.Challenge.pw_secrethall_k05_whole_small_groups tfs true K = true := (Bool.and_eq_true_iff.mp e).1
abbrev hk : PySem.W.Hook := hookY 4 fa fn tfd ex
def ob (s : PySem.W.SharedT) : He.AlX := obsY 4 fa fn tfd ex (HandSHeadRun.getT s)
theorem ob_eq (s : PySem.W.SharedT) : ob s = hk.obs s.abs := obsY_eq (HandSHeadRun.getT_eq s)
def loose : List Str := (["SecretError", "MOST", "is_prime", "check", "power_in", "power", "members", "check_member", "log_of", "groups_up_to", "base_of", "check_key", "agreed", "lock", "unlock", "joined", "relocked", "locked_alike", "pledge", "pledges_of", "broken", "other_opening", "shared_unlock", "_law_begin", "_law_take", "_law_told", "_law_power", "_law_prime", "_law_group", "_law_wrong"] : List Str) ++ (["_law_part1"] : List Str)
theorem run (w : World) : HandSHeadRun.RunEq R (PySem.W.view R.prog [34]) hk ob 20000 loose w := by
  intro os
  kernel_rfl
section
variable {P : Program} {w : World} {K : PySem.W.Frag} {h : Heap} {mg : Str → Option Value}
theorem eq_is_prime : cDef cc_is_prime mu_is_prime (defBody (top 4)) = some ir_is_prime := by kernel_rfl
theorem sc_is_prime : FnScope N_is_prime ["number"] (defScope (top 4)) := ⟨by kernel_rfl, by kernel_rfl, by kernel_rfl, by decide +kernel, by kernel_rfl, by decide +kernel, by decide +kernel⟩
theorem eq_check : cDef cc_check mu_check (defBody (top 5)) = some ir_check := by kernel_rfl
theorem sc_check : FnScope N_check ["group"] (defScope (top 5)) := ⟨by kernel_rfl, by kernel_rfl, by kernel_rfl, by decide +kernel, by kernel_rfl, by decide +kernel, by decide +kernel⟩
theorem eq_power_in : cDef cc_power_in mu_power_in (defBody (top 6)) = some ir_power_in := by kernel_rfl
theorem sc_power_in : FnScope N_power_in ["p", "base", "times"] (defScope (top 6)) := ⟨by kernel_rfl, by kernel_rfl, by kernel_rfl, by decide +kernel, by kernel_rfl, by decide +kernel, by decide +kernel⟩
theorem eq_power : cDef cc_power mu_power (defBody (top 7)) = some ir_power := by kernel_rfl
theorem sc_power : FnScope N_power ["group", "base", "times"] (defScope (top 7)) := ⟨by kernel_rfl, by kernel_rfl, by kernel_rfl, by decide +kernel, by kernel_rfl, by decide +kernel, by decide +kernel⟩
theorem eq_members : cDef cc_members mu_members (defBody (top 8)) = some ir_members := by kernel_rfl
theorem sc_members : FnScope N_members ["group"] (defScope (top 8)) := ⟨by kernel_rfl, by kernel_rfl, by kernel_rfl, by decide +kernel, by kernel_rfl, by decide +kernel, by decide +kernel⟩
theorem eq_check_member : cDef cc_check_member mu_check_member (defBody (top 9)) = some ir_check_member := by kernel_rfl
theorem sc_check_member : FnScope N_check_member ["group", "one"] (defScope (top 9)) := ⟨by kernel_rfl, by kernel_rfl, by kernel_rfl, by decide +kernel, by kernel_rfl, by decide +kernel, by decide +kernel⟩
theorem eq_log_of : cDef cc_log_of mu_log_of (defBody (top 10)) = some ir_log_of := by kernel_rfl
theorem sc_log_of : FnScope N_log_of ["group", "one"] (defScope (top 10)) := ⟨by kernel_rfl, by kernel_rfl, by kernel_rfl, by decide +kernel, by kernel_rfl, by decide +kernel, by decide +kernel⟩
theorem eq_groups_up_to : cDef cc_groups_up_to mu_groups_up_to (defBody (top 11)) = some ir_groups_up_to := by kernel_rfl
theorem sc_groups_up_to : FnScope N_groups_up_to ["most"] (defScope (top 11)) := ⟨by kernel_rfl, by kernel_rfl, by kernel_rfl, by decide +kernel, by kernel_rfl, by decide +kernel, by decide +kernel⟩
theorem eq_base_of : cDef cc_base_of mu_base_of (defBody (top 12)) = some ir_base_of := by kernel_rfl
theorem sc_base_of : FnScope N_base_of ["p", "q"] (defScope (top 12)) := ⟨by kernel_rfl, by kernel_rfl, by kernel_rfl, by decide +kernel, by kernel_rfl, by decide +kernel, by decide +kernel⟩
theorem eq_check_key : cDef cc_check_key mu_check_key (defBody (top 13)) = some ir_check_key := by kernel_rfl
theorem sc_check_key : FnScope N_check_key ["group", "key"] (defScope (top 13)) := ⟨by kernel_rfl, by kernel_rfl, by kernel_rfl, by decide +kernel, by kernel_rfl, by decide +kernel, by decide +kernel⟩
theorem eq_agreed : cDef cc_agreed mu_agreed (defBody (top 14)) = some ir_agreed := by kernel_rfl
theorem sc_agreed : FnScope N_agreed ["group", "own", "other"] (defScope (top 14)) := ⟨by kernel_rfl, by kernel_rfl, by kernel_rfl, by decide +kernel, by kernel_rfl, by decide +kernel, by decide +kernel⟩
theorem eq_lock : cDef cc_lock mu_lock (defBody (top 15)) = some ir_lock := by kernel_rfl
theorem sc_lock : FnScope N_lock ["group", "public", "message", "drawn"] (defScope (top 15)) := ⟨by kernel_rfl, by kernel_rfl, by kernel_rfl, by decide +kernel, by kernel_rfl, by decide +kernel, by decide +kernel⟩
theorem eq_unlock : cDef cc_unlock mu_unlock (defBody (top 16)) = some ir_unlock := by kernel_rfl
theorem sc_unlock : FnScope N_unlock ["group", "key", "pair"] (defScope (top 16)) := ⟨by kernel_rfl, by kernel_rfl, by kernel_rfl, by decide +kernel, by kernel_rfl, by decide +kernel, by decide +kernel⟩
theorem eq_joined : cDef cc_joined mu_joined (defBody (top 17)) = some ir_joined := by kernel_rfl
theorem sc_joined : FnScope N_joined ["group", "one", "other"] (defScope (top 17)) := ⟨by kernel_rfl, by kernel_rfl, by kernel_rfl, by decide +kernel, by kernel_rfl, by decide +kernel, by decide +kernel⟩
theorem eq_relocked : cDef cc_relocked mu_relocked (defBody (top 18)) = some ir_relocked := by kernel_rfl
theorem sc_relocked : FnScope N_relocked ["group", "public", "pair", "drawn"] (defScope (top 18)) := ⟨by kernel_rfl, by kernel_rfl, by kernel_rfl, by decide +kernel, by kernel_rfl, by decide +kernel, by decide +kernel⟩
theorem eq_locked_alike : cDef cc_locked_alike mu_locked_alike (defBody (top 19)) = some ir_locked_alike := by kernel_rfl
theorem sc_locked_alike : FnScope N_locked_alike ["group", "public", "message"] (defScope (top 19)) := ⟨by kernel_rfl, by kernel_rfl, by kernel_rfl, by decide +kernel, by kernel_rfl, by decide +kernel, by decide +kernel⟩
theorem eq_pledge : cDef cc_pledge mu_pledge (defBody (top 20)) = some ir_pledge := by kernel_rfl
theorem sc_pledge : FnScope N_pledge ["group", "second", "message", "drawn"] (defScope (top 20)) := ⟨by kernel_rfl, by kernel_rfl, by kernel_rfl, by decide +kernel, by kernel_rfl, by decide +kernel, by decide +kernel⟩
theorem eq_pledges_of : cDef cc_pledges_of mu_pledges_of (defBody (top 21)) = some ir_pledges_of := by kernel_rfl
theorem sc_pledges_of : FnScope N_pledges_of ["group", "second", "message"] (defScope (top 21)) := ⟨by kernel_rfl, by kernel_rfl, by kernel_rfl, by decide +kernel, by kernel_rfl, by decide +kernel, by decide +kernel⟩
theorem eq_broken : cDef cc_broken mu_broken (defBody (top 22)) = some ir_broken := by kernel_rfl
theorem sc_broken : FnScope N_broken ["group", "second", "first", "other"] (defScope (top 22)) := ⟨by kernel_rfl, by kernel_rfl, by kernel_rfl, by decide +kernel, by kernel_rfl, by decide +kernel, by decide +kernel⟩
theorem eq_other_opening : cDef cc_other_opening mu_other_opening (defBody (top 23)) = some ir_other_opening := by kernel_rfl
theorem sc_other_opening : FnScope N_other_opening ["group", "second", "way", "message", "drawn", "wanted"] (defScope (top 23)) := ⟨by kernel_rfl, by kernel_rfl, by kernel_rfl, by decide +kernel, by kernel_rfl, by decide +kernel, by decide +kernel⟩
theorem eq_shared_unlock : cDef cc_shared_unlock mu_shared_unlock (defBody (top 24)) = some ir_shared_unlock := by kernel_rfl
theorem sc_shared_unlock : FnScope N_shared_unlock ["group", "keys", "factors", "pair"] (defScope (top 24)) := ⟨by kernel_rfl, by kernel_rfl, by kernel_rfl, by decide +kernel, by kernel_rfl, by decide +kernel, by decide +kernel⟩
theorem eq__law_begin : cDef cc__law_begin mu__law_begin (defBody (top 26)) = some ir__law_begin := by kernel_rfl
theorem sc__law_begin : FnScope N__law_begin ["script"] (defScope (top 26)) := ⟨by kernel_rfl, by kernel_rfl, by kernel_rfl, by decide +kernel, by kernel_rfl, by decide +kernel, by decide +kernel⟩
theorem eq__law_take : cDef cc__law_take mu__law_take (defBody (top 27)) = some ir__law_take := by kernel_rfl
theorem sc__law_take : FnScope N__law_take ["d", "many"] (defScope (top 27)) := ⟨by kernel_rfl, by kernel_rfl, by kernel_rfl, by decide +kernel, by kernel_rfl, by decide +kernel, by decide +kernel⟩
theorem eq__law_power : cDef cc__law_power mu__law_power (defBody (top 29)) = some ir__law_power := by kernel_rfl
theorem sc__law_power : FnScope N__law_power ["p", "base", "times"] (defScope (top 29)) := ⟨by kernel_rfl, by kernel_rfl, by kernel_rfl, by decide +kernel, by kernel_rfl, by decide +kernel, by decide +kernel⟩
theorem eq__law_prime : cDef cc__law_prime mu__law_prime (defBody (top 30)) = some ir__law_prime := by kernel_rfl
theorem sc__law_prime : FnScope N__law_prime ["number"] (defScope (top 30)) := ⟨by kernel_rfl, by kernel_rfl, by kernel_rfl, by decide +kernel, by kernel_rfl, by decide +kernel, by decide +kernel⟩
theorem eq__law_group : cDef cc__law_group mu__law_group (defBody (top 31)) = some ir__law_group := by kernel_rfl
theorem sc__law_group : FnScope N__law_group ["d"] (defScope (top 31)) := ⟨by kernel_rfl, by kernel_rfl, by kernel_rfl, by decide +kernel, by kernel_rfl, by decide +kernel, by decide +kernel⟩
theorem eq__law_wrong : cDef cc__law_wrong mu__law_wrong (defBody (top 32)) = some ir__law_wrong := by kernel_rfl
theorem sc__law_wrong : FnScope N__law_wrong [] (defScope (top 32)) := ⟨by kernel_rfl, by kernel_rfl, by kernel_rfl, by decide +kernel, by kernel_rfl, by decide +kernel, by decide +kernel⟩
theorem eq__law_part1 : cDef cc__law_part1 mu__law_part1 (defBody (top 33)) = some ir__law_part1 := by kernel_rfl
theorem sc__law_part1 : FnScope N__law_part1 ["d", "group", "p", "q", "own", "b", "message", "c", "keys"] (defScope (top 33)) := ⟨by kernel_rfl, by kernel_rfl, by kernel_rfl, by decide +kernel, by kernel_rfl, by decide +kernel, by decide +kernel⟩
theorem eq_law : cDef cc_law mu_law (defBody (top 34)).tail = some ir_law := by kernel_rfl
theorem sc_law : FnScope N_law ["script"] (defScope (top 34)) := ⟨by kernel_rfl, by kernel_rfl, by kernel_rfl, by decide +kernel, by kernel_rfl, by decide +kernel, by decide +kernel⟩
theorem hf_is_prime (X : K.In h) (G : h.Ns mainGlobals mg) (c : He.SaysD fa fn K) : HF K mg fns csts tab sp true tfs ("is_prime", 0, 1) := by
  obtain ⟨fd, F⟩ := c.def_ 0 (d := dd_is_prime) rfl
  exact ⟨di_is_prime, _, _, mu_is_prime, _, fd, rfl, rfl, rfl, rfl, rfl, F, He.glo_ok X G (c.fact 0 (f := .glo "is_prime") rfl), sc_is_prime, eq_is_prime, FunD.bindsN F fun _ _ _ _ _ _ us hl => match us, hl with | [_], _ => rfl, rfl, id, fun z => nomatch z⟩
theorem hf_check (X : K.In h) (G : h.Ns mainGlobals mg) (c : He.SaysD fa fn K) : HF K mg fns csts tab sp true tfs ("check", 1, 1) := by
  obtain ⟨fd, F⟩ := c.def_ 1 (d := dd_check) rfl
  exact ⟨di_check, _, _, mu_check, _, fd, rfl, rfl, rfl, rfl, rfl, F, He.glo_ok X G (c.fact 1 (f := .glo "check") rfl), sc_check, eq_check, FunD.bindsN F fun _ _ _ _ _ _ us hl => match us, hl with | [_], _ => rfl, rfl, id, fun z => nomatch z⟩
theorem hf_power_in (X : K.In h) (G : h.Ns mainGlobals mg) (c : He.SaysD fa fn K) : HF K mg fns csts tab sp true tfs ("power_in", 2, 3) := by
  obtain ⟨fd, F⟩ := c.def_ 2 (d := dd_power_in) rfl
  exact ⟨di_power_in, _, _, mu_power_in, _, fd, rfl, rfl, rfl, rfl, rfl, F, He.glo_ok X G (c.fact 2 (f := .glo "power_in") rfl), sc_power_in, eq_power_in, FunD.bindsN F fun _ _ _ _ _ _ us hl => match us, hl with | [_, _, _], _ => rfl, rfl, id, fun z => nomatch z⟩
theorem hf_power (X : K.In h) (G : h.Ns mainGlobals mg) (c : He.SaysD fa fn K) : HF K mg fns csts tab sp true tfs ("power", 3, 3) := by
  obtain ⟨fd, F⟩ := c.def_ 3 (d := dd_power) rfl
  exact ⟨di_power, _, _, mu_power, _, fd, rfl, rfl, rfl, rfl, rfl, F, He.glo_ok X G (c.fact 3 (f := .glo "power") rfl), sc_power, eq_power, FunD.bindsN F fun _ _ _ _ _ _ us hl => match us, hl with | [_, _, _], _ => rfl, rfl, id, fun z => nomatch z⟩
theorem hf_members (X : K.In h) (G : h.Ns mainGlobals mg) (c : He.SaysD fa fn K) : HF K mg fns csts tab sp true tfs ("members", 4, 1) := by
  obtain ⟨fd, F⟩ := c.def_ 4 (d := dd_members) rfl
  exact ⟨di_members, _, _, mu_members, _, fd, rfl, rfl, rfl, rfl, rfl, F, He.glo_ok X G (c.fact 4 (f := .glo "members") rfl), sc_members, eq_members, FunD.bindsN F fun _ _ _ _ _ _ us hl => match us, hl with | [_], _ => rfl, rfl, id, fun z => nomatch z⟩
theorem hf_check_member (X : K.In h) (G : h.Ns mainGlobals mg) (c : He.SaysD fa fn K) : HF K mg fns csts tab sp true tfs ("check_member", 5, 2) := by
  obtain ⟨fd, F⟩ := c.def_ 5 (d := dd_check_member) rfl
  exact ⟨di_check_member, _, _, mu_check_member, _, fd, rfl, rfl, rfl, rfl, rfl, F, He.glo_ok X G (c.fact 5 (f := .glo "check_member") rfl), sc_check_member, eq_check_member, FunD.bindsN F fun _ _ _ _ _ _ us hl => match us, hl with | [_, _], _ => rfl, rfl, id, fun z => nomatch z⟩
theorem hf_log_of (X : K.In h) (G : h.Ns mainGlobals mg) (c : He.SaysD fa fn K) : HF K mg fns csts tab sp true tfs ("log_of", 6, 2) := by
  obtain ⟨fd, F⟩ := c.def_ 6 (d := dd_log_of) rfl
  exact ⟨di_log_of, _, _, mu_log_of, _, fd, rfl, rfl, rfl, rfl, rfl, F, He.glo_ok X G (c.fact 6 (f := .glo "log_of") rfl), sc_log_of, eq_log_of, FunD.bindsN F fun _ _ _ _ _ _ us hl => match us, hl with | [_, _], _ => rfl, rfl, id, fun z => nomatch z⟩
theorem hf_groups_up_to (X : K.In h) (G : h.Ns mainGlobals mg) (c : He.SaysD fa fn K) : HF K mg fns csts tab sp true tfs ("groups_up_to", 7, 1) := by
  obtain ⟨fd, F⟩ := c.def_ 7 (d := dd_groups_up_to) rfl
  exact ⟨di_groups_up_to, _, _, mu_groups_up_to, _, fd, rfl, rfl, rfl, rfl, rfl, F, He.glo_ok X G (c.fact 7 (f := .glo "groups_up_to") rfl), sc_groups_up_to, eq_groups_up_to, FunD.bindsN F fun _ _ _ _ _ _ us hl => match us, hl with | [_], _ => rfl, rfl, id, fun z => nomatch z⟩
theorem hf_base_of (X : K.In h) (G : h.Ns mainGlobals mg) (c : He.SaysD fa fn K) : HF K mg fns csts tab sp true tfs ("base_of", 8, 2) := by
  obtain ⟨fd, F⟩ := c.def_ 8 (d := dd_base_of) rfl
  exact ⟨di_base_of, _, _, mu_base_of, _, fd, rfl, rfl, rfl, rfl, rfl, F, He.glo_ok X G (c.fact 8 (f := .glo "base_of") rfl), sc_base_of, eq_base_of, FunD.bindsN F fun _ _ _ _ _ _ us hl => match us, hl with | [_, _], _ => rfl, rfl, id, fun z => nomatch z⟩
theorem hf_check_key (X : K.In h) (G : h.Ns mainGlobals mg) (c : He.SaysD fa fn K) : HF K mg fns csts tab sp true tfs ("check_key", 9, 2) := by
  obtain ⟨fd, F⟩ := c.def_ 9 (d := dd_check_key) rfl
  exact ⟨di_check_key, _, _, mu_check_key, _, fd, rfl, rfl, rfl, rfl, rfl, F, He.glo_ok X G (c.fact 9 (f := .glo "check_key") rfl), sc_check_key, eq_check_key, FunD.bindsN F fun _ _ _ _ _ _ us hl => match us, hl with | [_, _], _ => rfl, rfl, id, fun z => nomatch z⟩
theorem hf_agreed (X : K.In h) (G : h.Ns mainGlobals mg) (c : He.SaysD fa fn K) : HF K mg fns csts tab sp true tfs ("agreed", 10, 3) := by
  obtain ⟨fd, F⟩ := c.def_ 10 (d := dd_agreed) rfl
  exact ⟨di_agreed, _, _, mu_agreed, _, fd, rfl, rfl, rfl, rfl, rfl, F, He.glo_ok X G (c.fact 10 (f := .glo "agreed") rfl), sc_agreed, eq_agreed, FunD.bindsN F fun _ _ _ _ _ _ us hl => match us, hl with | [_, _, _], _ => rfl, rfl, id, fun z => nomatch z⟩
theorem hf_lock (X : K.In h) (G : h.Ns mainGlobals mg) (c : He.SaysD fa fn K) : HF K mg fns csts tab sp true tfs ("lock", 11, 4) := by
  obtain ⟨fd, F⟩ := c.def_ 11 (d := dd_lock) rfl
  exact ⟨di_lock, _, _, mu_lock, _, fd, rfl, rfl, rfl, rfl, rfl, F, He.glo_ok X G (c.fact 11 (f := .glo "lock") rfl), sc_lock, eq_lock, FunD.bindsN F fun _ _ _ _ _ _ us hl => match us, hl with | [_, _, _, _], _ => rfl, rfl, id, fun z => nomatch z⟩
theorem hf_unlock (X : K.In h) (G : h.Ns mainGlobals mg) (c : He.SaysD fa fn K) : HF K mg fns csts tab sp true tfs ("unlock", 12, 3) := by
  obtain ⟨fd, F⟩ := c.def_ 12 (d := dd_unlock) rfl
  exact ⟨di_unlock, _, _, mu_unlock, _, fd, rfl, rfl, rfl, rfl, rfl, F, He.glo_ok X G (c.fact 12 (f := .glo "unlock") rfl), sc_unlock, eq_unlock, FunD.bindsN F fun _ _ _ _ _ _ us hl => match us, hl with | [_, _, _], _ => rfl, rfl, id, fun z => nomatch z⟩
theorem hf_joined (X : K.In h) (G : h.Ns mainGlobals mg) (c : He.SaysD fa fn K) : HF K mg fns csts tab sp true tfs ("joined", 13, 3) := by
  obtain ⟨fd, F⟩ := c.def_ 13 (d := dd_joined) rfl
  exact ⟨di_joined, _, _, mu_joined, _, fd, rfl, rfl, rfl, rfl, rfl, F, He.glo_ok X G (c.fact 13 (f := .glo "joined") rfl), sc_joined, eq_joined, FunD.bindsN F fun _ _ _ _ _ _ us hl => match us, hl with | [_, _, _], _ => rfl, rfl, id, fun z => nomatch z⟩
theorem hf_relocked (X : K.In h) (G : h.Ns mainGlobals mg) (c : He.SaysD fa fn K) : HF K mg fns csts tab sp true tfs ("relocked", 14, 4) := by
  obtain ⟨fd, F⟩ := c.def_ 14 (d := dd_relocked) rfl
  exact ⟨di_relocked, _, _, mu_relocked, _, fd, rfl, rfl, rfl, rfl, rfl, F, He.glo_ok X G (c.fact 14 (f := .glo "relocked") rfl), sc_relocked, eq_relocked, FunD.bindsN F fun _ _ _ _ _ _ us hl => match us, hl with | [_, _, _, _], _ => rfl, rfl, id, fun z => nomatch z⟩
theorem hf_locked_alike (X : K.In h) (G : h.Ns mainGlobals mg) (c : He.SaysD fa fn K) : HF K mg fns csts tab sp true tfs ("locked_alike", 15, 3) := by
  obtain ⟨fd, F⟩ := c.def_ 15 (d := dd_locked_alike) rfl
  exact ⟨di_locked_alike, _, _, mu_locked_alike, _, fd, rfl, rfl, rfl, rfl, rfl, F, He.glo_ok X G (c.fact 15 (f := .glo "locked_alike") rfl), sc_locked_alike, eq_locked_alike, FunD.bindsN F fun _ _ _ _ _ _ us hl => match us, hl with | [_, _, _], _ => rfl, rfl, id, fun z => nomatch z⟩
theorem hf_pledge (X : K.In h) (G : h.Ns mainGlobals mg) (c : He.SaysD fa fn K) : HF K mg fns csts tab sp true tfs ("pledge", 16, 4) := by
  obtain ⟨fd, F⟩ := c.def_ 16 (d := dd_pledge) rfl
  exact ⟨di_pledge, _, _, mu_pledge, _, fd, rfl, rfl, rfl, rfl, rfl, F, He.glo_ok X G (c.fact 16 (f := .glo "pledge") rfl), sc_pledge, eq_pledge, FunD.bindsN F fun _ _ _ _ _ _ us hl => match us, hl with | [_, _, _, _], _ => rfl, rfl, id, fun z => nomatch z⟩
theorem hf_pledges_of (X : K.In h) (G : h.Ns mainGlobals mg) (c : He.SaysD fa fn K) : HF K mg fns csts tab sp true tfs ("pledges_of", 17, 3) := by
  obtain ⟨fd, F⟩ := c.def_ 17 (d := dd_pledges_of) rfl
  exact ⟨di_pledges_of, _, _, mu_pledges_of, _, fd, rfl, rfl, rfl, rfl, rfl, F, He.glo_ok X G (c.fact 17 (f := .glo "pledges_of") rfl), sc_pledges_of, eq_pledges_of, FunD.bindsN F fun _ _ _ _ _ _ us hl => match us, hl with | [_, _, _], _ => rfl, rfl, id, fun z => nomatch z⟩
theorem hf_broken (X : K.In h) (G : h.Ns mainGlobals mg) (c : He.SaysD fa fn K) : HF K mg fns csts tab sp true tfs ("broken", 18, 4) := by
  obtain ⟨fd, F⟩ := c.def_ 18 (d := dd_broken) rfl
  exact ⟨di_broken, _, _, mu_broken, _, fd, rfl, rfl, rfl, rfl, rfl, F, He.glo_ok X G (c.fact 18 (f := .glo "broken") rfl), sc_broken, eq_broken, FunD.bindsN F fun _ _ _ _ _ _ us hl => match us, hl with | [_, _, _, _], _ => rfl, rfl, id, fun z => nomatch z⟩
theorem hf_other_opening (X : K.In h) (G : h.Ns mainGlobals mg) (c : He.SaysD fa fn K) : HF K mg fns csts tab sp true tfs ("other_opening", 19, 6) := by
  obtain ⟨fd, F⟩ := c.def_ 19 (d := dd_other_opening) rfl
  exact ⟨di_other_opening, _, _, mu_other_opening, _, fd, rfl, rfl, rfl, rfl, rfl, F, He.glo_ok X G (c.fact 19 (f := .glo "other_opening") rfl), sc_other_opening, eq_other_opening, FunD.bindsN F fun _ _ _ _ _ _ us hl => match us, hl with | [_, _, _, _, _, _], _ => rfl, rfl, id, fun z => nomatch z⟩
theorem hf_shared_unlock (X : K.In h) (G : h.Ns mainGlobals mg) (c : He.SaysD fa fn K) : HF K mg fns csts tab sp true tfs ("shared_unlock", 20, 4) := by
  obtain ⟨fd, F⟩ := c.def_ 20 (d := dd_shared_unlock) rfl
  exact ⟨di_shared_unlock, _, _, mu_shared_unlock, _, fd, rfl, rfl, rfl, rfl, rfl, F, He.glo_ok X G (c.fact 20 (f := .glo "shared_unlock") rfl), sc_shared_unlock, eq_shared_unlock, FunD.bindsN F fun _ _ _ _ _ _ us hl => match us, hl with | [_, _, _, _], _ => rfl, rfl, id, fun z => nomatch z⟩
theorem hf__law_begin (X : K.In h) (G : h.Ns mainGlobals mg) (c : He.SaysD fa fn K) : HF K mg fns csts tab sp true tfs ("_law_begin", 21, 1) := by
  obtain ⟨fd, F⟩ := c.def_ 21 (d := dd__law_begin) rfl
  exact ⟨di__law_begin, _, _, mu__law_begin, _, fd, rfl, rfl, rfl, rfl, rfl, F, He.glo_ok X G (c.fact 21 (f := .glo "_law_begin") rfl), sc__law_begin, eq__law_begin, FunD.bindsN F fun _ _ _ _ _ _ us hl => match us, hl with | [_], _ => rfl, rfl, id, fun z => nomatch z⟩
theorem hf__law_take (X : K.In h) (G : h.Ns mainGlobals mg) (c : He.SaysD fa fn K) : HF K mg fns csts tab sp true tfs ("_law_take", 22, 2) := by
  obtain ⟨fd, F⟩ := c.def_ 22 (d := dd__law_take) rfl
  exact ⟨di__law_take, _, _, mu__law_take, _, fd, rfl, rfl, rfl, rfl, rfl, F, He.glo_ok X G (c.fact 22 (f := .glo "_law_take") rfl), sc__law_take, eq__law_take, FunD.bindsN F fun _ _ _ _ _ _ us hl => match us, hl with | [_, _], _ => rfl, rfl, id, fun z => nomatch z⟩
theorem hf__law_power (X : K.In h) (G : h.Ns mainGlobals mg) (c : He.SaysD fa fn K) : HF K mg fns csts tab sp true tfs ("_law_power", 24, 3) := by
  obtain ⟨fd, F⟩ := c.def_ 23 (d := dd__law_power) rfl
  exact ⟨di__law_power, _, _, mu__law_power, _, fd, rfl, rfl, rfl, rfl, rfl, F, He.glo_ok X G (c.fact 23 (f := .glo "_law_power") rfl), sc__law_power, eq__law_power, FunD.bindsN F fun _ _ _ _ _ _ us hl => match us, hl with | [_, _, _], _ => rfl, rfl, id, fun z => nomatch z⟩
theorem hf__law_prime (X : K.In h) (G : h.Ns mainGlobals mg) (c : He.SaysD fa fn K) : HF K mg fns csts tab sp true tfs ("_law_prime", 25, 1) := by
  obtain ⟨fd, F⟩ := c.def_ 24 (d := dd__law_prime) rfl
  exact ⟨di__law_prime, _, _, mu__law_prime, _, fd, rfl, rfl, rfl, rfl, rfl, F, He.glo_ok X G (c.fact 24 (f := .glo "_law_prime") rfl), sc__law_prime, eq__law_prime, FunD.bindsN F fun _ _ _ _ _ _ us hl => match us, hl with | [_], _ => rfl, rfl, id, fun z => nomatch z⟩
theorem hf__law_group (X : K.In h) (G : h.Ns mainGlobals mg) (c : He.SaysD fa fn K) : HF K mg fns csts tab sp true tfs ("_law_group", 26, 1) := by
  obtain ⟨fd, F⟩ := c.def_ 25 (d := dd__law_group) rfl
  exact ⟨di__law_group, _, _, mu__law_group, _, fd, rfl, rfl, rfl, rfl, rfl, F, He.glo_ok X G (c.fact 25 (f := .glo "_law_group") rfl), sc__law_group, eq__law_group, FunD.bindsN F fun _ _ _ _ _ _ us hl => match us, hl with | [_], _ => rfl, rfl, id, fun z => nomatch z⟩
theorem hf__law_wrong (X : K.In h) (G : h.Ns mainGlobals mg) (c : He.SaysD fa fn K) : HF K mg fns csts tab sp true tfs ("_law_wrong", 27, 0) := by
  obtain ⟨fd, F⟩ := c.def_ 26 (d := dd__law_wrong) rfl
  exact ⟨di__law_wrong, _, _, mu__law_wrong, _, fd, rfl, rfl, rfl, rfl, rfl, F, He.glo_ok X G (c.fact 26 (f := .glo "_law_wrong") rfl), sc__law_wrong, eq__law_wrong, FunD.bindsN F fun _ _ _ _ _ _ us hl => match us, hl with | [], _ => rfl, rfl, id, fun _ => ⟨rfl, by decide +kernel, rfl⟩⟩
theorem hf__law_part1 (X : K.In h) (G : h.Ns mainGlobals mg) (c : He.SaysD fa fn K) : HF K mg fns csts tab sp true tfs ("_law_part1", 28, 9) := by
  obtain ⟨fd, F⟩ := c.def_ 27 (d := dd__law_part1) rfl
  exact ⟨di__law_part1, _, _, mu__law_part1, _, fd, rfl, rfl, rfl, rfl, rfl, F, He.glo_ok X G (c.fact 27 (f := .glo "_law_part1") rfl), sc__law_part1, eq__law_part1, FunD.bindsN F fun _ _ _ _ _ _ us hl => match us, hl with | [_, _, _, _, _, _, _, _, _], _ => rfl, rfl, id, fun z => nomatch z⟩
theorem free (X : K.In h) (G : h.Ns mainGlobals mg) (c : He.SaysD fa fn K) : AllF (fun x => mg x = none) bNames := ⟨He.free_ok X G (c.fact 30 (f := .free "len") rfl), He.free_ok X G (c.fact 31 (f := .free "any") rfl), He.free_ok X G (c.fact 32 (f := .free "all") rfl), He.free_ok X G (c.fact 33 (f := .free "sum") rfl), He.free_ok X G (c.fact 34 (f := .free "max") rfl), He.free_ok X G (c.fact 35 (f := .free "min") rfl), He.free_ok X G (c.fact 36 (f := .free "abs") rfl), He.free_ok X G (c.fact 37 (f := .free "int") rfl), He.free_ok X G (c.fact 38 (f := .free "list") rfl), He.free_ok X G (c.fact 39 (f := .free "tuple") rfl), He.free_ok X G (c.fact 40 (f := .free "range") rfl), He.free_ok X G (c.fact 41 (f := .free "enumerate") rfl), He.free_ok X G (c.fact 42 (f := .free "zip") rfl), He.free_ok X G (c.fact 43 (f := .free "sorted") rfl), He.free_ok X G (c.fact 44 (f := .free "set") rfl), trivial⟩
theorem cst (X : K.In h) (G : h.Ns mainGlobals mg) (e : ex K = true) : AllF (HC K mg) csts := cstB_ok X G (Bool.and_eq_true_iff.mp e).2
theorem toldF [TabL] (w : World) (X : K.In h) (G : h.Ns mainGlobals mg) (c : He.SaysD fa fn K) (e : excB PySem.Challenge.pw_secrethall_k05_whole_small_groups K = true) : ToldF K mg (He.ga K "SecretError") := by
  obtain ⟨fd, F⟩ := c.def_ 29 (d := dd__law_told) rfl
  exact told_ok (h := h) w (base := h) (a := "call") (n := "e") F (He.glo_ok X G (c.fact 29 (f := .glo "_law_told") rfl)) e X G (by kernel_rfl) ⟨by kernel_rfl, by kernel_rfl, by kernel_rfl, by decide +kernel, by kernel_rfl, by decide +kernel, by decide +kernel⟩
    (FunD.bindsN F fun _ _ _ _ _ _ us hl => match us, hl with | [_], _ => rfl) (by kernel_rfl) (.inl (by kernel_rfl)) (by kernel_rfl) (by decide +kernel) (by decide +kernel) (by decide +kernel) (by decide +kernel)
theorem pg [TabL] (X : K.In h) (G : h.Ns mainGlobals mg) (c : He.SaysD fa fn K) (e : ex K = true) (base : Heap) (h3 : ∀ x ∈ tfs, LamX.TabB base mg (He.cT K (x, none)).1 (He.cT K (x, none)).2)
    (h4 : ∀ x ∈ tfs, ((He.cT K (x, none)).2, lamQ x) ∈ TabL.T) (h5 : ∀ x ∈ tfs, ∀ p ∈ TabL.T, p.1 = (He.cT K (x, none)).2 → p.2 = lamQ x) (h6 : TabL.PW = some (PySem.Challenge.pw_secrethall_k05_whole_small_groups, w)) : PG PySem.Challenge.pw_secrethall_k05_whole_small_groups w K mg base (He.ga K "SecretError") fns csts tab sp true tfs :=
  .of (fun x hx => (free X G c).mem hx) (cst X G e) ⟨hf_is_prime X G c, hf_check X G c, hf_power_in X G c, hf_power X G c, hf_members X G c, hf_check_member X G c, hf_log_of X G c, hf_groups_up_to X G c, hf_base_of X G c, hf_check_key X G c, hf_agreed X G c, hf_lock X G c, hf_unlock X G c, hf_joined X G c, hf_relocked X G c, hf_locked_alike X G c, hf_pledge X G c, hf_pledges_of X G c, hf_broken X G c, hf_other_opening X G c, hf_shared_unlock X G c, hf__law_begin X G c, hf__law_take X G c, hf__law_power X G c, hf__law_prime X G c, hf__law_group X G c, hf__law_wrong X G c, hf__law_part1 X G c, trivial⟩ (fun _ => (excB_ok (exB_exc (exL e)) X G).1) (fun _ => toldF w X G c (exB_exc (exL e))) h3 h4 h5 h6
/-- the law's run, in plain terms -/
def Plain (most : Nat) : Prop := ∀ (ns : List Int), ns.length ≤ most → ∃ seed : Int, 0 ≤ seed ∧ (∀ s, ∃ s', FP 20 21 [.scr ns] s = .ok (.list [.list (ns.map .int), .int 0, .int 0, .int seed], s')) ∧ LawRun (FP 20) di_law 1 ir_law ns seed
theorem facts {f : Addr} {most : Nat} (hp : Plain most) (X : K.In h) (G : h.Ns mainGlobals mg) (hfa : mg ("law" : Str) = some (.ref f)) (c : He.SaysX fa fn [] tfd ex w h K) : ∃ fd : FuncData, (∀ (s : Shared) (v : Value), BindsTo s fd ⟨[v], []⟩ [("script", v)]) ∧
    ∀ base : Heap, K.In base → base.Ns mainGlobals mg → (∀ y ∈ tfs, LamX.TabB base mg (He.cT K (y, none)).1 (He.cT K (y, none)).2) → @FnOk PySem.Challenge.pw_secrethall_k05_whole_small_groups w K mg base (L2.CX PySem.Challenge.pw_secrethall_k05_whole_small_groups w) 67 f fd ["script"] (@spLaw (tabL K tfs PySem.Challenge.pw_secrethall_k05_whole_small_groups w) K most) := by
  obtain ⟨fd, F⟩ := c.t.d.def_ 28 (d := dd_law) rfl
  have e := hfa.symm.trans (He.glo_ok X G (c.t.d.fact 28 (f := .glo "law") rfl))
  cases e
  have b := FunD.bindsA (ps := ["script"]) F fun _ _ _ _ _ _ us hl => match us, hl with | [_], _ => rfl
  refine ⟨fd, fun s v => b s [v] rfl, fun base h1 h2 h3 => ?_⟩
  letI : TabL := tabL K tfs PySem.Challenge.pw_secrethall_k05_whole_small_groups w
  have g := pg (w := w) X G c.t.d c.more base h3 (fun x hx => List.mem_map.mpr ⟨x, hx, rfl⟩) (fun x hx p hp e => by
    obtain ⟨y, hy, rfl⟩ := List.mem_map.mp hp
    rw [nodup_inj (exB_nd (exL c.more)) hy hx e]) rfl
  exact law_ok (d := di_law) (mu := mu_law) (y := "d") (k := 20) g F sc_law rfl rfl rfl id rfl (by kernel_rfl) eq_law (by kernel_rfl) (by kernel_rfl) (by kernel_rfl) (by kernel_rfl) (by decide) hp
end
theorem plain : Plain 63 := fun ns hl => by
  letI : TabL := ⟨[], none⟩
  exact plain0 ns hl
end Row
open PySem PySem.W PySem.Calls PyProof.Rows
theorem PySem.Challenge.cw_secrethall_k05_whole_small_groups_holds : PySem.Challenge.rw_secrethall_k05_whole_small_groups.Holds := by
  w_on; o_law
  refine HandSHeadRun.head_any (r := OpenLaw.row PySem.Challenge.rw_secrethall_k05_whole_small_groups) (q := view (OpenLaw.row PySem.Challenge.rw_secrethall_k05_whole_small_groups).prog [34]) (H := Row.hk) (ob := Row.ob) (M := 20000) (loose := Row.loose) (d := HandSHeadRun.topDef (OpenLaw.row PySem.Challenge.rw_secrethall_k05_whole_small_groups).prog 34) (kwd := []) Row.ob_eq
    (by kernel_rfl) (fun s => by kernel_rfl) Row.run (by kernel_rfl) (by kernel_rfl) (by kernel_rfl) (by rfl) (by first | assumption | decide +kernel) (by decide +kernel) ⟨rfl, rfl, rfl, rfl, rfl, by decide +kernel⟩ ?hw ?hc
  case hw => w_witness2
  case hc =>
    refine LamX.walk_ofTsE (l := PySem.Challenge.rw_secrethall_k05_whole_small_groups) (n := 63) (k := 67) (x := "script") (CX := fun w => L2.CX PySem.Challenge.pw_secrethall_k05_whole_small_groups w) rfl (by decide) (by kernel_rfl) ⟨rfl, by decide, by decide⟩ ?F (by letI : L2.DL.TabL := ⟨[], none⟩; exact fun _ _ _ _ _ z => L2.DL.cx_no z)
    intro w mg fa h Y G hmg0
    obtain ⟨K, KX, c⟩ := Y
    have hmg : mg ("law" : PySem.Str) = some (.ref fa) := by
      have e : (HandSHeadRun.topDef (OpenLaw.row PySem.Challenge.rw_secrethall_k05_whole_small_groups).prog 34).name = ("law" : PySem.Str) := by kernel_rfl
      rw [← e]
      exact hmg0
    obtain ⟨fd, hb, hF⟩ := Row.facts (w := w) (most := 63) Row.plain KX G hmg c
    exact ⟨K, KX, L2.DL.lawAt_of (tfs := Row.tfs) KX (fun y hy => c.empty (y, none) (List.mem_map.mpr ⟨y, hy, rfl⟩ : (y, none) ∈ Row.tfs.map fun z => (z, none))) (fun y hy => c.out (y, none) (List.mem_map.mpr ⟨y, hy, rfl⟩ : (y, none) ∈ Row.tfs.map fun z => (z, none))) (fun y hy => c.hd (y, none) (List.mem_map.mpr ⟨y, hy, rfl⟩ : (y, none) ∈ Row.tfs.map fun z => (z, none))) hb hF⟩
