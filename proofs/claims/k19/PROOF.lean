import PyProof.Rows.All
import Wide.All
import OpenK.AllK
import Wide.FinOn
import HandS.ForMost
import HandS.Exc
import HandS.TupAny
import HandS.TupMul
import HandS.Flow
import HandS.Style
import HandS.Deep
import HandS.Lambda
import HandS.HeadHook4
import HandS.Wide
import HandS.Text
import KE.DataEq
import KE.DataAny
import HandS.Conv
import HandS.SortInts
import KE.KTupSum
import KE.DataMinMax
import KE.GoesNew
import KE.GoesMore
import KE.GoesEnum
import HandS.Zip
import HandS.More
import HandS.ExcInit
import HandS.ExcField
import KE.KRevSl
import KE.SortData
import PyProof.TupleOfSeq
import HandS.Set
import PyProof.Rows.SetFrom
import HandS.SetFor
import HandS.Strs
import HandS.Defaults
import HandS.HeadHook1
import HandS.HeadHook2
import HandS.HeadEnd
import HandS.ExcSuper
import KE.KExcSuper
import KE.KSuper
import HandS.HeadWalk
import KE.KNestM
import KE.KStateDown
import HandS.Base
import HandS.Call
import HandS.Ends
import HandS.Words
import HandS.WordsExc
import HandS.Head0
import HandS.Head1
import HandS.Head2
import PySem.Challenge.RW_secrethall_k19_whole_boxes
set_option Elab.async false
set_option linter.all false
set_option maxRecDepth 100000
set_option maxHeartbeats 1000000
/-! D layer 1: values, slots, the state relation. -/
namespace L2.DL
open PySem PySem.Spec PyProof.Rows
/-- the tables of code objects that are told of -/
class TabL where
  T : List (Addr × Str)
variable [TabL]

/-- results of the pure run -/
inductive R (α : Type) where
  | ok (a : α)
  | err (c : Str)
  | stuck
abbrev D := PyData
/-- the draws' list: the script, the place, what is left of the number, the seed -/
structure Dr where
  scr : List Int
  pos : Int
  cur : Int
  seed : Int
/-- what a slot holds: nothing, a value that stands, a list of this def's own that it changes (lk: not now), the draws -/
inductive Sl where
  | no
  | val (d : D)
  | lst (lk : Bool) (xs : List D)
  | drw
  | scr (ns : List Int)
abbrev En := List Sl

/-! a value that reads as data; lists stand at tracked addresses -/
mutual
inductive Dv (K : PySem.W.Frag) (H : Hp) : V → D → Prop
  | non : Dv K H .non .none
  | bl (b : Bool) : Dv K H (.bl b) (.bool b)
  | int (i : Int) : Dv K H (.int i) (.int i)
  | str (x : Str) : Dv K H (.str x) (.str x)
  | lst {a : Addr} {xs : List V} {ds : List D} : H a = some (.lst xs) → DvAll K H xs ds → Dv K H (.ref a) (.list ds)
  | tup {a : Addr} {xs : List V} {ds : List D} : SqT K H a xs → DvAll K H xs ds → Dv K H (.ref a) (.tuple ds)
inductive DvAll (K : PySem.W.Frag) (H : Hp) : List V → List D → Prop
  | nil : DvAll K H [] []
  | cons {v : V} {vs : List V} {d : D} {ds : List D} : Dv K H v d → DvAll K H vs ds → DvAll K H (v :: vs) (d :: ds)
end
mutual
theorem Dv.dp {K : PySem.W.Frag} {H : Hp} : ∀ {v : V} {d : D}, Dv K H v d → Dp K H v d
  | _, _, .non => .non
  | _, _, .bl b => .bl b
  | _, _, .int i => .int i
  | _, _, .str x => .str x
  | _, _, .lst q r => .lst (SqL.of q) (DvAll.dp r)
  | _, _, .tup q r => .tup q (DvAll.dp r)
theorem DvAll.dp {K : PySem.W.Frag} {H : Hp} : ∀ {vs : List V} {ds : List D}, DvAll K H vs ds → DpAll K H vs ds
  | _, _, .nil => .nil
  | _, _, .cons a b => .cons (Dv.dp a) (DvAll.dp b)
end

def Sub (H H' : Hp) : Prop := ∀ b o, H b = some o → H' b = some o
theorem Sub.refl (H : Hp) : Sub H H := fun _ _ h => h
theorem Sub.trans {H H1 H2 : Hp} (a : Sub H H1) (b : Sub H1 H2) : Sub H H2 := fun c o h => b c o (a c o h)
theorem Sub.upd {H : Hp} {p : Addr} {o : HO} (h : H p = none) : Sub H (upd H p o) := fun b x e => by
  rw [upd_ne (ne_of_none e h)]; exact e
theorem Sub.upd2 {H H' : Hp} {p : Addr} {o : HO} (s : Sub H H') (h : H' p = none) : Sub (L2.upd H p o) (L2.upd H' p o) := fun b x e => by
  by_cases hb : b = p
  · subst hb; rw [upd_same] at e; rw [upd_same]; exact e
  · rw [upd_ne hb] at e; rw [upd_ne hb]; exact s _ _ e
theorem Sub.none {H H' : Hp} (s : Sub H H') {p : Addr} (h : H' p = none) : H p = none := by
  cases e : H p with
  | none => rfl
  | some o => rw [s _ _ e] at h; cases h

section
variable {K : PySem.W.Frag} {H H' : Hp}
theorem Sub.rd (s : Sub H H') {a : Addr} {u : HO} (r : Rd H a u) : Rd H' a u := by
  rcases r with r | ⟨o, r⟩
  · exact .inl (s _ _ r)
  · exact .inr ⟨o, s _ _ r⟩
theorem Sub.sqL (s : Sub H H') {a : Addr} {xs : List V} (r : SqL K H a xs) : SqL K H' a xs := by
  rcases r with r | r
  · exact .inl (s.rd r)
  · exact .inr r
theorem Sub.sqT (s : Sub H H') {a : Addr} {xs : List V} (r : SqT K H a xs) : SqT K H' a xs := by
  rcases r with r | r
  · exact .inl (s.rd r)
  · exact .inr r
mutual
theorem Sub.dv (s : Sub H H') : ∀ {v : V} {d : D}, Dv K H v d → Dv K H' v d
  | _, _, .non => .non
  | _, _, .bl b => .bl b
  | _, _, .int i => .int i
  | _, _, .str x => .str x
  | _, _, .lst q r => .lst (s _ _ q) (Sub.dvAll s r)
  | _, _, .tup q r => .tup (s.sqT q) (Sub.dvAll s r)
theorem Sub.dvAll (s : Sub H H') : ∀ {vs : List V} {ds : List D}, DvAll K H vs ds → DvAll K H' vs ds
  | _, _, .nil => .nil
  | _, _, .cons a b => .cons (Sub.dv s a) (Sub.dvAll s b)
end
theorem DvAll.length {vs : List V} {ds : List D} : DvAll K H vs ds → vs.length = ds.length
  | .nil => rfl
  | .cons _ b => by rw [List.length_cons, List.length_cons, DvAll.length b]
theorem DvAll.get : ∀ {vs : List V} {ds : List D} {i : Nat} {d : D}, DvAll K H vs ds → ds[i]? = some d → ∃ v, vs[i]? = some v ∧ Dv K H v d
  | _, _, _, _, .nil, e => by simp at e
  | _, _, 0, _, .cons r _, e => by simp at e; subst e; exact ⟨_, rfl, r⟩
  | _, _, i + 1, d, .cons _ t, e => by
    obtain ⟨u, h1, h2⟩ := DvAll.get (i := i) (d := d) t (by simpa using e)
    exact ⟨u, by simpa using h1, h2⟩
theorem DvAll.getV : ∀ {vs : List V} {ds : List D} {i : Nat} {v : V}, DvAll K H vs ds → vs[i]? = some v → ∃ d, ds[i]? = some d ∧ Dv K H v d
  | _, _, _, _, .nil, e => by simp at e
  | _, _, 0, _, .cons r _, e => by simp at e; subst e; exact ⟨_, rfl, r⟩
  | _, _, i + 1, v, .cons _ t, e => by
    obtain ⟨u, h1, h2⟩ := DvAll.getV (i := i) (v := v) t (by simpa using e)
    exact ⟨u, by simpa using h1, h2⟩
theorem DvAll.append : ∀ {vs ws : List V} {ds es : List D}, DvAll K H vs ds → DvAll K H ws es → DvAll K H (vs ++ ws) (ds ++ es)
  | _, _, _, _, .nil, b => b
  | _, _, _, _, .cons r t, b => .cons r (DvAll.append t b)
theorem DvAll.take : ∀ {vs : List V} {ds : List D} (n : Nat), DvAll K H vs ds → DvAll K H (vs.take n) (ds.take n)
  | _, _, 0, _ => by simp only [List.take_zero]; exact .nil
  | _, _, n + 1, .nil => by simp only [List.take_nil]; exact .nil
  | _, _, n + 1, .cons r t => by simp only [List.take_succ_cons]; exact .cons r (DvAll.take n t)
theorem DvAll.drop : ∀ {vs : List V} {ds : List D} (n : Nat), DvAll K H vs ds → DvAll K H (vs.drop n) (ds.drop n)
  | _, _, 0, r => r
  | _, _, n + 1, .nil => by simp only [List.drop_nil]; exact .nil
  | _, _, n + 1, .cons _ t => DvAll.drop n t
theorem DvAll.set : ∀ {vs : List V} {ds : List D} {v : V} {d : D} (i : Nat), DvAll K H vs ds → Dv K H v d → DvAll K H (vs.set i v) (ds.set i d)
  | _, _, _, _, _, .nil, _ => .nil
  | _, _, _, _, 0, .cons _ t, r => .cons r t
  | _, _, _, _, i + 1, .cons q t, r => .cons q (DvAll.set i t r)
theorem DvAll.eraseIdx : ∀ {vs : List V} {ds : List D} (i : Nat), DvAll K H vs ds → DvAll K H (vs.eraseIdx i) (ds.eraseIdx i)
  | _, _, _, .nil => .nil
  | _, _, 0, .cons _ t => t
  | _, _, i + 1, .cons q t => .cons q (DvAll.eraseIdx i t)
theorem DvAll.reverse : ∀ {vs : List V} {ds : List D}, DvAll K H vs ds → DvAll K H vs.reverse ds.reverse
  | _, _, .nil => .nil
  | _, _, .cons r t => by
    rw [List.reverse_cons, List.reverse_cons]
    exact (DvAll.reverse t).append (.cons r .nil)
theorem DvAll.rep {v : V} {d : D} (r : Dv K H v d) : ∀ n : Nat, DvAll K H (List.replicate n v) (List.replicate n d)
  | 0 => .nil
  | n + 1 => by rw [List.replicate_succ, List.replicate_succ]; exact .cons r (DvAll.rep r n)
theorem DvAll.flat {vs : List V} {ds : List D} (r : DvAll K H vs ds) : ∀ n : Nat, DvAll K H (List.replicate n vs).flatten (List.replicate n ds).flatten
  | 0 => .nil
  | n + 1 => by rw [List.replicate_succ, List.replicate_succ, List.flatten_cons, List.flatten_cons]; exact r.append (DvAll.flat r n)
theorem DvAll.map_int : ∀ {vs : List V} {ns : List Int}, DvAll K H vs (ns.map PyData.int) → vs = ns.map V.int
  | [], [], _ => rfl
  | v :: vs, n :: ns, .cons r t => by
    cases r
    rw [List.map_cons, DvAll.map_int t]
theorem DvAll.ints : ∀ (ns : List Int), DvAll K H (ns.map V.int) (ns.map PyData.int)
  | [] => .nil
  | n :: ns => .cons (.int n) (DvAll.ints ns)
theorem DvAll.map_bl : ∀ {vs : List V} {ns : List Bool}, DvAll K H vs (ns.map PyData.bool) → vs = ns.map V.bl
  | [], [], _ => rfl
  | v :: vs, n :: ns, .cons r t => by
    cases r
    rw [List.map_cons, DvAll.map_bl t]
end

/-- the names of the lambdas in the def x -/
def lamQ (x : Str) : Str := x ++ ".<locals>." ++ "<lambda>"
/-- the tables stand -/
def Tbs (H : Hp) : Prop := LamX.Tabs TabL.T H
/-- not a table of code objects -/
def nT (o : HO) : Prop := ∀ ps, o ≠ .tbl ps
def NoT (H : Hp) : Prop := ∀ b o, H b = some o → nT o
/-- nothing there, or a table -/
def NL (H : Hp) (b : Addr) : Prop := ∀ o, H b = some o → nT o → False
theorem NL.of {H : Hp} {b : Addr} (h : H b = none) : NL H b := fun o e _ => by rw [h] at e; cases e
theorem nT_lst {vs : List V} : nT (.lst vs) := fun _ z => nomatch z
theorem nT_tup {vs : List V} : nT (.tup vs) := fun _ z => nomatch z
theorem NoT.upd {H : Hp} {p : Addr} {o : HO} (h : NoT H) (ho : nT o) : NoT (L2.upd H p o) := fun b x e => by
  by_cases hb : b = p
  · subst hb; rw [upd_same] at e; cases e; exact ho
  · rw [upd_ne hb] at e; exact h b x e
theorem tbs_sub {H H' : Hp} (t : Tbs H) (s : Sub H H') : Tbs H' := fun p hp => (t p hp).ext s
theorem tabS_sub {H H' : Hp} {P : Addr} {q : Str} (t : LamX.TabS H P q) (s : Sub H H') : LamX.TabS H' P q := t.ext s
/-- a list is written -/
theorem tabS_lst {H : Hp} {P p : Addr} {q : Str} {vs ws : List V} (t : LamX.TabS H P q) (h : H p = some (.lst vs)) : LamX.TabS (L2.upd H p (.lst ws)) P q := by
  obtain ⟨ps, h1, h2, h3⟩ := t
  refine ⟨ps, ?_, h2, fun pos cv hc => ?_⟩
  · rw [upd_ne (fun z => by subst z; rw [h1] at h; cases h)]; exact h1
  · obtain ⟨c, e1, e2⟩ := h3 pos cv hc
    refine ⟨c, e1, ?_⟩
    rw [upd_ne (fun z => by subst z; rw [e2] at h; exact nomatch h)]
    exact e2

theorem tbs_lst {H : Hp} {p : Addr} {vs ws : List V} (t : Tbs H) (h : H p = some (.lst vs)) : Tbs (L2.upd H p (.lst ws)) := fun q hq => tabS_lst (t q hq) h
/-- draws at an address -/
def DrAt (K : PySem.W.Frag) (Hc H : Hp) (a : Addr) (s : Dr) : Prop :=
  ∃ b, H a = some (.lst [.ref b, .int s.pos, .int s.cur, .int s.seed]) ∧ Hc b = some (.lst (s.scr.map V.int)) ∧ 0 ≤ s.pos ∧ 0 ≤ s.cur ∧ 0 ≤ s.seed

/-- a slot's value, with the address of what it owns -/
def SlV (K : PySem.W.Frag) (Hc H : Hp) (o : Option (Option V)) (a : Addr) : Sl → Prop
  | .no => True
  | .val d => ∃ v, o = some (some v) ∧ Dv K Hc v d
  | .lst _ xs => ∃ vs, o = some (some (.ref a)) ∧ H a = some (.lst vs) ∧ DvAll K Hc vs xs ∧ Hc a = none
  | .drw => o = some (some (.ref a))
  | .scr ns => ∃ a, o = some (some (.ref a)) ∧ SqL K Hc a (ns.map V.int)
/-- a slot that owns its address -/
def own : Sl → Bool
  | .lst _ _ => true
  | _ => false
/-- the state of a body: ad the addresses owned, Hc what stands, da where the draws are -/
structure ER (K : PySem.W.Frag) (ad : Nat → Addr) (da : Option Addr) (Hc H : Hp) (σ : St) (env : En) (s : Dr) : Prop where
  sub : Sub Hc H
  len : σ.length = env.length
  slot : ∀ i x, env[i]? = some x → SlV K Hc H σ[i]? (ad i) x
  apart : ∀ i j x y, env[i]? = some x → env[j]? = some y → own x = true → own y = true → ad i = ad j → i = j
  drs : ∀ i, env[i]? = some .drw → da = some (ad i)
  drA : ∀ a, da = some a → DrAt K Hc H a s ∧ Hc a = none
  lstNe : ∀ i x, env[i]? = some x → own x = true → da ≠ some (ad i)
  tabs : Tbs H
  noT : NoT Hc

/-- from one moment to a later one: what stood stands, but for the draws at da -/
structure Nx (da : Option Addr) (Hc H Hc' H' : Hp) : Prop where
  sub : Sub Hc Hc'
  fresh : ∀ b o, Hc' b = some o → Hc b = none → NL H b
  keep : ∀ b o, H b = some o → some b ≠ da → nT o → H' b = some o
  there : ∀ b o, H b = some o → nT o → ∃ o', H' b = some o' ∧ nT o'
  tab : Tbs H → Tbs H'
  noT : NoT Hc → NoT Hc'
theorem Nx.refl {da : Option Addr} {Hc H : Hp} : Nx da Hc H Hc H where
  sub := Sub.refl _
  fresh := fun b o e n => by rw [n] at e; cases e
  keep := fun _ _ e _ _ => e
  there := fun _ o e t => ⟨o, e, t⟩
  tab := id
  noT := id
theorem Nx.trans {da : Option Addr} {Hc H Hc1 H1 Hc2 H2 : Hp} (a : Nx da Hc H Hc1 H1) (b : Nx da Hc1 H1 Hc2 H2) : Nx da Hc H Hc2 H2 where
  sub := a.sub.trans b.sub
  fresh := fun c o e n => by
    cases q : Hc1 c with
    | none =>
      intro o2 e2 t2
      obtain ⟨o3, e3, t3⟩ := a.there c o2 e2 t2
      exact b.fresh c o e q o3 e3 t3
    | some o2 => exact a.fresh c o2 q n
  keep := fun c o e n t => b.keep c o (a.keep c o e n t) n t
  there := fun c o e t => by
    obtain ⟨o2, e2, t2⟩ := a.there c o e t
    exact b.there c o2 e2 t2
  tab := fun t => b.tab (a.tab t)
  noT := fun t => b.noT (a.noT t)
/-- a new object that stands -/
theorem Nx.new {da : Option Addr} {Hc H : Hp} {p : Addr} {o : HO} (s : Sub Hc H) (h : H p = none) (ho : nT o := by intro _ z; cases z) : Nx da Hc H (upd Hc p o) (upd H p o) where
  sub := Sub.upd (s.none h)
  fresh := fun b x e n => by
    by_cases hb : b = p
    · subst hb; exact .of h
    · rw [upd_ne hb, n] at e; cases e
  keep := fun b x e _ _ => by rw [upd_ne (ne_of_none e h)]; exact e
  there := fun b x e t => ⟨x, by rw [upd_ne (ne_of_none e h)]; exact e, t⟩
  tab := fun t => tbs_sub t (Sub.upd h)
  noT := fun t => t.upd ho
/-- a new object of no one -/
theorem Nx.lay {da : Option Addr} {Hc H : Hp} {p : Addr} {o : HO} (h : H p = none) : Nx da Hc H Hc (upd H p o) where
  sub := Sub.refl _
  fresh := fun b x e n => by rw [n] at e; cases e
  keep := fun b x e _ _ => by rw [upd_ne (ne_of_none e h)]; exact e
  there := fun b x e t => ⟨x, by rw [upd_ne (ne_of_none e h)]; exact e, t⟩
  tab := fun t => tbs_sub t (Sub.upd h)
  noT := id
/-- a write to what was not there at first -/
theorem Nx.write {da : Option Addr} {Hc H Hc1 H1 : Hp} {p : Addr} {vs ws : List V} (a : Nx da Hc H Hc1 H1) (h : NL H p ∨ some p = da) (hl : H1 p = some (.lst vs)) : Nx da Hc H Hc1 (upd H1 p (.lst ws)) where
  sub := a.sub
  fresh := a.fresh
  keep := fun b x e n t => by
    have hb : b ≠ p := fun z => by
      subst z
      rcases h with h | h
      · exact h _ e t
      · exact n h
    rw [upd_ne hb]; exact a.keep b x e n t
  there := fun b x e t => by
    by_cases hb : b = p
    · subst hb; exact ⟨_, upd_same, nT_lst⟩
    · obtain ⟨o, e2, t2⟩ := a.there b x e t
      exact ⟨o, by rw [upd_ne hb]; exact e2, t2⟩
  tab := fun t => tbs_lst (a.tab t) hl
  noT := a.noT
/-- an owned object stands from now on -/
theorem Nx.freeze {da : Option Addr} {Hc H Hc1 H1 : Hp} {p : Addr} {vs : List V} (a : Nx da Hc H Hc1 H1) (h : NL H p) (h1 : H1 p = some (.lst vs)) (hc : Hc1 p = none) : Nx da Hc H (upd Hc1 p (.lst vs)) H1 where
  sub := fun b x e => by
    rw [upd_ne (fun z => by subst z; rw [a.sub _ _ e] at hc; cases hc)]; exact a.sub _ _ e
  fresh := fun b x e n => by
    by_cases hb : b = p
    · subst hb; exact h
    · rw [upd_ne hb] at e; exact a.fresh b x e n
  keep := a.keep
  there := a.there
  tab := a.tab
  noT := fun t => (a.noT t).upd nT_lst

section
variable {K : PySem.W.Frag} {ad : Nat → Addr} {Hc H Hc' H' : Hp} {σ : St} {env : En} {s : Dr} {da : Option Addr}
theorem DrAt.sub (h : DrAt K Hc H a s) (hc : Sub Hc Hc') (hk : H' a = H a) : DrAt K Hc' H' a s := by
  obtain ⟨b, h2, h3, h5⟩ := h
  exact ⟨b, hk.trans h2, hc _ _ h3, h5⟩
/-- what stands and what is owned goes on -/
theorem ER.grow (e : ER K ad da Hc H σ env s) (hs : Sub Hc' H') (hc : Sub Hc Hc') (hf : ∀ b o, Hc' b = some o → Hc b = none → NL H b) (hk : ∀ b vs, H b = some (.lst vs) → Hc b = none → H' b = some (.lst vs)) (ht : Tbs H → Tbs H') (hn : NoT Hc → NoT Hc') : ER K ad da Hc' H' σ env s where
  sub := hs
  len := e.len
  slot := fun i x hx => by
    have h := e.slot i x hx
    cases x with
    | no => trivial
    | val d =>
      obtain ⟨v, h1, h2⟩ := h
      exact ⟨v, h1, hc.dv h2⟩
    | lst lk xs =>
      obtain ⟨vs, h1, h2, h3, h4⟩ := h
      refine ⟨vs, h1, hk _ _ h2 h4, hc.dvAll h3, ?_⟩
      cases q : Hc' (ad i) with
      | none => rfl
      | some o => exact (hf _ _ q h4 _ h2 nT_lst).elim
    | drw => exact h
    | scr ns =>
      obtain ⟨a, h1, h2⟩ := h
      exact ⟨a, h1, hc.sqL h2⟩
  apart := e.apart
  drs := e.drs
  drA := fun a h => by
    obtain ⟨h1, h2⟩ := e.drA a h
    obtain ⟨b, h3, _⟩ := id h1
    refine ⟨h1.sub hc ((hk _ _ h3 h2).trans h3.symm), ?_⟩
    cases q : Hc' a with
    | none => rfl
    | some o => exact (hf _ _ q h2 _ h3 nT_lst).elim
  lstNe := e.lstNe
  tabs := ht e.tabs
  noT := hn e.noT
theorem ER.there (e : ER K ad da Hc H σ env s) {i : Nat} {x : Sl} (hx : env[i]? = some x) (ho : own x = true) : ∃ vs, H (ad i) = some (.lst vs) ∧ Hc (ad i) = none := by
  have h := e.slot i x hx
  cases x with
  | no => cases ho
  | val d => cases ho
  | lst lk xs => obtain ⟨vs, _, h2, _, h4⟩ := h; exact ⟨_, h2, h4⟩
  | drw => cases ho
  | scr ns => cases ho
/-- a new object that stands -/
theorem ER.new (e : ER K ad da Hc H σ env s) {p : Addr} {o : HO} (h : H p = none) (ho : nT o := by intro _ z; cases z) : ER K ad da (upd Hc p o) (upd H p o) σ env s :=
  e.grow (e.sub.upd2 h) (Sub.upd (e.sub.none h)) (fun b x q n => (Nx.new (da := none) e.sub h ho).fresh b x q n) (fun b vs h1 _ => by
    rw [upd_ne (ne_of_none h1 h)]; exact h1) (fun t => tbs_sub t (Sub.upd h)) fun t => t.upd ho
theorem ER.lay (e : ER K ad da Hc H σ env s) {p : Addr} {o : HO} (h : H p = none) : ER K ad da Hc (upd H p o) σ env s :=
  e.grow (e.sub.trans (Sub.upd h)) (Sub.refl _) (fun b x q n => by rw [n] at q; cases q) (fun b vs h1 _ => by
    rw [upd_ne (ne_of_none h1 h)]; exact h1) (fun t => tbs_sub t (Sub.upd h)) id
/-- behind what lies between two moments: another frame's work -/
theorem ER.nx (e : ER K ad da Hc H σ env s) (n : Nx da Hc H Hc' H') (hs : Sub Hc' H') (hd : ∀ a, da = some a → DrAt K Hc' H' a s' ∧ Hc' a = none) : ER K ad da Hc' H' σ env s' where
  sub := hs
  len := e.len
  slot := fun i x hx => by
    have h := e.slot i x hx
    cases x with
    | no => trivial
    | val d =>
      obtain ⟨v, h1, h2⟩ := h
      exact ⟨v, h1, n.sub.dv h2⟩
    | lst lk xs =>
      obtain ⟨vs, h1, h2, h3, h4⟩ := h
      refine ⟨vs, h1, n.keep _ _ h2 (fun z => e.lstNe i _ hx rfl z.symm) nT_lst, n.sub.dvAll h3, ?_⟩
      cases q : Hc' (ad i) with
      | none => rfl
      | some o => exact (n.fresh _ _ q h4 _ h2 nT_lst).elim
    | drw => exact h
    | scr ns =>
      obtain ⟨a, h1, h2⟩ := h
      exact ⟨a, h1, n.sub.sqL h2⟩
  apart := e.apart
  drs := e.drs
  drA := hd
  lstNe := e.lstNe
  tabs := n.tab e.tabs
  noT := n.noT e.noT
/-- an object of no slot stands from now on -/
theorem ER.join (e : ER K ad da Hc H σ env s) {p : Addr} {o : HO} (hp : H p = some o) (ho : nT o) (hn : ∀ i x, env[i]? = some x → own x = true → ad i ≠ p) (hd : da ≠ some p) (hc : Hc p = none) : ER K ad da (upd Hc p o) H σ env s where
  sub := fun b x h => by
    by_cases hb : b = p
    · subst hb; rw [upd_same] at h; rw [hp]; exact h
    · rw [upd_ne hb] at h; exact e.sub _ _ h
  len := e.len
  slot := fun i x hx => by
    have h := e.slot i x hx
    cases x with
    | no => trivial
    | val d =>
      obtain ⟨v, h1, h2⟩ := h
      exact ⟨v, h1, (Sub.upd hc).dv h2⟩
    | lst lk xs =>
      obtain ⟨vs, h1, h2, h3, h4⟩ := h
      exact ⟨vs, h1, h2, (Sub.upd hc).dvAll h3, by rw [upd_ne (hn i _ hx rfl)]; exact h4⟩
    | drw => exact h
    | scr ns =>
      obtain ⟨a, h1, h2⟩ := h
      exact ⟨a, h1, (Sub.upd hc).sqL h2⟩
  apart := e.apart
  drs := e.drs
  drA := fun a h => by
    obtain ⟨h1, h2⟩ := e.drA a h
    exact ⟨h1.sub (Sub.upd hc) rfl, by rw [upd_ne (fun z => hd (by rw [h, z]))]; exact h2⟩
  lstNe := e.lstNe
  tabs := e.tabs
  noT := e.noT.upd ho
end
end L2.DL

set_option Elab.async false
set_option linter.all false
set_option maxRecDepth 100000
set_option maxHeartbeats 1000000
/-! D layer 2: judgements, expressions. -/
namespace L2.DL
open PySem PySem.Spec PyProof.Rows
variable [TabL]

def R.bind {α β : Type} (r : R α) (f : α → R β) : R β := match r with
  | .ok a => f a
  | .err c => .err c
  | .stuck => .stuck
def R.ofO {α : Type} : Option α → R α
  | some a => .ok a
  | none => .stuck
abbrev Ev (α : Type) := En → Dr → R (α × Dr)

theorem Nx.weak {da : Option Addr} {Hc H Hc' H' : Hp} (a : Nx da Hc H Hc' H') : Nx da Hc H Hc H' :=
  ⟨Sub.refl _, fun b o e n => (by rw [n] at e; cases e), a.keep, a.there, a.tab, id⟩

/-- what is wanted behind a pure result -/
def Post {α β : Type} (K : PySem.W.Frag) (E : XK) (C : Addr) (ad : Nat → Addr) (da : Option Addr) (Hc H : Hp) (σ : St) (env : En) (P : Hp → Hp → β → α → Prop) (Q : β → Hp → Prop) : R (α × Dr) → Prop
  | .ok (d, s') => ∀ v Hc' H', Nx da Hc H Hc' H' → ER K ad da Hc' H' σ env s' → P Hc' H' v d → Q v H'
  | .err c => ∀ dx H', Nx da Hc H Hc H' → H' dx = some (.xd [(("code" : Str), .str c)]) → E (.ref C) (some dx) H'
  | .stuck => False
section
variable {α β γ δ : Type} {K : PySem.W.Frag} {E : XK} {C : Addr} {ad : Nat → Addr} {da : Option Addr} {Hc H Hc1 H1 : Hp} {σ : St} {env : En} {P : Hp → Hp → β → α → Prop} {P1 : Hp → Hp → δ → γ → Prop} {Q : β → Hp → Prop} {R1 : δ → Hp → Prop}
theorem Post.shift {r : R (α × Dr)} (h : Post K E C ad da Hc H σ env P Q r) (n : Nx da Hc H Hc1 H1) : Post K E C ad da Hc1 H1 σ env P Q r := by
  cases r with
  | ok p => exact fun v Hc' H' m e q => h v Hc' H' (n.trans m) e q
  | err c => exact fun dx H' m q => h dx H' (n.trans m).weak q
  | stuck => exact h
theorem Post.bind {r : R (γ × Dr)} {f : γ × Dr → R (α × Dr)} (h : Post K E C ad da Hc H σ env P Q (r.bind f))
    (k : ∀ d s1, r = .ok (d, s1) → ∀ v Hc1 H1, Nx da Hc H Hc1 H1 → ER K ad da Hc1 H1 σ env s1 → P1 Hc1 H1 v d → Post K E C ad da Hc1 H1 σ env P Q (f (d, s1)) → R1 v H1) : Post K E C ad da Hc H σ env P1 R1 r := by
  cases r with
  | ok p => exact fun v Hc' H' m e q => k p.1 p.2 rfl v Hc' H' m e q (Post.shift (r := f p) h m)
  | err c => exact h
  | stuck => exact h
theorem Post.imp {r : R (α × Dr)} {P' : Hp → Hp → β → α → Prop} (h : Post K E C ad da Hc H σ env P Q r) (k : ∀ Hc H v d, P' Hc H v d → P Hc H v d) : Post K E C ad da Hc H σ env P' Q r := by
  cases r with
  | ok p => exact fun v Hc' H' m e q => h v Hc' H' m e (k _ _ _ _ q)
  | err c => exact h
  | stuck => exact h
end

/-- a value looked at: it stands, or it is an owned list -/
def PkV (K : PySem.W.Frag) (ad : Nat → Addr) (env : En) (Hc : Hp) (v : V) (d : D) : Prop :=
  Dv K Hc v d ∨ ∃ i lk xs, env[i]? = some (.lst lk xs) ∧ d = .list xs ∧ v = .ref (ad i)
def Pk (K : PySem.W.Frag) (Hc H : Hp) (v : V) (d : D) : Prop :=
  Dv K Hc v d ∨ ∃ a vs xs, v = .ref a ∧ d = .list xs ∧ H a = some (.lst vs) ∧ DvAll K Hc vs xs
def All2 {α β : Type} (P : α → β → Prop) : List α → List β → Prop
  | [], [] => True
  | a :: as, b :: bs => P a b ∧ All2 P as bs
  | _, _ => False
theorem All2.length {α β : Type} {P : α → β → Prop} : ∀ {as : List α} {bs : List β}, All2 P as bs → as.length = bs.length
  | [], [], _ => rfl
  | _ :: as, _ :: bs, h => by rw [List.length_cons, List.length_cons, All2.length h.2]
theorem All2.imp {α β : Type} {P P' : α → β → Prop} (k : ∀ a b, P a b → P' a b) : ∀ {as : List α} {bs : List β}, All2 P as bs → All2 P' as bs
  | [], [], _ => trivial
  | _ :: as, _ :: bs, h => ⟨k _ _ h.1, All2.imp k h.2⟩
theorem All2.get {α β : Type} {P : α → β → Prop} : ∀ {as : List α} {bs : List β} {i : Nat} {b : β}, All2 P as bs → bs[i]? = some b → ∃ a, as[i]? = some a ∧ P a b
  | [], [], i, b, _, e => by simp at e
  | a :: as, c :: bs, 0, b, h, e => by simp at e; subst e; exact ⟨a, rfl, h.1⟩
  | a :: as, c :: bs, i + 1, b, h, e => by
    obtain ⟨x, h1, h2⟩ := All2.get (i := i) h.2 (by simpa using e)
    exact ⟨x, by simpa using h1, h2⟩

section
variable {K : PySem.W.Frag} {ad : Nat → Addr} {da : Option Addr} {Hc H Hc1 H1 : Hp} {σ : St} {env : En} {s : Dr} {v : V} {d : D}
theorem PkV.sub (h : PkV K ad env Hc v d) (u : Sub Hc Hc1) : PkV K ad env Hc1 v d := h.imp (u.dv ·) id
theorem PkV.pk (h : PkV K ad env Hc v d) (e : ER K ad da Hc H σ env s) : Pk K Hc H v d := by
  rcases h with h | ⟨i, lk, xs, h1, rfl, rfl⟩
  · exact .inl h
  · obtain ⟨vs, _, h2, h3, _⟩ := e.slot i _ h1
    exact .inr ⟨_, vs, xs, rfl, rfl, h2, h3⟩
theorem Pk.dv (h : Pk K Hc H v d) (u : Sub Hc H) : Dv K H v d := by
  rcases h with h | ⟨a, vs, xs, rfl, rfl, h1, h2⟩
  · exact u.dv h
  · exact .lst h1 (u.dvAll h2)
theorem Pk.list {xs : List D} (h : Pk K Hc H v (.list xs)) (u : Sub Hc H) : ∃ a vs, v = .ref a ∧ H a = some (.lst vs) ∧ DvAll K Hc vs xs := by
  rcases h with h | ⟨a, vs, ys, rfl, e, h1, h2⟩
  · cases h with
    | lst q r => exact ⟨_, _, rfl, u _ _ q, r⟩
  · cases e
    exact ⟨a, vs, rfl, h1, h2⟩
theorem Pk.tuple {xs : List D} (h : Pk K Hc H v (.tuple xs)) (u : Sub Hc H) : ∃ a vs, v = .ref a ∧ SqT K H a vs ∧ DvAll K Hc vs xs := by
  rcases h with h | ⟨a, vs, ys, rfl, e, h1, h2⟩
  · cases h with
    | tup q r => exact ⟨_, _, rfl, u.sqT q, r⟩
  · cases e
theorem Pk.int {i : Int} (h : Pk K Hc H v (.int i)) : v = .int i := by
  rcases h with h | ⟨a, vs, ys, rfl, e, h1, h2⟩
  · cases h; rfl
  · cases e
theorem Pk.bool {i : Bool} (h : Pk K Hc H v (.bool i)) : v = .bl i := by
  rcases h with h | ⟨a, vs, ys, rfl, e, h1, h2⟩
  · cases h; rfl
  · cases e
theorem Pk.str {i : Str} (h : Pk K Hc H v (.str i)) : v = .str i := by
  rcases h with h | ⟨a, vs, ys, rfl, e, h1, h2⟩
  · cases h; rfl
  · cases e
theorem Pk.none (h : Pk K Hc H v .none) : v = .non := by
  rcases h with h | ⟨a, vs, ys, rfl, e, h1, h2⟩
  · cases h; rfl
  · cases e
theorem Pk.shut (h : Pk K Hc H v d) (n : ∀ xs, d ≠ .list xs) : Dv K Hc v d := by
  rcases h with h | ⟨a, vs, ys, rfl, e, h1, h2⟩
  · exact h
  · exact absurd e (n ys)
theorem Pk.dict {kvs : List (D × D)} (h : Pk K Hc H v (.dict kvs)) : False := by
  rcases h with h | ⟨a, vs, ys, rfl, e, h1, h2⟩
  · cases h
  · cases e
end

/-- things are made, nothing else changes -/
structure Al (Hc H Hc' H' : Hp) : Prop where
  sub : Sub Hc Hc'
  subH : Sub H H'
  sc : Sub Hc' H'
  fresh : ∀ b o, Hc' b = some o → Hc b = none → H b = none
  noT : NoT Hc → NoT Hc'
theorem Al.refl {Hc H : Hp} (s : Sub Hc H) : Al Hc H Hc H := ⟨Sub.refl _, Sub.refl _, s, (fun b o e n => by rw [n] at e; cases e), id⟩
theorem Al.new {Hc H : Hp} {p : Addr} {o : HO} (s : Sub Hc H) (h : H p = none) (ho : nT o := by intro _ z; cases z) : Al Hc H (upd Hc p o) (upd H p o) :=
  ⟨Sub.upd (s.none h), Sub.upd h, s.upd2 h, (fun b x e n => by
    by_cases hb : b = p
    · subst hb; exact h
    · rw [upd_ne hb, n] at e; cases e), fun t => t.upd ho⟩
theorem Al.trans {Hc H Hc1 H1 Hc2 H2 : Hp} (a : Al Hc H Hc1 H1) (b : Al Hc1 H1 Hc2 H2) : Al Hc H Hc2 H2 :=
  ⟨a.sub.trans b.sub, a.subH.trans b.subH, b.sc, (fun c o e n => by
    cases q : Hc1 c with
    | none => exact a.subH.none (b.fresh c o e q)
    | some o2 => exact a.fresh c o2 q n), fun t => b.noT (a.noT t)⟩
theorem Al.nx {da : Option Addr} {Hc H Hc1 H1 : Hp} (a : Al Hc H Hc1 H1) : Nx da Hc H Hc1 H1 :=
  ⟨a.sub, (fun b o e n => .of (a.fresh b o e n)), fun b o e _ _ => a.subH b o e, (fun b o e t => ⟨o, a.subH b o e, t⟩), fun t => tbs_sub t a.subH, a.noT⟩
theorem Al.er {K : PySem.W.Frag} {ad : Nat → Addr} {da : Option Addr} {Hc H Hc1 H1 : Hp} {σ : St} {env : En} {s : Dr} (a : Al Hc H Hc1 H1) (e : ER K ad da Hc H σ env s) : ER K ad da Hc1 H1 σ env s :=
  e.grow a.sc a.sub (fun b o e n => .of (a.fresh b o e n)) (fun b o h1 _ => a.subH _ _ h1) (fun t => tbs_sub t a.subH) a.noT

/-! ### judgements -/
section
variable (X : Cx) (E : XK) (C : Addr)
abbrev PostX {α β : Type} (ad : Nat → Addr) (da : Option Addr) (Hc H : Hp) (σ : St) (env : En) (P : Hp → Hp → β → α → Prop) (Q : β → Hp → Prop) (r : R (α × Dr)) : Prop := Post X.K E C ad da Hc H σ env P Q r
def Reads1 {α β T : Type} (t : St → Hp → (β → Hp → Prop) → Prop) (P : (Nat → Addr) → En → Hp → Hp → Hp → β → α → Prop) (f : Ev α) : Prop :=
  ∀ (ad : Nat → Addr) (da : Option Addr) (Hc H : Hp) (σ : St) (env : En) (s : Dr) (Q : β → Hp → Prop), ER X.K ad da Hc H σ env s → PostX X E C ad da Hc H σ env (P ad env H) Q (f env s) → t σ H Q
/-- an expression; looked at only; a test; arguments looked at -/
def DE (e : Expr) (f : Ev D) : Prop := ∃ t : TE, PE X e t ∧ Reads1 X E C (T := Unit) t (fun _ _ _ Hc _ v d => Dv X.K Hc v d) f
def DK (e : Expr) (f : Ev D) : Prop := ∃ t : TE, PE X e t ∧ Reads1 X E C (T := Unit) t (fun ad env _ Hc _ v d => PkV X.K ad env Hc v d) f
def DT (e : Expr) (f : Ev Bool) : Prop := ∃ t : TT, PT X e t ∧ Reads1 X E C (T := Unit) t (fun _ _ _ _ _ (b c : Bool) => b = c) f
def DAK (es : List Expr) (f : Ev (List D)) : Prop := ∃ t : TA, PA X es t ∧ Reads1 X E C (T := Unit) t (fun ad env _ Hc _ vs ds => All2 (PkV X.K ad env Hc) vs ds) f
def DAE (es : List Expr) (f : Ev (List D)) : Prop := ∃ t : TA, PA X es t ∧ Reads1 X E C (T := Unit) t (fun _ _ _ Hc _ vs ds => DvAll X.K Hc vs ds) f
end
section
variable {X : Cx} {E : XK} {C : Addr} {e a b : Expr} {es : List Expr} {pos : Pos}
theorem DE.dk {f : Ev D} (h : DE X E C e f) : DK X E C e f := by
  obtain ⟨t, p, r⟩ := h
  exact ⟨t, p, fun ad da Hc H σ env s Q er q => r ad da Hc H σ env s Q er (q.imp fun _ _ _ _ z => .inl z)⟩

/-! ### names, constants -/
def evVar (i : Nat) : Ev D := fun env s => match env[i]? with
  | some (.val d) => .ok (d, s)
  | _ => .stuck
def evPk (i : Nat) : Ev D := fun env s => match env[i]? with
  | some (.val d) => .ok (d, s)
  | some (.lst _ xs) => .ok (.list xs, s)
  | _ => .stuck
theorem de_var {i : Nat} {x : Str} (hN : X.N[i]? = some x) (hv : Vis X.env.scope x) (hd : (x == ("__debug__" : Str)) = false) (hcd : (x == ("__classdict__" : Str)) = false) : DE X E C (.Name x pos) (evVar i) := by
  refine ⟨tVar i, pe_var hN hv hd hcd, fun ad da Hc H σ env s Q er q => ?_⟩
  unfold evVar at q
  cases hx : env[i]? with
  | none => rw [hx] at q; exact q.elim
  | some x =>
    rw [hx] at q
    cases x with
    | val d =>
      obtain ⟨v, h1, h2⟩ := er.slot i _ hx
      exact ⟨v, h1, q v Hc H Nx.refl er h2⟩
    | no => exact q.elim
    | lst lk xs => exact q.elim
    | drw => exact q.elim
    | scr ns => exact q.elim
theorem dk_var {i : Nat} {x : Str} (hN : X.N[i]? = some x) (hv : Vis X.env.scope x) (hd : (x == ("__debug__" : Str)) = false) (hcd : (x == ("__classdict__" : Str)) = false) : DK X E C (.Name x pos) (evPk i) := by
  refine ⟨tVar i, pe_var hN hv hd hcd, fun ad da Hc H σ env s Q er q => ?_⟩
  unfold evPk at q
  cases hx : env[i]? with
  | none => rw [hx] at q; exact q.elim
  | some x =>
    rw [hx] at q
    cases x with
    | val d =>
      obtain ⟨v, h1, h2⟩ := er.slot i _ hx
      exact ⟨v, h1, q v Hc H Nx.refl er (.inl h2)⟩
    | no => exact q.elim
    | lst lk xs =>
      obtain ⟨vs, h1, h2, h3, h4⟩ := er.slot i _ hx
      exact ⟨_, h1, q _ Hc H Nx.refl er (.inr ⟨i, lk, xs, hx, rfl, rfl⟩)⟩
    | drw => exact q.elim
    | scr ns => exact q.elim
def evC (d : D) : Ev D := fun _ s => .ok (d, s)
theorem de_c {v : V} {d : D} (hp : PE X e (tC v)) (hd : ∀ H, Dv X.K H v d) : DE X E C e (evC d) :=
  ⟨tC v, hp, fun ad da Hc H σ env s Q er q => q v Hc H Nx.refl er (hd Hc)⟩

/-! ### two operands -/
def OpD (K : PySem.W.Frag) (r : R2) (g : D → D → Option D) : Prop :=
  ∀ (Hc H : Hp) (x y : V) (d e z : D) (Q : VK), Sub Hc H → Pk K Hc H x d → Pk K Hc H y e → g d e = some z → (∀ v Hc' H', Al Hc H Hc' H' → Dv K Hc' v z → Q v H') → r x y H Q
def ev2 (g : D → D → Option D) (fa fb : Ev D) : Ev D := fun env s => (fa env s).bind fun p => (fb env p.2).bind fun q => (R.ofO (g p.1 q.1)).bind fun z => .ok (z, q.2)
theorem op2 {r : R2} {g : D → D → Option D} {fa fb : Ev D} {ta tb : TE} (hr : OpD X.K r g) (ra : Reads1 X E C (T := Unit) ta (fun ad env _ Hc _ v d => PkV X.K ad env Hc v d) fa)
    (rb : Reads1 X E C (T := Unit) tb (fun ad env _ Hc _ v d => PkV X.K ad env Hc v d) fb) : Reads1 X E C (T := Unit) (tOp r ta tb) (fun _ _ _ Hc _ v d => Dv X.K Hc v d) (ev2 g fa fb) := fun ad da Hc H σ env s Q er q => by
  refine ra ad da Hc H σ env s _ er (Post.bind q fun d s1 _ v Hc1 H1 n1 e1 p1 q1 => ?_)
  refine rb ad da Hc1 H1 σ env s1 _ e1 (Post.bind q1 fun d2 s2 _ v2 Hc2 H2 n2 e2 p2 q2 => ?_)
  cases hg : g d d2 with
  | none => rw [hg] at q2; exact q2.elim
  | some z =>
    rw [hg] at q2
    exact hr Hc2 H2 v v2 d d2 z Q e2.sub ((p1.sub n2.sub).pk e2) (p2.pk e2) hg fun v' Hc' H' al hd => q2 v' Hc' H' al.nx (al.er e2) hd
theorem de_bin {op : Operator} {r : R2} {g : D → D → Option D} {fa fb : Ev D} (ho : OpR X (binaryOp op) r) (hr : OpD X.K r g) (ha : DK X E C a fa) (hb : DK X E C b fb) : DE X E C (.BinOp a op b pos) (ev2 g fa fb) := by
  obtain ⟨ta, pa, ra⟩ := ha
  obtain ⟨tb, pb, rb⟩ := hb
  exact ⟨_, pe_op ho pa pb, op2 hr ra rb⟩
theorem de_cmp {op : CmpOp} {r : R2} {g : D → D → Option D} {fa fb : Ev D} (ho : OpR X (compareOp op) r) (hr : OpD X.K r g) (hm : behindInMarks op b = false) (ha : DK X E C a fa) (hb : DK X E C b fb) : DE X E C (.Compare a [op] [b] pos) (ev2 g fa fb) := by
  obtain ⟨ta, pa, ra⟩ := ha
  obtain ⟨tb, pb, rb⟩ := hb
  exact ⟨_, pe_cmpR ho pa pb hm, op2 hr ra rb⟩
/-- a truth value as a test -/
def evB (f : Ev D) : Ev Bool := fun env s => (f env s).bind fun p => match p.1 with
  | .bool b => .ok (b, p.2)
  | _ => .stuck
theorem dt_cmp {op : CmpOp} {r : R2} {g : D → D → Option D} {fa fb : Ev D} (ho : OpR X (compareOp op) r) (hr : OpD X.K r g) (hm : behindInMarks op b = false) (ha : DK X E C a fa) (hb : DK X E C b fb) : DT X E C (.Compare a [op] [b] pos) (evB (ev2 g fa fb)) := by
  obtain ⟨ta, pa, ra⟩ := ha
  obtain ⟨tb, pb, rb⟩ := hb
  refine ⟨_, pt_cmpR ho pa pb hm, fun ad da Hc H σ env s Q er q => ?_⟩
  refine op2 hr ra rb ad da Hc H σ env s _ er (Post.bind q fun d s1 _ v Hc1 H1 n1 e1 p1 q1 => ?_)
  cases d with
  | bool k =>
    cases p1
    exact ⟨k, rfl, q1 k Hc1 H1 Nx.refl e1 rfl⟩
  | none => exact q1.elim
  | int _ => exact q1.elim
  | str _ => exact q1.elim
  | list _ => exact q1.elim
  | tuple _ => exact q1.elim
  | dict _ => exact q1.elim
/-- a ∘ b ∘' c -/
def evCh (g g' : D → D → Option D) (fa fb fc : Ev D) : Ev D := fun env s => (fa env s).bind fun p => (fb env p.2).bind fun q => match g p.1 q.1 with
  | some (.bool true) => (fc env q.2).bind fun u => (R.ofO (g' q.1 u.1)).bind fun z => .ok (z, u.2)
  | some (.bool false) => .ok (.bool false, q.2)
  | _ => .stuck
end
end L2.DL

set_option Elab.async false
set_option linter.all false
set_option maxRecDepth 100000
set_option maxHeartbeats 1000000
/-! D layer 3: operators on data. -/
namespace L2.DL
open PySem PySem.Spec PyProof.Rows
variable [TabL]

/-- n together is no more than a line -/
def fitB (n : Nat) : Bool := Nat.ble n 16777216
theorem fitB_le {n : Nat} (h : fitB n = true) : n ≤ sizeLine := by rw [sizeLine_eq]; exact Nat.le_of_ble_eq_true h
/-- no dict within, no deeper than n -/
def dep : Nat → D → Bool
  | _, .none => true
  | _, .bool _ => true
  | _, .int _ => true
  | _, .str _ => true
  | n + 1, .list xs => xs.all (dep n)
  | n + 1, .tuple xs => xs.all (dep n)
  | _, _ => false
theorem dep_all {n : Nat} (ih : ∀ d, dep n d = true → d.plain = true ∧ d.depth ≤ n) : ∀ xs : List D, xs.all (dep n) = true → PyData.plainAll xs = true ∧ PyData.depthAll xs ≤ n
  | [], _ => ⟨rfl, Nat.zero_le _⟩
  | x :: xs, h => by
    rw [List.all_cons, Bool.and_eq_true] at h
    obtain ⟨h1, h2⟩ := ih x h.1
    obtain ⟨h3, h4⟩ := dep_all ih xs h.2
    refine ⟨by rw [PyData.plainAll, h1, h3]; rfl, by rw [PyData.depthAll]; exact Nat.max_le.mpr ⟨h2, h4⟩⟩
theorem dep_ok : ∀ (n : Nat) (d : D), dep n d = true → d.plain = true ∧ d.depth ≤ n
  | n, .none, _ => ⟨rfl, Nat.zero_le _⟩
  | n, .bool _, _ => ⟨rfl, Nat.zero_le _⟩
  | n, .int _, _ => ⟨rfl, Nat.zero_le _⟩
  | n, .str _, _ => ⟨rfl, Nat.zero_le _⟩
  | n + 1, .list xs, h => by
    obtain ⟨h1, h2⟩ := dep_all (dep_ok n) xs (by rw [dep] at h; exact h)
    refine ⟨by rw [PyData.plain]; exact h1, by rw [PyData.depth]; omega⟩
  | n + 1, .tuple xs, h => by
    obtain ⟨h1, h2⟩ := dep_all (dep_ok n) xs (by rw [dep] at h; exact h)
    refine ⟨by rw [PyData.plain]; exact h1, by rw [PyData.depth]; omega⟩
  | 0, .list _, h => by simp [dep] at h
  | 0, .tuple _, h => by simp [dep] at h
  | 0, .dict _, h => by simp [dep] at h
  | n + 1, .dict _, h => by simp [dep] at h
def DEP : Nat := 40

/-! ### rules of our own -/
section
variable {X : Cx}
def rEqP (K : PySem.W.Frag) : R2 := fun x y H Q => ∃ d e, Dp K H x d ∧ Dp K H y e ∧ dep 40 d = true ∧ dep 40 e = true ∧ Q (.bl (PyData.eqv d e)) H
def rNeP (K : PySem.W.Frag) : R2 := fun x y H Q => ∃ d e, Dp K H x d ∧ Dp K H y e ∧ dep 40 d = true ∧ dep 40 e = true ∧ Q (.bl (!PyData.eqv d e)) H
theorem room_min {u a b : Nat} (hu : u + 64 < cLine) (h : a ≤ 40) : u + min a b < cLine := by
  have := Nat.min_le_left a b
  omega
theorem op_eqP (hu : X.A.units + 64 < cLine) : OpR X (compareOp .Eq) (rEqP X.K) := by
  intro pins s σ H x y v u Q I rx ry h
  obtain ⟨d, e, hd, he, pd, pe, q⟩ := h
  obtain ⟨as, r1⟩ := Dp.reads I d x v hd rx
  obtain ⟨bs, r2⟩ := Dp.reads I e y u he ry
  exact SeqAt.eq_plain r1 r2 (dep_ok _ _ pd).1 (dep_ok _ _ pe).1 (room_min hu (dep_ok _ _ pd).2) ⟨.bl _, H, I, rfl, q⟩
theorem op_neP (hu : X.A.units + 64 < cLine) : OpR X (compareOp .NotEq) (rNeP X.K) := by
  intro pins s σ H x y v u Q I rx ry h
  obtain ⟨d, e, hd, he, pd, pe, q⟩ := h
  obtain ⟨as, r1⟩ := Dp.reads I d x v hd rx
  obtain ⟨bs, r2⟩ := Dp.reads I e y u he ry
  exact SeqAt.ne_plain r1 r2 (dep_ok _ _ pd).1 (dep_ok _ _ pe).1 (room_min hu (dep_ok _ _ pd).2) ⟨.bl _, H, I, rfl, q⟩
def rInP (K : PySem.W.Frag) (neg : Bool) : R2 := fun x y H Q => ∃ d ds, Dp K H x d ∧ (Dp K H y (.list ds) ∨ Dp K H y (.tuple ds)) ∧ dep 40 d = true ∧ dep 40 (.list ds) = true ∧ Q (.bl (if neg then !(ds.any fun z => PyData.eqv z d) else ds.any fun z => PyData.eqv z d)) H
theorem op_inP (hu : X.A.units + 64 < cLine) : OpR X (compareOp .In) (rInP X.K false) := by
  intro pins s σ H x y v u Q I rx ry h
  obtain ⟨d, ds, hd, he, pd, pe, q⟩ := h
  obtain ⟨as, r1⟩ := Dp.reads I d x v hd rx
  have hp : PyData.plainAll ds = true := by have := (dep_ok _ _ pe).1; rwa [PyData.plain] at this
  have hr : X.A.units + 1 + min (PyData.depthAll ds) d.depth < cLine := by
    have h1 := (dep_ok _ _ pd).2
    have h2 := Nat.min_le_right (PyData.depthAll ds) d.depth
    omega
  rcases he with he | he
  · obtain ⟨bs, r2⟩ := Dp.reads I _ y u he ry
    exact SeqAt.in_list_data r2 r1 hp (dep_ok _ _ pd).1 hr ⟨.bl _, H, I, rfl, q⟩
  · obtain ⟨bs, r2⟩ := Dp.reads I _ y u he ry
    exact SeqAt.in_tuple_data r2 r1 hp (dep_ok _ _ pd).1 hr ⟨.bl _, H, I, rfl, q⟩
theorem op_notInP (hu : X.A.units + 64 < cLine) : OpR X (compareOp .NotIn) (rInP X.K true) := by
  intro pins s σ H x y v u Q I rx ry h
  obtain ⟨d, ds, hd, he, pd, pe, q⟩ := h
  obtain ⟨as, r1⟩ := Dp.reads I d x v hd rx
  have hp : PyData.plainAll ds = true := by have := (dep_ok _ _ pe).1; rwa [PyData.plain] at this
  have hr : X.A.units + 1 + min (PyData.depthAll ds) d.depth < cLine := by
    have h1 := (dep_ok _ _ pd).2
    have h2 := Nat.min_le_right (PyData.depthAll ds) d.depth
    omega
  rcases he with he | he
  · obtain ⟨bs, r2⟩ := Dp.reads I _ y u he ry
    exact SeqAt.notIn_list_data r2 r1 hp (dep_ok _ _ pd).1 hr ⟨.bl _, H, I, rfl, q⟩
  · obtain ⟨bs, r2⟩ := Dp.reads I _ y u he ry
    exact SeqAt.notIn_tuple_data r2 r1 hp (dep_ok _ _ pd).1 hr ⟨.bl _, H, I, rfl, q⟩
end

/-! ### the operators on data -/
def gAdd : D → D → Option D
  | .int i, .int j => some (.int (i + j))
  | .list xs, .list ys => if fitB (xs.length + ys.length) then some (.list (xs ++ ys)) else none
  | .tuple xs, .tuple ys => if fitB (xs.length + ys.length) then some (.tuple (xs ++ ys)) else none
  | .str x, .str y => if fitB (x.length + y.length) then some (.str (x ++ y)) else none
  | _, _ => none
def gSub : D → D → Option D
  | .int i, .int j => some (.int (i - j))
  | _, _ => none
def mulB (i j : Int) : Bool := Nat.ble (i.natAbs.log2 + j.natAbs.log2) 999999
def gMul : D → D → Option D
  | .int i, .int j => if mulB i j then some (.int (i * j)) else none
  | .list xs, .int k => if decide (-(2 ^ 63) ≤ k) && decide (k < 2 ^ 63) && fitB (xs.length * k.toNat) then some (.list (List.replicate k.toNat xs).flatten) else none
  | .tuple xs, .int k => if decide (k = 1) then some (.tuple xs) else if !xs.isEmpty && decide (2 ≤ k) && decide (k ≤ 1000) && Nat.ble xs.length 1000 then some (.tuple (List.replicate k.toNat xs).flatten) else none
  | _, _ => none
def divB (j : Int) : Bool := decide (0 < j) && Nat.ble j.natAbs.log2 8999
def gDiv : D → D → Option D
  | .int i, .int j => if divB j then some (.int (i / j)) else none
  | _, _ => none
def gMod : D → D → Option D
  | .int i, .int j => if decide (0 < j) then some (.int (i % j)) else none
  | _, _ => none
def gXor : D → D → Option D
  | .int i, .int j => some (.int (Builtin.bitXor i j))
  | _, _ => none
def gAnd : D → D → Option D
  | .int i, .int j => some (.int (Builtin.bitAnd i j))
  | _, _ => none
def gOr : D → D → Option D
  | .int i, .int j => some (.int (Builtin.bitOr i j))
  | _, _ => none
def gI (p : Int → Int → Bool) : D → D → Option D
  | .int i, .int j => some (.bool (p i j))
  | _, _ => none
def gEq (d e : D) : Option D := if dep 40 d && dep 40 e then some (.bool (PyData.eqv d e)) else none
def gNe (d e : D) : Option D := if dep 40 d && dep 40 e then some (.bool (!PyData.eqv d e)) else none
def gIn (neg : Bool) : D → D → Option D
  | d, .list ds => if dep 40 d && dep 40 (.list ds) then some (.bool (if neg then !(ds.any fun z => PyData.eqv z d) else ds.any fun z => PyData.eqv z d)) else none
  | d, .tuple ds => if dep 40 d && dep 40 (.list ds) then some (.bool (if neg then !(ds.any fun z => PyData.eqv z d) else ds.any fun z => PyData.eqv z d)) else none
  | .str c, .str z => match c.cps.toList with
    | [ch] => some (.bool (if neg then !decide (ch ∈ z.cps.toList) else decide (ch ∈ z.cps.toList)))
    | _ => none
  | _, _ => none
def gIs (neg : Bool) : D → D → Option D
  | d, .none => some (.bool (match d with
    | .none => !neg
    | _ => neg))
  | .bool a, .bool b => some (.bool (if neg then !decide (a = b) else decide (a = b)))
  | _, _ => none
def gIx : D → D → Option D
  | .list xs, .int i => atI xs i
  | .tuple xs, .int i => atI xs i
  | .str z, .int i => if fitB z.length then (atI z.cps.toList i).map fun c => .str ⟨#[c]⟩ else none
  | _, _ => none

section
variable {X : Cx} {K : PySem.W.Frag}
def rAdd4 (K : PySem.W.Frag) : R2 := fun x y H Q => rI0 (fun i j => .int (i + j)) x y H Q ∨ (rCat x y H Q ∨ (rCatA K x y H Q ∨ ∃ i j, x = .str i ∧ y = .str j ∧ i.length + j.length ≤ sizeLine ∧ Q (.str (i ++ j)) H))
theorem op_add4 : OpR X (binaryOp .Add) (rAdd4 X.K) := op_add.or (op_cat.or (op_catA.or op_add_str))
theorem DvAll.nil_of {H : Hp} {ds : List D} (h : DvAll K H [] ds) : ds = [] := by cases h; rfl
theorem d_add : OpD K (rAdd4 K) gAdd := by
  intro Hc H x y d e z Q s hx hy hz q
  unfold gAdd at hz
  split at hz
  · cases hz; exact .inl ⟨_, _, hx.int, hy.int, q _ _ _ (.refl s) (.int _)⟩
  · split at hz
    · rename_i hf
      cases hz
      obtain ⟨a, vs, rfl, h1, h2⟩ := hx.list s
      obtain ⟨b, ws, rfl, h3, h4⟩ := hy.list s
      refine .inr (.inl ⟨a, b, vs, ws, rfl, rfl, h1, h3, by rw [h2.length, h4.length]; exact fitB_le hf, fun p hp => q _ _ _ (.new s hp) (.lst upd_same ?_)⟩)
      exact ((Sub.upd (s.none hp)).dvAll h2).append ((Sub.upd (s.none hp)).dvAll h4)
    · cases hz
  · split at hz
    · rename_i hf
      cases hz
      obtain ⟨a, vs, rfl, h1, h2⟩ := hx.tuple s
      obtain ⟨b, ws, rfl, h3, h4⟩ := hy.tuple s
      have t1 := hx.shut (fun _ z => nomatch z)
      have t2 := hy.shut (fun _ z => nomatch z)
      refine .inr (.inr (.inl ⟨a, b, vs, ws, rfl, rfl, h1, h3, by rw [h2.length, h4.length]; exact fitB_le hf, fun e => ?_, fun _ e => ?_, fun _ _ p hp => q _ _ _ (.new s hp) (.tup (SqT.of upd_same) ?_)⟩))
      · subst e
        have z2 := h2.nil_of
        subst z2
        exact q _ _ _ (.refl s) t2
      · subst e
        have z4 := h4.nil_of
        subst z4
        rw [List.append_nil] at q
        exact q _ _ _ (.refl s) t1
      · exact ((Sub.upd (s.none hp)).dvAll h2).append ((Sub.upd (s.none hp)).dvAll h4)
    · cases hz
  · split at hz
    · rename_i hf
      cases hz
      exact .inr (.inr (.inr ⟨_, _, hx.str, hy.str, fitB_le hf, q _ _ _ (.refl s) (.str _)⟩))
    · cases hz
  · cases hz
theorem d_int0 {f : Int → Int → Int} {g : D → D → Option D} (hg : ∀ d e z, g d e = some z → ∃ i j, d = .int i ∧ e = .int j ∧ z = .int (f i j)) : OpD K (rI0 fun i j => .int (f i j)) g := by
  intro Hc H x y d e z Q s hx hy hz q
  obtain ⟨i, j, rfl, rfl, rfl⟩ := hg d e z hz
  exact ⟨i, j, hx.int, hy.int, q _ _ _ (.refl s) (.int _)⟩
theorem d_bl0 {f : Int → Int → Bool} : OpD K (rI0 fun i j => .bl (f i j)) (gI f) := by
  intro Hc H x y d e z Q s hx hy hz q
  unfold gI at hz
  split at hz
  · cases hz; exact ⟨_, _, hx.int, hy.int, q _ _ _ (.refl s) (.bl _)⟩
  · cases hz
theorem d_sub : OpD K (rI0 fun i j => .int (i - j)) gSub := d_int0 fun d e z h => by
  unfold gSub at h
  split at h
  · cases h; exact ⟨_, _, rfl, rfl, rfl⟩
  · cases h
theorem d_xor : OpD K (rI0 fun i j => .int (Builtin.bitXor i j)) gXor := d_int0 fun d e z h => by
  unfold gXor at h
  split at h
  · cases h; exact ⟨_, _, rfl, rfl, rfl⟩
  · cases h
theorem d_and : OpD K (rI0 fun i j => .int (Builtin.bitAnd i j)) gAnd := d_int0 fun d e z h => by
  unfold gAnd at h
  split at h
  · cases h; exact ⟨_, _, rfl, rfl, rfl⟩
  · cases h
theorem d_or : OpD K (rI0 fun i j => .int (Builtin.bitOr i j)) gOr := d_int0 fun d e z h => by
  unfold gOr at h
  split at h
  · cases h; exact ⟨_, _, rfl, rfl, rfl⟩
  · cases h
/-- a tuple once is itself -/
def rRepT1 (K : PySem.W.Frag) : R2 := fun x y H Q => ∃ l xs, x = .ref l ∧ y = .int 1 ∧ SqT K H l xs ∧ Q (.ref l) H
theorem tuple_mul1 (l : Addr) (items : Array Value) (n : Nat) (dd : Option Addr) (sl : Array (Option Value)) (u : Tok) :
    Meets (Builtin.«tuple.__mul__» ⟨[.ref l, .int 1 u], []⟩) (fun _ R s => s.heap.get? l = some { cls := .type "tuple", dict := dd, data := .seq items n, slots := sl } ∧
      R (.ok (.ret (Value.ref l))) s) :=
  .of_wp fun prog w A R s h => by
    obtain ⟨hp, g, d, tk, os⟩ := s
    obtain ⟨hl, h⟩ := h
    have f1 := AutoSeq1.idx_int
    have c0 : (decide ((1 : Int) < -(2 ^ 63)) || decide ((1 : Int) ≥ 2 ^ 63)) = false := by decide +kernel
    have c1 : (items.isEmpty || (1 : Int) == 1) = true := by cases items.isEmpty <;> rfl
    wp_walk using wpAny_loadPart' hl
    repeat (first
      | (refine wpAny_ite_false (decide_eq_false (by rw [c0]; exact Bool.false_ne_true)) ?_; wp_walk using wpAny_loadPart' hl)
      | (refine wpAny_ite_true (decide_eq_true c1) ?_; wp_walk using wpAny_loadPart' hl))
    exact ⟨_, rfl, h⟩
theorem op_repT1 : OpR X (binaryOp .Mult) (rRepT1 X.K) := by
  intro pins s σ H x y v u Q I rx ry h
  obtain ⟨l, xs, rfl, rfl, hT, q⟩ := h
  cases rx
  obtain ⟨t, rfl⟩ := ry
  obtain ⟨its, r, ⟨⟨cls, dd, data, sl⟩, ho, hc, n, hd⟩, hs⟩ := I.tuple hT
  simp only at hc hd
  subst hc hd
  exact wpAny_binaryOp_repeat_ref (T := "tuple") (U := "int") (by decide) ⟨_, ho, rfl⟩ (fun s' => typeIs_int s' 1 t) noFill_tuple_mul F.fills_int_mul F.slot_int_rmul repeat_tuple F.slot_int_index.lookup
    (call_meets F.slot_int_rmul (typeIs_int s 1 t) F.entry_int_rmul (F.args_int_rmul_2 _ _) (int_rmul_tuple 1 t l its.toArray n dd sl)
      ⟨ho, rfl, ⟨_, ho, rfl⟩, call_meets F.slot_tuple_mul ⟨_, ho, rfl⟩ F.entry_tuple_mul (F.args_tuple_mul_2 _ _) (tuple_mul1 l its.toArray n dd sl t) ⟨ho, .ref l, H, I, rfl, q⟩⟩)
def rMul3 (K : PySem.W.Frag) : R2 := fun x y H Q => rI CMulW (fun i j => .int (i * j)) x y H Q ∨ (rRep x y H Q ∨ (rRepT K x y H Q ∨ rRepT1 K x y H Q))
theorem op_mul3 : OpR X (binaryOp .Mult) (rMul3 X.K) := op_mulW.or (op_rep.or (op_repT.or op_repT1))
theorem d_mul : OpD K (rMul3 K) gMul := by
  intro Hc H x y d e z Q s hx hy hz q
  unfold gMul at hz
  split at hz
  · split at hz
    · rename_i hf
      cases hz
      refine .inl ⟨_, _, hx.int, hy.int, ?_, q _ _ _ (.refl s) (.int _)⟩
      have := Nat.le_of_ble_eq_true hf
      show _ < _
      omega
    · cases hz
  · split at hz
    · rename_i hf
      cases hz
      obtain ⟨a, vs, rfl, h1, h2⟩ := hx.list s
      simp only [Bool.and_eq_true, decide_eq_true_eq] at hf
      exact .inr (.inl ⟨a, _, vs, rfl, hy.int, h1, hf.1.1, hf.1.2, by rw [h2.length]; exact fitB_le hf.2, fun p hp => q _ _ _ (.new s hp) (.lst upd_same (((Sub.upd (s.none hp)).dvAll h2).flat _))⟩)
    · cases hz
  · split at hz
    · rename_i xs k hf
      cases hz
      have hf := of_decide_eq_true hf
      subst hf
      obtain ⟨a, vs, e, h1, h2⟩ := hx.tuple s
      subst e
      exact .inr (.inr (.inr ⟨a, vs, rfl, hy.int, h1, q _ _ _ (.refl s) (hx.shut fun _ => nofun)⟩))
    split at hz
    · rename_i xs k _ hf
      cases hz
      obtain ⟨a, vs, rfl, h1, h2⟩ := hx.tuple s
      simp only [Bool.and_eq_true, decide_eq_true_eq] at hf
      obtain ⟨⟨⟨n0, n1⟩, n2⟩, n3⟩ := hf
      have hne : vs ≠ [] := fun z => by
        subst z
        have e : xs = [] := h2.nil_of
        rw [e] at n0
        cases n0
      exact .inr (.inr (.inl ⟨a, _, vs, rfl, hy.int, h1, hne, n1, n2, by rw [h2.length]; exact Nat.le_of_ble_eq_true n3, fun p hp => q _ _ _ (.new s hp) (.tup (SqT.of upd_same) (((Sub.upd (s.none hp)).dvAll h2).flat _))⟩))
    · cases hz
  · cases hz
theorem d_div : OpD K (rI CDivW fun i j => .int (i / j)) gDiv := by
  intro Hc H x y d e z Q s hx hy hz q
  unfold gDiv at hz
  split at hz
  · split at hz
    · rename_i hf
      cases hz
      unfold divB at hf
      simp only [Bool.and_eq_true, decide_eq_true_eq] at hf
      have := Nat.le_of_ble_eq_true hf.2
      exact ⟨_, _, hx.int, hy.int, ⟨hf.1, by omega⟩, q _ _ _ (.refl s) (.int _)⟩
    · cases hz
  · cases hz
theorem d_mod : OpD K (rI (fun _ j => 0 < j) fun i j => .int (i % j)) gMod := by
  intro Hc H x y d e z Q s hx hy hz q
  unfold gMod at hz
  split at hz
  · split at hz
    · rename_i hf
      cases hz
      exact ⟨_, _, hx.int, hy.int, of_decide_eq_true hf, q _ _ _ (.refl s) (.int _)⟩
    · cases hz
  · cases hz
theorem d_eq : OpD K (rEqP K) gEq := by
  intro Hc H x y d e z Q s hx hy hz q
  unfold gEq at hz
  split at hz
  · rename_i hf
    cases hz
    obtain ⟨h1, h2⟩ := Bool.and_eq_true_iff.mp hf
    exact ⟨d, e, (hx.dv s).dp, (hy.dv s).dp, h1, h2, q _ _ _ (.refl s) (.bl _)⟩
  · cases hz
theorem d_ne : OpD K (rNeP K) gNe := by
  intro Hc H x y d e z Q s hx hy hz q
  unfold gNe at hz
  split at hz
  · rename_i hf
    cases hz
    obtain ⟨h1, h2⟩ := Bool.and_eq_true_iff.mp hf
    exact ⟨d, e, (hx.dv s).dp, (hy.dv s).dp, h1, h2, q _ _ _ (.refl s) (.bl _)⟩
  · cases hz
def rIn2 (K : PySem.W.Frag) (neg : Bool) : R2 := fun x y H Q => rInP K neg x y H Q ∨ ∃ (c : Nat) (z : Str), x = .str ⟨#[c]⟩ ∧ y = .str z ∧ Q (.bl (if neg then !decide (c ∈ z.cps.toList) else decide (c ∈ z.cps.toList))) H
theorem op_in2 (hu : X.A.units + 64 < cLine) : OpR X (compareOp .In) (rIn2 X.K false) := (op_inP hu).or op_in_sign
theorem op_notIn2 (hu : X.A.units + 64 < cLine) : OpR X (compareOp .NotIn) (rIn2 X.K true) := (op_notInP hu).or op_notIn_sign
theorem str_one {c : Str} {n : Nat} (h : c.cps.toList = [n]) : c = ⟨#[n]⟩ := by
  obtain ⟨cps⟩ := c
  have h2 : cps.toList = [n] := h
  have h3 : cps = #[n] := by rw [← Array.toArray_toList (xs := cps), h2]
  rw [h3]
theorem d_in {neg : Bool} : OpD K (rIn2 K neg) (gIn neg) := by
  intro Hc H x y d e z Q s hx hy hz q
  unfold gIn at hz
  split at hz
  · split at hz
    · rename_i hf
      cases hz
      obtain ⟨h1, h2⟩ := Bool.and_eq_true_iff.mp hf
      exact .inl ⟨_, _, (hx.dv s).dp, .inl (hy.dv s).dp, h1, h2, q _ _ _ (.refl s) (.bl _)⟩
    · cases hz
  · split at hz
    · rename_i hf
      cases hz
      obtain ⟨h1, h2⟩ := Bool.and_eq_true_iff.mp hf
      exact .inl ⟨_, _, (hx.dv s).dp, .inr (hy.dv s).dp, h1, h2, q _ _ _ (.refl s) (.bl _)⟩
    · cases hz
  · split at hz
    · rename_i hf
      cases hz
      have e1 := str_one hf
      subst e1
      exact .inr ⟨_, _, hx.str, hy.str, q _ _ _ (.refl s) (.bl _)⟩
    · cases hz
  · cases hz
def rIs2 (neg : Bool) : R2 := fun x y H Q => (y = .non ∧ Q (.bl (if neg then !decide (x = .non) else decide (x = .non))) H) ∨ ∃ a b : Bool, x = .bl a ∧ y = .bl b ∧ Q (.bl (if neg then !decide (a = b) else decide (a = b))) H
theorem op_is2 : OpR X (compareOp .Is) (rIs2 false) := op_isN.or op_isBl
theorem op_isnot2 : OpR X (compareOp .IsNot) (rIs2 true) := op_notN.or op_notBl
theorem Pk.nonIff {Hc H : Hp} {x : V} {d : D} (h : Pk K Hc H x d) : decide (x = .non) = (match d with
    | .none => true
    | _ => false) := by
  rcases h with h | ⟨a, vs, xs, rfl, rfl, _⟩
  · cases h <;> simp
  · simp
theorem d_is {neg : Bool} : OpD K (rIs2 neg) (gIs neg) := by
  intro Hc H x y d e z Q s hx hy hz q
  unfold gIs at hz
  split at hz
  · cases hz
    refine .inl ⟨hy.none, ?_⟩
    rw [hx.nonIff]
    have := q (.bl _) Hc H (.refl s) (.bl _)
    cases neg <;> cases d <;> exact this
  · cases hz
    exact .inr ⟨_, _, hx.bool, hy.bool, q _ _ _ (.refl s) (.bl _)⟩
  · cases hz
theorem ixN_of {n : Nat} {i : Int} {j : Nat} (h : ixN n i = some j) : j < n := (ixN_seq h).2.1
theorem DvAll.atI {H : Hp} {vs : List V} {ds : List D} {i : Int} {d : D} (h : DvAll K H vs ds) (e : L2.atI ds i = some d) : ∃ v, L2.atI vs i = some v ∧ Dv K H v d := by
  unfold L2.atI at e ⊢
  rw [h.length]
  cases hj : ixN ds.length i with
  | none => rw [hj] at e; cases e
  | some j =>
    rw [hj] at e
    exact h.get (show ds[j]? = some d from e)
theorem d_ix : OpD K (rIx K) gIx := by
  intro Hc H x y d e z Q s hx hy hz q
  unfold gIx at hz
  split at hz
  · obtain ⟨a, vs, rfl, h1, h2⟩ := hx.list s
    obtain ⟨v, h3, h4⟩ := h2.atI hz
    exact .inl ⟨a, vs, _, v, rfl, hy.int, SqL.of h1, h3, q _ _ _ (.refl s) h4⟩
  · obtain ⟨a, vs, rfl, h1, h2⟩ := hx.tuple s
    obtain ⟨v, h3, h4⟩ := h2.atI hz
    exact .inr (.inl ⟨a, vs, _, v, rfl, hy.int, h1, h3, q _ _ _ (.refl s) h4⟩)
  · split at hz
    · rename_i zz i hf
      cases hc : L2.atI zz.cps.toList i with
      | none => rw [hc] at hz; cases hz
      | some c =>
        rw [hc] at hz
        cases hz
        exact .inr (.inr ⟨_, _, c, hx.str, hy.int, fitB_le hf, hc, q _ _ _ (.refl s) (.str _)⟩)
    · cases hz
  · cases hz
end
end L2.DL

set_option Elab.async false
set_option linter.all false
set_option maxRecDepth 100000
set_option maxHeartbeats 1000000
/-! D layer 4: chains, tests, displays, slices, built-ins' calls. -/
namespace L2.DL
open PySem PySem.Spec PyProof.Rows
variable [TabL]

section
variable {X : Cx} {E : XK} {C : Addr} {e a b c : Expr} {es : List Expr} {pos : Pos}
abbrev RE (X : Cx) (E : XK) (C : Addr) (t : TE) (f : Ev D) : Prop := Reads1 X E C (T := Unit) t (fun _ _ _ Hc _ v d => Dv X.K Hc v d) f
abbrev RK (X : Cx) (E : XK) (C : Addr) (t : TE) (f : Ev D) : Prop := Reads1 X E C (T := Unit) t (fun ad env _ Hc _ v d => PkV X.K ad env Hc v d) f
abbrev RT (X : Cx) (E : XK) (C : Addr) (t : TT) (f : Ev Bool) : Prop := Reads1 X E C (T := Unit) t (fun _ _ _ _ _ (b c : Bool) => b = c) f

theorem ch2 {r r' : R2} {g g' : D → D → Option D} {fa fb fc : Ev D} {ta tb tc : TE} (hr : OpD X.K r g) (hr' : OpD X.K r' g') (ra : RK X E C ta fa) (rb : RK X E C tb fb) (rc : RK X E C tc fc) : RE X E C (tChain r r' ta tb tc) (evCh g g' fa fb fc) := fun ad da Hc H σ env s Q er q => by
  refine ra ad da Hc H σ env s _ er (Post.bind q fun d s1 _ v Hc1 H1 n1 e1 p1 q1 => ?_)
  refine rb ad da Hc1 H1 σ env s1 _ e1 (Post.bind q1 fun d2 s2 _ v2 Hc2 H2 n2 e2 p2 q2 => ?_)
  dsimp only at q2
  cases hg : g d d2 with
  | none => rw [hg] at q2; exact q2.elim
  | some z =>
    rw [hg] at q2
    refine hr Hc2 H2 v v2 d d2 z _ e2.sub ((p1.sub n2.sub).pk e2) (p2.pk e2) hg fun v' Hc' H' al hd => ?_
    cases z with
    | bool k =>
      cases hd
      refine ⟨k, rfl, ?_⟩
      cases k with
      | false => rw [if_neg Bool.false_ne_true]; exact q2 _ Hc' H' al.nx (al.er e2) (.bl _)
      | true =>
        rw [if_pos rfl]
        refine rc ad da Hc' H' σ env s2 _ (al.er e2) (Post.bind (Post.shift q2 al.nx) fun d3 s3 _ v3 Hc3 H3 n3 e3 p3 q3 => ?_)
        cases hg2 : g' d2 d3 with
        | none => rw [hg2] at q3; exact q3.elim
        | some z2 =>
          rw [hg2] at q3
          exact hr' Hc3 H3 v2 v3 d2 d3 z2 Q e3.sub (((p2.sub al.sub).sub n3.sub).pk e3) (p3.pk e3) hg2 fun v' Hc' H' al hd => q3 v' Hc' H' al.nx (al.er e3) hd
    | none => exact q2.elim
    | int _ => exact q2.elim
    | str _ => exact q2.elim
    | list _ => exact q2.elim
    | tuple _ => exact q2.elim
    | dict _ => exact q2.elim
theorem de_chain {op op' : CmpOp} {r r' : R2} {g g' : D → D → Option D} {fa fb fc : Ev D} (ho : OpR X (compareOp op) r) (ho' : OpR X (compareOp op') r') (hr : OpD X.K r g) (hr' : OpD X.K r' g') (h1 : lastMarks [op, op'] [b, c] = false)
    (ha : DK X E C a fa) (hb : DK X E C b fb) (hc : DK X E C c fc) : DE X E C (.Compare a [op, op'] [b, c] pos) (evCh g g' fa fb fc) := by
  obtain ⟨ta, pa, ra⟩ := ha
  obtain ⟨tb, pb, rb⟩ := hb
  obtain ⟨tc, pc, rc⟩ := hc
  exact ⟨_, pe_chain ho ho' pa pb pc h1, ch2 hr hr' ra rb rc⟩
/-- a reading of a truth value read as a test -/
theorem RE.test {t : TE} {f : Ev D} (h : RE X E C t f) : RT X E C (fun σ H Q => t σ H fun x H1 => ∃ k, x = .bl k ∧ Q k H1) (evB f) := fun ad da Hc H σ env s Q er q => by
  refine h ad da Hc H σ env s _ er (Post.bind q fun d s1 _ v Hc1 H1 n1 e1 p1 q1 => ?_)
  cases d with
  | bool k =>
    cases p1
    exact ⟨k, rfl, q1 k Hc1 H1 Nx.refl e1 rfl⟩
  | none => exact q1.elim
  | int _ => exact q1.elim
  | str _ => exact q1.elim
  | list _ => exact q1.elim
  | tuple _ => exact q1.elim
  | dict _ => exact q1.elim
theorem dt_chain {op op' : CmpOp} {r r' : R2} {g g' : D → D → Option D} {fa fb fc : Ev D} (ho : OpR X (compareOp op) r) (ho' : OpR X (compareOp op') r') (hr : OpD X.K r g) (hr' : OpD X.K r' g') (h1 : lastMarks [op, op'] [b, c] = false)
    (ha : DK X E C a fa) (hb : DK X E C b fb) (hc : DK X E C c fc) : DT X E C (.Compare a [op, op'] [b, c] pos) (evB (evCh g g' fa fb fc)) := by
  obtain ⟨ta, pa, ra⟩ := ha
  obtain ⟨tb, pb, rb⟩ := hb
  obtain ⟨tc, pc, rc⟩ := hc
  exact ⟨_, pt_chain ho ho' pa pb pc h1, RE.test (ch2 hr hr' ra rb rc)⟩

/-! ### truth -/
def gTru : D → Option Bool
  | .none => some false
  | .bool b => some b
  | .int i => some (i != 0)
  | .str y => if fitB y.length then some ((y.length : Int) != 0) else none
  | .list xs => some (!xs.isEmpty)
  | .tuple xs => some (!xs.isEmpty)
  | .dict _ => none
theorem DvAll.empty {K : PySem.W.Frag} {H : Hp} {vs : List V} {ds : List D} (h : DvAll K H vs ds) : vs.isEmpty = ds.isEmpty := by cases h <;> rfl
theorem gTru_ok {K : PySem.W.Frag} {Hc H : Hp} {v : V} {d : D} {k : Bool} (s : Sub Hc H) (h : Pk K Hc H v d) (e : gTru d = some k) : TruV K v H k := by
  cases d with
  | none => rw [h.none]; cases e; rfl
  | bool b => rw [h.bool]; cases e; rfl
  | int i => rw [h.int]; cases e; rfl
  | str y =>
    rw [h.str]
    have e' : (if fitB y.length = true then some ((y.length : Int) != 0) else none) = some k := e
    split at e'
    · rename_i hf
      cases e'
      exact ⟨fitB_le hf, rfl⟩
    · cases e'
  | list xs =>
    cases e
    obtain ⟨a, vs, rfl, h1, h2⟩ := h.list s
    exact .inl ⟨vs, SqL.of h1, by rw [h2.empty]⟩
  | tuple xs =>
    cases e
    obtain ⟨a, vs, rfl, h1, h2⟩ := h.tuple s
    exact .inr (.inl ⟨vs, h1, by rw [h2.empty]⟩)
  | dict _ => cases e
def evTru (f : Ev D) : Ev Bool := fun env s => (f env s).bind fun p => (R.ofO (gTru p.1)).bind fun k => .ok (k, p.2)
theorem RK.tru {t : TE} {f : Ev D} (h : RK X E C t f) : RT X E C (fun σ H Q => t σ H fun x H' => ∃ k, TruV X.K x H' k ∧ Q k H') (evTru f) := fun ad da Hc H σ env s Q er q => by
  refine h ad da Hc H σ env s _ er (Post.bind q fun d s1 _ v Hc1 H1 n1 e1 p1 q1 => ?_)
  cases hk : gTru d with
  | none => rw [hk] at q1; exact q1.elim
  | some k =>
    rw [hk] at q1
    exact ⟨k, gTru_ok e1.sub (p1.pk e1) hk, q1 k Hc1 H1 Nx.refl e1 rfl⟩
theorem dt_tru {f : Ev D} (h : DK X E C e f) (he : ∀ whole, isTrue e X.env whole = (do let v ← whole; standAt e.pos; holding [v] (truthy v))) : DT X E C e (evTru f) := by
  obtain ⟨t, p, r⟩ := h
  exact ⟨_, pt_truth p he, RK.tru r⟩
def evNot (f : Ev Bool) : Ev Bool := fun env s => (f env s).bind fun p => .ok (!p.1, p.2)
theorem dt_not {f : Ev Bool} (h : DT X E C e f) : DT X E C (.UnaryOp .Not e pos) (evNot f) := by
  obtain ⟨t, p, r⟩ := h
  refine ⟨_, pt_not p, fun ad da Hc H σ env s Q er q => r ad da Hc H σ env s _ er (Post.bind q fun d s1 _ v Hc1 H1 n1 e1 p1 q1 => ?_)⟩
  cases p1
  exact q1 _ Hc1 H1 Nx.refl e1 rfl
def evIf {α : Type} (fc : Ev Bool) (fa fb : Ev α) : Ev α := fun env s => (fc env s).bind fun p => if p.1 then fa env p.2 else fb env p.2
/-- and, or: as tests -/
def DW (X : Cx) (E : XK) (C : Addr) (e : Expr) (f : Ev Bool) : Prop := ∃ t : TT, PW X e t ∧ RT X E C t f
theorem DW.dt {f : Ev Bool} (h : DW X E C e f) : DT X E C e f := by
  obtain ⟨t, p, r⟩ := h
  exact ⟨t, p.pt, r⟩
def evTT : Ev Bool := fun _ s => .ok (true, s)
def evFF : Ev Bool := fun _ s => .ok (false, s)
theorem dw_one_and {f : Ev Bool} (h : DT X E C e f) : DW X E C (.BoolOp .And [e] pos) f := by
  obtain ⟨t, p, r⟩ := h
  exact ⟨t, pw_and1 p, r⟩
theorem dw_one_or {f : Ev Bool} (h : DT X E C e f) : DW X E C (.BoolOp .Or [e] pos) f := by
  obtain ⟨t, p, r⟩ := h
  exact ⟨t, pw_or1 p, r⟩
theorem dw_and {f g : Ev Bool} (h : DT X E C a f) (h2 : DW X E C (.BoolOp .And (b :: es) pos) g) : DW X E C (.BoolOp .And (a :: b :: es) pos) (evIf f g evFF) := by
  obtain ⟨t, p, r⟩ := h
  obtain ⟨u, p2, r2⟩ := h2
  refine ⟨_, pw_and p p2, fun ad da Hc H σ env s Q er q => r ad da Hc H σ env s _ er (Post.bind q fun d s1 _ v Hc1 H1 n1 e1 p1 q1 => ?_)⟩
  cases p1
  dsimp only at q1
  cases d with
  | true => rw [if_pos rfl] at q1 ⊢; exact r2 ad da Hc1 H1 σ env s1 _ e1 q1
  | false => rw [if_neg Bool.false_ne_true] at q1 ⊢; exact q1 false Hc1 H1 Nx.refl e1 rfl
theorem dw_or {f g : Ev Bool} (h : DT X E C a f) (h2 : DW X E C (.BoolOp .Or (b :: es) pos) g) : DW X E C (.BoolOp .Or (a :: b :: es) pos) (evIf f evTT g) := by
  obtain ⟨t, p, r⟩ := h
  obtain ⟨u, p2, r2⟩ := h2
  refine ⟨_, pw_or p p2, fun ad da Hc H σ env s Q er q => r ad da Hc H σ env s _ er (Post.bind q fun d s1 _ v Hc1 H1 n1 e1 p1 q1 => ?_)⟩
  cases p1
  dsimp only at q1
  cases d with
  | true => rw [if_pos rfl] at q1 ⊢; exact q1 true Hc1 H1 Nx.refl e1 rfl
  | false => rw [if_neg Bool.false_ne_true] at q1 ⊢; exact r2 ad da Hc1 H1 σ env s1 _ e1 q1
theorem de_if {fc : Ev Bool} {fa fb : Ev D} (hc : DT X E C c fc) (ha : DE X E C a fa) (hb : DE X E C b fb) : DE X E C (.IfExp c a b pos) (evIf fc fa fb) := by
  obtain ⟨t, p, r⟩ := hc
  obtain ⟨ta, pa, ra⟩ := ha
  obtain ⟨tb, pb, rb⟩ := hb
  refine ⟨_, pe_ifExp p pa pb, fun ad da Hc H σ env s Q er q => r ad da Hc H σ env s _ er (Post.bind q fun d s1 _ v Hc1 H1 n1 e1 p1 q1 => ?_)⟩
  cases p1
  dsimp only at q1
  cases d with
  | true => rw [if_pos rfl] at q1 ⊢; exact ra ad da Hc1 H1 σ env s1 _ e1 q1
  | false => rw [if_neg Bool.false_ne_true] at q1 ⊢; exact rb ad da Hc1 H1 σ env s1 _ e1 q1
/-- x and y, x or y, not x as values -/
def evAndV (fa fb : Ev D) : Ev D := fun env s => (fa env s).bind fun p => (R.ofO (gTru p.1)).bind fun k => if k then fb env p.2 else .ok p
def evOrV (fa fb : Ev D) : Ev D := fun env s => (fa env s).bind fun p => (R.ofO (gTru p.1)).bind fun k => if k then .ok p else fb env p.2
def evNotV (fa : Ev D) : Ev D := fun env s => (fa env s).bind fun p => (R.ofO (gTru p.1)).bind fun k => .ok (.bool (!k), p.2)
theorem de_one {op : BoolOp} {f : Ev D} (h : DE X E C e f) : DE X E C (.BoolOp op [e] pos) f := by
  obtain ⟨t, p, r⟩ := h
  exact ⟨t, pe_one p, r⟩
theorem de_and {f g : Ev D} (h : DE X E C a f) (h2 : DE X E C (.BoolOp .And (b :: es) pos) g) : DE X E C (.BoolOp .And (a :: b :: es) pos) (evAndV f g) := by
  obtain ⟨t, p, r⟩ := h
  obtain ⟨u, p2, r2⟩ := h2
  refine ⟨_, pe_andT p p2, fun ad da Hc H σ env s Q er q => r ad da Hc H σ env s _ er (Post.bind q fun d s1 _ v Hc1 H1 n1 e1 p1 q1 => ?_)⟩
  cases hk : gTru d with
  | none => rw [hk] at q1; exact q1.elim
  | some k =>
    rw [hk] at q1
    refine ⟨k, gTru_ok e1.sub (.inl p1) hk, ?_⟩
    cases k with
    | true => rw [if_pos rfl]; exact r2 ad da Hc1 H1 σ env s1 _ e1 q1
    | false => rw [if_neg Bool.false_ne_true]; exact q1 v Hc1 H1 Nx.refl e1 p1
theorem de_or {f g : Ev D} (h : DE X E C a f) (h2 : DE X E C (.BoolOp .Or (b :: es) pos) g) : DE X E C (.BoolOp .Or (a :: b :: es) pos) (evOrV f g) := by
  obtain ⟨t, p, r⟩ := h
  obtain ⟨u, p2, r2⟩ := h2
  refine ⟨_, pe_orT p p2, fun ad da Hc H σ env s Q er q => r ad da Hc H σ env s _ er (Post.bind q fun d s1 _ v Hc1 H1 n1 e1 p1 q1 => ?_)⟩
  cases hk : gTru d with
  | none => rw [hk] at q1; exact q1.elim
  | some k =>
    rw [hk] at q1
    refine ⟨k, gTru_ok e1.sub (.inl p1) hk, ?_⟩
    cases k with
    | true => rw [if_pos rfl]; exact q1 v Hc1 H1 Nx.refl e1 p1
    | false => rw [if_neg Bool.false_ne_true]; exact r2 ad da Hc1 H1 σ env s1 _ e1 q1
theorem de_not {f : Ev D} (h : DK X E C e f) : DE X E C (.UnaryOp .Not e pos) (evNotV f) := by
  obtain ⟨t, p, r⟩ := h
  refine ⟨_, pe_notT p, fun ad da Hc H σ env s Q er q => r ad da Hc H σ env s _ er (Post.bind q fun d s1 _ v Hc1 H1 n1 e1 p1 q1 => ?_)⟩
  cases hk : gTru d with
  | none => rw [hk] at q1; exact q1.elim
  | some k =>
    rw [hk] at q1
    exact ⟨k, gTru_ok e1.sub (p1.pk e1) hk, q1 _ Hc1 H1 Nx.refl e1 (.bl _)⟩
def gNeg : D → Option D
  | .int i => some (.int (-i))
  | _ => none
def ev1 (g : D → Option D) (fa : Ev D) : Ev D := fun env s => (fa env s).bind fun p => (R.ofO (g p.1)).bind fun z => .ok (z, p.2)
theorem de_neg {f : Ev D} (h : DE X E C e f) : DE X E C (.UnaryOp .USub e pos) (ev1 gNeg f) := by
  obtain ⟨t, p, r⟩ := h
  refine ⟨_, pe_un un_neg p, fun ad da Hc H σ env s Q er q => r ad da Hc H σ env s _ er (Post.bind q fun d s1 _ v Hc1 H1 n1 e1 p1 q1 => ?_)⟩
  cases d with
  | int i => cases p1; exact ⟨i, rfl, q1 _ Hc1 H1 Nx.refl e1 (.int _)⟩
  | none => exact q1.elim
  | bool _ => exact q1.elim
  | str _ => exact q1.elim
  | list _ => exact q1.elim
  | tuple _ => exact q1.elim
  | dict _ => exact q1.elim

/-! ### items, slices, displays -/
theorem de_ix {fa fb : Ev D} (ha : DK X E C a fa) (hb : DK X E C b fb) (hs : PlainIx b) : DE X E C (.Subscript a b pos) (ev2 gIx fa fb) := by
  obtain ⟨ta, pa, ra⟩ := ha
  obtain ⟨tb, pb, rb⟩ := hb
  exact ⟨_, pe_ix ix_seq pa pb hs, op2 d_ix ra rb⟩
/-- a slice's part -/
def DO (X : Cx) (E : XK) (C : Addr) (e : Option Expr) (f : Ev (Option Int)) : Prop := ∃ t : TO, PO X e t ∧ Reads1 X E C (T := Unit) t (fun _ _ _ _ _ (b c : Option Int) => b = c) f
def evNoP : Ev (Option Int) := fun _ s => .ok (none, s)
def evP (f : Ev D) : Ev (Option Int) := fun env s => (f env s).bind fun p => match p.1 with
  | .int i => .ok (some i, p.2)
  | _ => .stuck
theorem do_none : DO X E C none evNoP := ⟨tNoPart, po_none, fun ad da Hc H σ env s Q er q => q none Hc H Nx.refl er rfl⟩
theorem do_some {f : Ev D} (h : DE X E C e f) : DO X E C (some e) (evP f) := by
  obtain ⟨t, p, r⟩ := h
  refine ⟨_, po_some p, fun ad da Hc H σ env s Q er q => r ad da Hc H σ env s _ er (Post.bind q fun d s1 _ v Hc1 H1 n1 e1 p1 q1 => ?_)⟩
  cases d with
  | int i => cases p1; exact ⟨i, rfl, q1 _ Hc1 H1 Nx.refl e1 rfl⟩
  | none => exact q1.elim
  | bool _ => exact q1.elim
  | str _ => exact q1.elim
  | list _ => exact q1.elim
  | tuple _ => exact q1.elim
  | dict _ => exact q1.elim
def cutD (xs : List D) (lo hi : Option Int) : List D := (xs.drop (HT.sIx xs.length 0 lo)).take (HT.sIx xs.length xs.length hi - HT.sIx xs.length 0 lo)
def gSl : D → Option Int → Option Int → Option D
  | .list xs, lo, hi => some (.list (cutD xs lo hi))
  | .tuple xs, lo, hi => some (.tuple (cutD xs lo hi))
  | .str z, lo, hi => if fitB z.length then some (.str (cutS z lo hi)) else none
  | _, _, _ => none
def evSl (fa : Ev D) (fl fh : Ev (Option Int)) : Ev D := fun env s => (fa env s).bind fun p => (fl env p.2).bind fun l => (fh env l.2).bind fun h => (R.ofO (gSl p.1 l.1 h.1)).bind fun z => .ok (z, h.2)
def rSl3 (K : PySem.W.Frag) : V → Option Int → Option Int → Hp → VK → Prop := fun x lo hi H Q => rSlL K x lo hi H Q ∨ (rSlA K x lo hi H Q ∨ rSlS x lo hi H Q)
theorem sl_3 : SlR X (rSl3 X.K) := sl_list.or (sl_tupA.or sl_str)
theorem DvAll.cut {K : PySem.W.Frag} {H : Hp} {vs : List V} {ds : List D} (h : DvAll K H vs ds) (lo hi : Option Int) : DvAll K H (cutV vs lo hi) (cutD ds lo hi) := by
  unfold cutV cutD
  rw [h.length]
  exact (h.drop _).take _
theorem cut_whole {xs : List D} {lo hi : Option Int} (h : HT.sIx xs.length 0 lo = 0 ∧ HT.sIx xs.length xs.length hi = xs.length) : cutD xs lo hi = xs := by
  unfold cutD
  rw [h.1, h.2, List.drop_zero, Nat.sub_zero, List.take_length]
theorem d_sl {K : PySem.W.Frag} {Hc H : Hp} {x : V} {d z : D} {lo hi : Option Int} {Q : VK} (s : Sub Hc H) (hx : Pk K Hc H x d) (hz : gSl d lo hi = some z) (q : ∀ v Hc' H', Al Hc H Hc' H' → Dv K Hc' v z → Q v H') : rSl3 K x lo hi H Q := by
  unfold gSl at hz
  split at hz
  · cases hz
    obtain ⟨a, vs, rfl, h1, h2⟩ := hx.list s
    exact .inl ⟨a, vs, rfl, SqL.of h1, fun p hp => q _ _ _ (.new s hp) (.lst upd_same (((Sub.upd (s.none hp)).dvAll h2).cut _ _))⟩
  · cases hz
    obtain ⟨a, vs, rfl, h1, h2⟩ := hx.tuple s
    have t1 := hx.shut (fun _ z => nomatch z)
    refine .inr (.inl ⟨a, vs, rfl, h1, fun hw => ?_, fun _ p hp => q _ _ _ (.new s hp) (.tup (SqT.of upd_same) (((Sub.upd (s.none hp)).dvAll h2).cut _ _))⟩)
    rw [h2.length] at hw
    rw [cut_whole hw] at q
    exact q _ _ _ (.refl s) t1
  · split at hz
    · rename_i hf
      cases hz
      exact .inr (.inr ⟨_, hx.str, fitB_le hf, q _ _ _ (.refl s) (.str _)⟩)
    · cases hz
  · cases hz
theorem de_slice {lo hi : Option Expr} {p2 : Pos} {fa : Ev D} {fl fh : Ev (Option Int)} (ha : DK X E C a fa) (hl : DO X E C lo fl) (hh : DO X E C hi fh) : DE X E C (.Subscript a (.Slice lo hi none p2) pos) (evSl fa fl fh) := by
  obtain ⟨ta, pa, ra⟩ := ha
  obtain ⟨tl, pl, rl⟩ := hl
  obtain ⟨th, ph, rh⟩ := hh
  refine ⟨_, pe_slice sl_3 pa pl ph, fun ad da Hc H σ env s Q er q => ra ad da Hc H σ env s _ er (Post.bind q fun d s1 _ v Hc1 H1 n1 e1 p1 q1 => ?_)⟩
  refine rl ad da Hc1 H1 σ env s1 _ e1 (Post.bind q1 fun l s2 _ v2 Hc2 H2 n2 e2 p2 q2 => ?_)
  cases p2
  refine rh ad da Hc2 H2 σ env s2 _ e2 (Post.bind q2 fun l3 s3 _ v3 Hc3 H3 n3 e3 p3 q3 => ?_)
  cases p3
  dsimp only at q3
  cases hg : gSl d l l3 with
  | none => rw [hg] at q3; exact q3.elim
  | some z =>
    rw [hg] at q3
    exact d_sl e3.sub (((p1.sub n2.sub).sub n3.sub).pk e3) hg fun v' Hc' H' al hd => q3 v' Hc' H' al.nx (al.er e3) hd
theorem dae_nil : DAE X E C [] (fun _ s => .ok ([], s)) := ⟨tNil, pa_nil, fun ad da Hc H σ env s Q er q => q [] Hc H Nx.refl er .nil⟩
def evCons (fa : Ev D) (fr : Ev (List D)) : Ev (List D) := fun env s => (fa env s).bind fun p => (fr env p.2).bind fun q => .ok (p.1 :: q.1, q.2)
theorem dae_cons {fa : Ev D} {fr : Ev (List D)} (ha : DE X E C e fa) (hr : DAE X E C es fr) (hs : starEach (e :: es) X.env = (false, eval e X.env) :: starEach es X.env) : DAE X E C (e :: es) (evCons fa fr) := by
  obtain ⟨ta, pa, ra⟩ := ha
  obtain ⟨tr, pr, rr⟩ := hr
  refine ⟨_, pa_cons pa pr hs, fun ad da Hc H σ env s Q er q => ra ad da Hc H σ env s _ er (Post.bind q fun d s1 _ v Hc1 H1 n1 e1 p1 q1 => ?_)⟩
  refine rr ad da Hc1 H1 σ env s1 _ e1 (Post.bind q1 fun ds s2 _ vs Hc2 H2 n2 e2 p2 q2 => ?_)
  exact q2 _ Hc2 H2 Nx.refl e2 (.cons (n2.sub.dv p1) p2)
theorem dak_nil : DAK X E C [] (fun _ s => .ok ([], s)) := ⟨tNil, pa_nil, fun ad da Hc H σ env s Q er q => q [] Hc H Nx.refl er trivial⟩
theorem dak_cons {fa : Ev D} {fr : Ev (List D)} (ha : DK X E C e fa) (hr : DAK X E C es fr) (hs : starEach (e :: es) X.env = (false, eval e X.env) :: starEach es X.env) : DAK X E C (e :: es) (evCons fa fr) := by
  obtain ⟨ta, pa, ra⟩ := ha
  obtain ⟨tr, pr, rr⟩ := hr
  refine ⟨_, pa_cons pa pr hs, fun ad da Hc H σ env s Q er q => ra ad da Hc H σ env s _ er (Post.bind q fun d s1 _ v Hc1 H1 n1 e1 p1 q1 => ?_)⟩
  refine rr ad da Hc1 H1 σ env s1 _ e1 (Post.bind q1 fun ds s2 _ vs Hc2 H2 n2 e2 p2 q2 => ?_)
  exact q2 _ Hc2 H2 Nx.refl e2 ⟨p1.sub n2.sub, p2⟩
def evTup (f : Ev (List D)) : Ev D := fun env s => (f env s).bind fun p => if fitB p.1.length then .ok (.tuple p.1, p.2) else .stuck
def evLst (f : Ev (List D)) : Ev D := fun env s => (f env s).bind fun p => if fitB p.1.length then .ok (.list p.1, p.2) else .stuck
theorem de_tup {x1} {f : Ev (List D)} (h : DAE X E C es f) : DE X E C (.Tuple es x1 pos) (evTup f) := by
  obtain ⟨t, p, r⟩ := h
  refine ⟨_, pe_tup p, fun ad da Hc H σ env s Q er q => r ad da Hc H σ env s _ er (Post.bind q fun ds s1 _ vs Hc1 H1 n1 e1 p1 q1 => ?_)⟩
  dsimp only at q1
  split at q1
  · rename_i hf
    exact ⟨by rw [p1.length]; exact fitB_le hf, fun p hp => q1 _ _ _ (Al.new e1.sub hp).nx (e1.new hp) (.tup (SqT.of upd_same) ((Sub.upd (e1.sub.none hp)).dvAll p1))⟩
  · exact q1.elim
theorem de_lst {f : Ev (List D)} (h : DAE X E C es f) : DE X E C (.List es pos) (evLst f) := by
  obtain ⟨t, p, r⟩ := h
  refine ⟨_, pe_lst p, fun ad da Hc H σ env s Q er q => r ad da Hc H σ env s _ er (Post.bind q fun ds s1 _ vs Hc1 H1 n1 e1 p1 q1 => ?_)⟩
  dsimp only at q1
  split at q1
  · rename_i hf
    exact ⟨by rw [p1.length]; exact fitB_le hf, fun p hp => q1 _ _ _ (Al.new e1.sub hp).nx (e1.new hp) (.lst upd_same ((Sub.upd (e1.sub.none hp)).dvAll p1))⟩
  · exact q1.elim

/-! ### built-ins by their names -/
def CallD (K : PySem.W.Frag) (r : List V → Hp → VK → Prop) (g : List D → Option D) : Prop :=
  ∀ (Hc H : Hp) (vs : List V) (ds : List D) (z : D) (Q : VK), Sub Hc H → All2 (Pk K Hc H) vs ds → g ds = some z → (∀ v Hc' H', Al Hc H Hc' H' → Dv K Hc' v z → Q v H') → r vs H Q
def evB1 (g : List D → Option D) (f : Ev (List D)) : Ev D := fun env s => (f env s).bind fun p => (R.ofO (g p.1)).bind fun z => .ok (z, p.2)
theorem CallD.read {r : List V → Hp → VK → Prop} {g : List D → Option D} {t : TA} {f : Ev (List D)} (hr : CallD X.K r g) (h : Reads1 X E C (T := Unit) t (fun ad env _ Hc _ vs ds => All2 (PkV X.K ad env Hc) vs ds) f) : RE X E C (fun σ H Q => t σ H fun vs H1 => r vs H1 Q) (evB1 g f) := fun ad da Hc H σ env s Q er q => by
  refine h ad da Hc H σ env s _ er (Post.bind q fun ds s1 _ vs Hc1 H1 n1 e1 p1 q1 => ?_)
  cases hg : g ds with
  | none => rw [hg] at q1; exact q1.elim
  | some z =>
    rw [hg] at q1
    exact hr Hc1 H1 vs ds z Q e1.sub (p1.imp fun _ _ z => z.pk e1) hg fun v' Hc' H' al hd => q1 v' Hc' H' al.nx (al.er e1) hd
theorem de_callB {id : String} {x : Str} {p : Pos} {r : List V → Hp → VK → Prop} {g : List D → Option D} {f : Ev (List D)} (hr : CallD X.K r g) (hc : CallR X (.builtin id) r) (hg : Gl X x) (hm : X.mg x = none) (hv : bootBuiltins x = some (.builtin id)) (ha : DAK X E C (e :: es) f) (hn : x ≠ "__name__") (hd : (x == ("__debug__" : Str)) = false)
    (hs : starEach (e :: es) X.env = (false, eval e X.env) :: starEach es X.env) (hpl : (backTo pos (starEach es X.env)).any (·.1) = false) : DE X E C (.Call (.Name x p) (e :: es) [] pos) (evB1 g f) := by
  obtain ⟨t, pa, ra⟩ := ha
  exact ⟨_, pe_callB hc hg hm hv pa hn hd hs hpl, CallD.read hr ra⟩
end
end L2.DL

set_option Elab.async false
set_option linter.all false
set_option maxRecDepth 100000
set_option maxHeartbeats 1000000
/-! D layer 5: built-ins. -/
namespace L2.DL
open PySem PySem.Spec PyProof.Rows
variable [TabL]

def asI : List D → Option (List Int)
  | [] => some []
  | .int i :: r => (asI r).map (i :: ·)
  | _ :: _ => none
theorem asI_ok : ∀ {ds : List D} {ns : List Int}, asI ds = some ns → ds = ns.map PyData.int
  | [], ns, h => by cases h; rfl
  | .int i :: r, ns, h => by
    rw [asI] at h
    cases e : asI r with
    | none => rw [e] at h; cases h
    | some ms => rw [e] at h; cases h; rw [asI_ok e]; rfl
  | .none :: _, _, h => by cases h
  | .bool _ :: _, _, h => by cases h
  | .str _ :: _, _, h => by cases h
  | .list _ :: _, _, h => by cases h
  | .tuple _ :: _, _, h => by cases h
  | .dict _ :: _, _, h => by cases h
theorem asI_map (ns : List Int) : asI (ns.map PyData.int) = some ns := by
  induction ns with
  | nil => rfl
  | cons n ns ih => rw [List.map_cons, asI, ih]; rfl
/-- flat truth: numbers and truth values -/
def asT : List D → Option (List Bool)
  | [] => some []
  | .int i :: r => (asT r).map ((i != 0) :: ·)
  | .bool b :: r => (asT r).map (b :: ·)
  | _ :: _ => none
theorem asT_ok : ∀ {ds : List D} {bs : List Bool}, asT ds = some bs → PyData.plainAll ds = true ∧ (∀ x ∈ ds, x.fits63) ∧ ds.any PyData.truthy = bs.any id ∧ ds.all PyData.truthy = bs.all id
  | [], _, h => by cases h; exact ⟨rfl, fun _ hx => absurd hx (by simp), rfl, rfl⟩
  | .int i :: r, bs, h => by
    rw [asT] at h
    cases e : asT r with
    | none => rw [e] at h; cases h
    | some ms =>
      rw [e] at h; cases h
      obtain ⟨h1, h2, h3, h4⟩ := asT_ok e
      refine ⟨by rw [PyData.plainAll, h1]; rfl, fun x hx => ?_, by rw [List.any_cons, h3]; rfl, by rw [List.all_cons, h4]; rfl⟩
      rcases List.mem_cons.mp hx with rfl | hx
      · trivial
      · exact h2 x hx
  | .bool i :: r, bs, h => by
    rw [asT] at h
    cases e : asT r with
    | none => rw [e] at h; cases h
    | some ms =>
      rw [e] at h; cases h
      obtain ⟨h1, h2, h3, h4⟩ := asT_ok e
      refine ⟨by rw [PyData.plainAll, h1]; rfl, fun x hx => ?_, by rw [List.any_cons, h3]; rfl, by rw [List.all_cons, h4]; rfl⟩
      rcases List.mem_cons.mp hx with rfl | hx
      · trivial
      · exact h2 x hx
  | .none :: _, _, h => by cases h
  | .str _ :: _, _, h => by cases h
  | .list _ :: _, _, h => by cases h
  | .tuple _ :: _, _, h => by cases h
  | .dict _ :: _, _, h => by cases h

section
variable {X : Cx} {K : PySem.W.Frag}
/-! rules over the heap -/
def rSeqD (K : PySem.W.Frag) (vs : List V) (H : Hp) (ds : List D) : Prop := ∃ a, vs = [V.ref a] ∧ (Dp K H (.ref a) (.list ds) ∨ Dp K H (.ref a) (.tuple ds))
def rAnyT (K : PySem.W.Frag) : List V → Hp → VK → Prop := fun vs H Q => ∃ ds bs, rSeqD K vs H ds ∧ asT ds = some bs ∧ Q (.bl (bs.any id)) H
def rAllT (K : PySem.W.Frag) : List V → Hp → VK → Prop := fun vs H Q => ∃ ds bs, rSeqD K vs H ds ∧ asT ds = some bs ∧ Q (.bl (bs.all id)) H
theorem readsL {h : Heap} {a : Addr} {ds : List D} {as : List Addr} (r : Reads h (.ref a) (.list ds) as) : ∃ vs bs, h.IsList a vs ∧ ReadsAll h vs.toList ds bs := by
  cases r with
  | list h1 h2 h3 h4 => exact ⟨_, _, ⟨_, h1, h2, _, h3⟩, h4⟩
theorem readsT {h : Heap} {a : Addr} {ds : List D} {as : List Addr} (r : Reads h (.ref a) (.tuple ds) as) : ∃ vs bs, h.IsTuple a vs ∧ ReadsAll h vs.toList ds bs := by
  cases r with
  | tuple h1 h2 h3 h4 => exact ⟨_, _, ⟨_, h1, h2, _, h3⟩, h4⟩
theorem cr_anyT (hc : X.calm = true) : CallR X (.builtin "any") (rAnyT X.K) := by
  intro pins s σ H vs us Q I r h
  obtain ⟨ds, bs, ⟨a, rfl, hd⟩, hb, q⟩ := h
  rw [Vals.ref1 r]
  obtain ⟨h1, h2, h3, _⟩ := asT_ok hb
  rcases hd with hd | hd
  · obtain ⟨as, rr⟩ := Dp.reads I _ _ _ hd rfl
    obtain ⟨ws, cs, hl, hr⟩ := readsL rr
    exact PySem.W.any_list_data (I.ok.hd hc) hl hr h1 h2 fun h' tk hk => ⟨.bl _, H, I.kept hk, rfl, by rw [h3]; exact q⟩
  · obtain ⟨as, rr⟩ := Dp.reads I _ _ _ hd rfl
    obtain ⟨ws, cs, hl, hr⟩ := readsT rr
    exact PySem.W.any_tuple_data (I.ok.hd hc) hl hr h1 h2 fun h' tk hk => ⟨.bl _, H, I.kept hk, rfl, by rw [h3]; exact q⟩
theorem cr_allT (hc : X.calm = true) : CallR X (.builtin "all") (rAllT X.K) := by
  intro pins s σ H vs us Q I r h
  obtain ⟨ds, bs, ⟨a, rfl, hd⟩, hb, q⟩ := h
  rw [Vals.ref1 r]
  obtain ⟨h1, h2, _, h3⟩ := asT_ok hb
  rcases hd with hd | hd
  · obtain ⟨as, rr⟩ := Dp.reads I _ _ _ hd rfl
    obtain ⟨ws, cs, hl, hr⟩ := readsL rr
    exact PySem.W.all_list_data (I.ok.hd hc) hl hr h1 h2 fun h' tk hk => ⟨.bl _, H, I.kept hk, rfl, by rw [h3]; exact q⟩
  · obtain ⟨as, rr⟩ := Dp.reads I _ _ _ hd rfl
    obtain ⟨ws, cs, hl, hr⟩ := readsT rr
    exact PySem.W.all_tuple_data (I.ok.hd hc) hl hr h1 h2 fun h' tk hk => ⟨.bl _, H, I.kept hk, rfl, by rw [h3]; exact q⟩
def rSumA (K : PySem.W.Frag) : List V → Hp → VK → Prop := fun vs H Q => ∃ (a : Addr) (ns : List Int), vs = [V.ref a] ∧ (SqL K H a (ns.map V.int) ∨ SqT K H a (ns.map V.int)) ∧ Q (.int ns.sum) H
theorem sumT_raw {prog : Program} {w : World} {A : Around} {E : Value → Shared → Prop} {s : Shared} {l : Addr} {its : List Value} {ns : List Int} {Q : Value → Shared → Prop} (hh : A.handled = none) (hl : s.heap.IsTuple l its.toArray) (hi : IntsAre its ns)
    (h : ∀ h' tk t', (∀ b o, s.heap.get? b = some o → h'.get? b = some o) → Q (.int ns.sum t') { s with heap := h', toks := tk }) : wpAny (model prog w) A (call (.builtin "sum") [.ref l]) Q E s := by
  obtain ⟨xs, hx⟩ := hi.allInts.items
  have hn : numsOf its.toArray.toList = ns := by rw [show its.toArray.toList = its from rfl, hi.numsOf]
  rw [hx] at hl hn
  rw [nums_intItems] at hn
  refine PySem.W.ktm_sumG hh hl fun h' tk t' hk => ?_
  have := h h' tk t' hk
  rw [preSum_eq, List.take_of_length_le (by simp), hn]
  exact this
theorem cr_sumA (hc : X.calm = true) : CallR X (.builtin "sum") (rSumA X.K) := by
  intro pins s σ H vs us Q I r h
  obtain ⟨a, ns, rfl, hs, q⟩ := h
  rcases hs with hs | hs
  · exact cr_sum hc pins s σ H _ us Q I r ⟨a, ns, rfl, hs, q⟩
  · obtain ⟨its, rv, hl, _⟩ := I.tuple hs
    rw [Vals.ref1 r]
    exact sumT_raw (I.ok.hd hc) (show s.heap.IsTuple a its.toArray from hl) rv.ints fun h' tk t' hk => ⟨.int _, H, I.kept hk, ⟨_, rfl⟩, q⟩

/-! what they are on data -/
def gLen : List D → Option D
  | [.list xs] => some (.int xs.length)
  | [.tuple xs] => some (.int xs.length)
  | [.str y] => if fitB y.length then some (.int y.length) else none
  | _ => none
def rLenF (K : PySem.W.Frag) : List V → Hp → VK → Prop := fun xs H Q => ∃ x n, xs = [x] ∧ LenV K x H n ∧ Q (.int n) H
theorem All2.one {α β : Type} {P : α → β → Prop} {as : List α} {b : β} (h : All2 P as [b]) : ∃ a, as = [a] ∧ P a b := by
  cases as with
  | nil => exact h.elim
  | cons a r =>
    cases r with
    | nil => exact ⟨a, rfl, h.1⟩
    | cons _ _ => exact h.2.elim
theorem All2.two {α β : Type} {P : α → β → Prop} {as : List α} {b c : β} (h : All2 P as [b, c]) : ∃ a d, as = [a, d] ∧ P a b ∧ P d c := by
  cases as with
  | nil => exact h.elim
  | cons a r =>
    obtain ⟨d, rfl, h2⟩ := All2.one h.2
    exact ⟨a, d, rfl, h.1, h2⟩
theorem d_len : CallD K (rLenF K) gLen := by
  intro Hc H vs ds z Q s hx hz q
  unfold gLen at hz
  split at hz
  · cases hz
    obtain ⟨v, rfl, hp⟩ := hx.one
    obtain ⟨a, ws, rfl, h1, h2⟩ := hp.list s
    exact ⟨_, ws.length, rfl, .inl ⟨ws, SqL.of h1, rfl⟩, by rw [h2.length]; exact q _ _ _ (.refl s) (.int _)⟩
  · cases hz
    obtain ⟨v, rfl, hp⟩ := hx.one
    obtain ⟨a, ws, rfl, h1, h2⟩ := hp.tuple s
    exact ⟨_, ws.length, rfl, .inr ⟨ws, h1, rfl⟩, by rw [h2.length]; exact q _ _ _ (.refl s) (.int _)⟩
  · split at hz
    · rename_i hf
      cases hz
      obtain ⟨v, rfl, hp⟩ := hx.one
      rw [hp.str]
      exact ⟨_, _, rfl, ⟨fitB_le hf, rfl⟩, q _ _ _ (.refl s) (.int _)⟩
    · cases hz
  · cases hz
def gAny : List D → Option D
  | [.list xs] => (asT xs).map fun bs => .bool (bs.any id)
  | [.tuple xs] => (asT xs).map fun bs => .bool (bs.any id)
  | _ => none
def gAll : List D → Option D
  | [.list xs] => (asT xs).map fun bs => .bool (bs.all id)
  | [.tuple xs] => (asT xs).map fun bs => .bool (bs.all id)
  | _ => none
theorem Pk.ref_list {Hc H : Hp} {v : V} {xs : List D} (h : Pk K Hc H v (.list xs)) (s : Sub Hc H) : ∃ a, v = .ref a ∧ Dp K H (.ref a) (.list xs) := by
  obtain ⟨a, ws, rfl, h1, h2⟩ := h.list s
  exact ⟨a, rfl, (h.dv s).dp⟩
theorem Pk.ref_tuple {Hc H : Hp} {v : V} {xs : List D} (h : Pk K Hc H v (.tuple xs)) (s : Sub Hc H) : ∃ a, v = .ref a ∧ Dp K H (.ref a) (.tuple xs) := by
  obtain ⟨a, ws, rfl, h1, h2⟩ := h.tuple s
  exact ⟨a, rfl, (h.dv s).dp⟩
theorem d_any : CallD K (rAnyT K) gAny := by
  intro Hc H vs ds z Q s hx hz q
  unfold gAny at hz
  split at hz
  · obtain ⟨v, rfl, hp⟩ := hx.one
    rename_i xs
    cases hb : asT xs with
    | none => rw [hb] at hz; cases hz
    | some bs =>
      rw [hb] at hz; cases hz
      obtain ⟨a, rfl, h1⟩ := hp.ref_list s
      exact ⟨xs, bs, ⟨a, rfl, .inl h1⟩, hb, q _ _ _ (.refl s) (.bl _)⟩
  · obtain ⟨v, rfl, hp⟩ := hx.one
    rename_i xs
    cases hb : asT xs with
    | none => rw [hb] at hz; cases hz
    | some bs =>
      rw [hb] at hz; cases hz
      obtain ⟨a, rfl, h1⟩ := hp.ref_tuple s
      exact ⟨xs, bs, ⟨a, rfl, .inr h1⟩, hb, q _ _ _ (.refl s) (.bl _)⟩
  · cases hz
theorem d_all : CallD K (rAllT K) gAll := by
  intro Hc H vs ds z Q s hx hz q
  unfold gAll at hz
  split at hz
  · obtain ⟨v, rfl, hp⟩ := hx.one
    rename_i xs
    cases hb : asT xs with
    | none => rw [hb] at hz; cases hz
    | some bs =>
      rw [hb] at hz; cases hz
      obtain ⟨a, rfl, h1⟩ := hp.ref_list s
      exact ⟨xs, bs, ⟨a, rfl, .inl h1⟩, hb, q _ _ _ (.refl s) (.bl _)⟩
  · obtain ⟨v, rfl, hp⟩ := hx.one
    rename_i xs
    cases hb : asT xs with
    | none => rw [hb] at hz; cases hz
    | some bs =>
      rw [hb] at hz; cases hz
      obtain ⟨a, rfl, h1⟩ := hp.ref_tuple s
      exact ⟨xs, bs, ⟨a, rfl, .inr h1⟩, hb, q _ _ _ (.refl s) (.bl _)⟩
  · cases hz
def gSum : List D → Option D
  | [.list xs] => (asI xs).map fun ns => .int ns.sum
  | [.tuple xs] => (asI xs).map fun ns => .int ns.sum
  | _ => none
theorem d_sum : CallD K (rSumA K) gSum := by
  intro Hc H vs ds z Q s hx hz q
  unfold gSum at hz
  split at hz
  · obtain ⟨v, rfl, hp⟩ := hx.one
    rename_i xs
    cases hb : asI xs with
    | none => rw [hb] at hz; cases hz
    | some ns =>
      rw [hb] at hz; cases hz
      obtain ⟨a, ws, rfl, h1, h2⟩ := hp.list s
      rw [asI_ok hb] at h2
      rw [h2.map_int] at h1
      exact ⟨a, ns, rfl, .inl (SqL.of h1), q _ _ _ (.refl s) (.int _)⟩
  · obtain ⟨v, rfl, hp⟩ := hx.one
    rename_i xs
    cases hb : asI xs with
    | none => rw [hb] at hz; cases hz
    | some ns =>
      rw [hb] at hz; cases hz
      obtain ⟨a, ws, rfl, h1, h2⟩ := hp.tuple s
      rw [asI_ok hb] at h2
      rw [h2.map_int] at h1
      exact ⟨a, ns, rfl, .inr h1, q _ _ _ (.refl s) (.int _)⟩
  · cases hz
/-- the greatest, the least of numbers -/
def topI (n : Int) (ns : List Int) : Int := ns.foldl (fun a y => if a < y then y else a) n
def lowI (n : Int) (ns : List Int) : Int := ns.foldl (fun a y => if y < a then y else a) n
theorem topI_spec : ∀ (ns : List Int) (n : Int), topI n ns ∈ n :: ns ∧ ∀ y ∈ n :: ns, y ≤ topI n ns
  | [], n => ⟨List.mem_cons_self, fun y hy => by simp at hy; subst hy; exact Int.le_refl _⟩
  | m :: ns, n => by
    have e : topI n (m :: ns) = topI (if n < m then m else n) ns := rfl
    obtain ⟨h1, h2⟩ := topI_spec ns (if n < m then m else n)
    rw [e]
    have h3 := h2 _ List.mem_cons_self
    refine ⟨?_, fun y hy => ?_⟩
    · rcases List.mem_cons.mp h1 with h1 | h1
      · rw [h1]; split <;> simp
      · exact List.mem_cons_of_mem _ (List.mem_cons_of_mem _ h1)
    · have h5 : ∀ z ∈ ns, _ := fun z hz => h2 z (List.mem_cons_of_mem _ hz)
      generalize topI (if n < m then m else n) ns = t at h3 h5 ⊢
      rcases List.mem_cons.mp hy with rfl | hy
      · split at h3 <;> omega
      · rcases List.mem_cons.mp hy with rfl | hy
        · split at h3 <;> omega
        · exact h5 y hy
theorem lowI_spec : ∀ (ns : List Int) (n : Int), lowI n ns ∈ n :: ns ∧ ∀ y ∈ n :: ns, lowI n ns ≤ y
  | [], n => ⟨List.mem_cons_self, fun y hy => by simp at hy; subst hy; exact Int.le_refl _⟩
  | m :: ns, n => by
    have e : lowI n (m :: ns) = lowI (if m < n then m else n) ns := rfl
    obtain ⟨h1, h2⟩ := lowI_spec ns (if m < n then m else n)
    rw [e]
    have h3 := h2 _ List.mem_cons_self
    refine ⟨?_, fun y hy => ?_⟩
    · rcases List.mem_cons.mp h1 with h1 | h1
      · rw [h1]; split <;> simp
      · exact List.mem_cons_of_mem _ (List.mem_cons_of_mem _ h1)
    · have h5 : ∀ z ∈ ns, _ := fun z hz => h2 z (List.mem_cons_of_mem _ hz)
      generalize lowI (if m < n then m else n) ns = t at h3 h5 ⊢
      rcases List.mem_cons.mp hy with rfl | hy
      · split at h3 <;> omega
      · rcases List.mem_cons.mp hy with rfl | hy
        · split at h3 <;> omega
        · exact h5 y hy
def gMax : List D → Option D
  | [.list xs] => (asI xs).bind fun ns => match ns with
    | n :: r => some (.int (topI n r))
    | [] => none
  | [.tuple xs] => (asI xs).bind fun ns => match ns with
    | n :: r => some (.int (topI n r))
    | [] => none
  | [.int i, .int j] => some (.int (if j > i then j else i))
  | _ => none
def gMin : List D → Option D
  | [.list xs] => (asI xs).bind fun ns => match ns with
    | n :: r => some (.int (lowI n r))
    | [] => none
  | [.tuple xs] => (asI xs).bind fun ns => match ns with
    | n :: r => some (.int (lowI n r))
    | [] => none
  | [.int i, .int j] => some (.int (if j < i then j else i))
  | _ => none
def rMaxT (K : PySem.W.Frag) : List V → Hp → VK → Prop := fun vs H Q => ∃ (a : Addr) (n : Int) (ns : List Int), vs = [V.ref a] ∧ SqT K H a ((n :: ns).map V.int) ∧ Q (.int (topI n ns)) H
def rMinT (K : PySem.W.Frag) : List V → Hp → VK → Prop := fun vs H Q => ∃ (a : Addr) (n : Int) (ns : List Int), vs = [V.ref a] ∧ SqT K H a ((n :: ns).map V.int) ∧ Q (.int (lowI n ns)) H
def rMax2 (K : PySem.W.Frag) : List V → Hp → VK → Prop := fun xs H Q => (rMax K xs H Q ∨ rMaxT K xs H Q) ∨ ∃ i j, xs = [.int i, .int j] ∧ Q (.int (if j > i then j else i)) H
def rMin2 (K : PySem.W.Frag) : List V → Hp → VK → Prop := fun xs H Q => (rMin K xs H Q ∨ rMinT K xs H Q) ∨ ∃ i j, xs = [.int i, .int j] ∧ Q (.int (if j < i then j else i)) H
theorem CallR.or {f : Value} {r r' : List V → Hp → VK → Prop} (h : CallR X f r) (h' : CallR X f r') : CallR X f fun xs H Q => r xs H Q ∨ r' xs H Q := by
  intro pins s σ H vs us Q I r q
  rcases q with q | q
  · exact h pins s σ H vs us Q I r q
  · exact h' pins s σ H vs us Q I r q
theorem topI_max : ∀ (ns : List Int) (n : Int), ns.foldl max n = topI n ns
  | [], _ => rfl
  | m :: ns, n => by
    show ns.foldl max (max n m) = topI (if n < m then m else n) ns
    rw [topI_max ns]
    congr 1
    split <;> omega
theorem lowI_min : ∀ (ns : List Int) (n : Int), ns.foldl min n = lowI n ns
  | [], _ => rfl
  | m :: ns, n => by
    show ns.foldl min (min n m) = lowI (if m < n then m else n) ns
    rw [lowI_min ns]
    congr 1
    split <;> omega
theorem dp_ints {K : PySem.W.Frag} {H : Hp} : ∀ (ns : List Int), DpAll K H (ns.map V.int) (ns.map PyData.int)
  | [] => .nil
  | n :: ns => .cons (.int n) (dp_ints ns)
theorem depth_ints0 : ∀ xs : List Int, PyData.depthAll (xs.map PyData.int) = 0
  | [] => by simp [PyData.depthAll]
  | x :: xs => by
    rw [List.map_cons, PyData.depthAll, depth_ints0 xs]
    simp [PyData.depth]
theorem alike_all (xs : List Int) : PySem.W.AlikeAll (xs.map PyData.int) := by
  constructor
  · intro x hx y hy
    obtain ⟨i, _, rfl⟩ := List.mem_map.mp hx
    obtain ⟨j, _, rfl⟩ := List.mem_map.mp hy
    simp [PySem.W.alike]
  · intro x hx
    obtain ⟨i, _, rfl⟩ := List.mem_map.mp hx
    exact fun z => nomatch z
theorem cr_maxT (hc : X.calm = true) (hu : X.A.units + 64 < cLine) : CallR X (.builtin "max") (rMaxT X.K) := by
  intro pins s σ H vs us Q I r h
  obtain ⟨a, n, ns, rfl, hs, q⟩ := h
  obtain ⟨its, rv, pl, hz⟩ := I.tuple hs
  rw [Vals.ref1 r]
  obtain ⟨as, hr⟩ := Dp.readsAll I _ _ _ (dp_ints (n :: ns)) rv
  refine PySem.W.max_tuple_data (I.ok.hd hc) pl (by simpa using hr) (alike_all (n :: ns)) (by rw [← List.map_cons (f := PyData.int), depth_ints0]; omega) fun i v h' tk bs hv hrd hk => ?_
  rw [PySem.W.maxD_ints, topI_max] at hrd
  cases hrd
  exact ⟨.int (topI n ns), H, (I.kept fun b o e => hk b o e), ⟨_, rfl⟩, q⟩
theorem cr_minT (hc : X.calm = true) (hu : X.A.units + 64 < cLine) : CallR X (.builtin "min") (rMinT X.K) := by
  intro pins s σ H vs us Q I r h
  obtain ⟨a, n, ns, rfl, hs, q⟩ := h
  obtain ⟨its, rv, pl, hz⟩ := I.tuple hs
  rw [Vals.ref1 r]
  obtain ⟨as, hr⟩ := Dp.readsAll I _ _ _ (dp_ints (n :: ns)) rv
  refine PySem.W.min_tuple_data (I.ok.hd hc) pl (by simpa using hr) (alike_all (n :: ns)) (by rw [← List.map_cons (f := PyData.int), depth_ints0]; omega) fun i v h' tk bs hv hrd hk => ?_
  rw [PySem.W.minD_ints, lowI_min] at hrd
  cases hrd
  exact ⟨.int (lowI n ns), H, (I.kept fun b o e => hk b o e), ⟨_, rfl⟩, q⟩
theorem cr_max2 (hc : X.calm = true) (hu : X.A.units + 64 < cLine) : CallR X (.builtin "max") (rMax2 X.K) := CallR.or (CallR.or (cr_max hc) (cr_maxT hc hu)) (call_max2 hc)
theorem cr_min2 (hc : X.calm = true) (hu : X.A.units + 64 < cLine) : CallR X (.builtin "min") (rMin2 X.K) := CallR.or (CallR.or (cr_min hc) (cr_minT hc hu)) (call_min2 hc)
theorem d_max : CallD K (rMax2 K) gMax := by
  intro Hc H vs ds z Q s hx hz q
  unfold gMax at hz
  split at hz
  · obtain ⟨v, rfl, hp⟩ := hx.one
    rename_i xs
    cases hb : asI xs with
    | none => rw [hb] at hz; cases hz
    | some ns =>
      rw [hb] at hz
      cases ns with
      | nil => cases hz
      | cons n r =>
        cases hz
        obtain ⟨a, ws, rfl, h1, h2⟩ := hp.list s
        rw [asI_ok hb] at h2
        rw [h2.map_int] at h1
        refine .inl (.inl ⟨a, n :: r, rfl, SqL.of h1, by simp, fun m hm hle => ?_⟩)
        obtain ⟨t1, t2⟩ := topI_spec r n
        have e : m = topI n r := Int.le_antisymm (t2 m hm) (hle _ t1)
        rw [e]
        exact q _ _ _ (.refl s) (.int _)
  · obtain ⟨v, rfl, hp⟩ := hx.one
    rename_i xs
    cases hb : asI xs with
    | none => rw [hb] at hz; cases hz
    | some ns =>
      rw [hb] at hz
      cases ns with
      | nil => cases hz
      | cons n r =>
        cases hz
        obtain ⟨a, ws, rfl, h1, h2⟩ := hp.tuple s
        rw [asI_ok hb] at h2
        rw [h2.map_int] at h1
        exact .inl (.inr ⟨a, n, r, rfl, h1, q _ _ _ (.refl s) (.int _)⟩)
  · cases hz
    obtain ⟨x, y, rfl, hp, hp2⟩ := hx.two
    rw [hp.int, hp2.int]
    exact .inr ⟨_, _, rfl, q _ _ _ (.refl s) (.int _)⟩
  · cases hz
theorem d_min : CallD K (rMin2 K) gMin := by
  intro Hc H vs ds z Q s hx hz q
  unfold gMin at hz
  split at hz
  · obtain ⟨v, rfl, hp⟩ := hx.one
    rename_i xs
    cases hb : asI xs with
    | none => rw [hb] at hz; cases hz
    | some ns =>
      rw [hb] at hz
      cases ns with
      | nil => cases hz
      | cons n r =>
        cases hz
        obtain ⟨a, ws, rfl, h1, h2⟩ := hp.list s
        rw [asI_ok hb] at h2
        rw [h2.map_int] at h1
        refine .inl (.inl ⟨a, n :: r, rfl, SqL.of h1, by simp, fun m hm hle => ?_⟩)
        obtain ⟨t1, t2⟩ := lowI_spec r n
        have e : m = lowI n r := Int.le_antisymm (hle _ t1) (t2 m hm)
        rw [e]
        exact q _ _ _ (.refl s) (.int _)
  · obtain ⟨v, rfl, hp⟩ := hx.one
    rename_i xs
    cases hb : asI xs with
    | none => rw [hb] at hz; cases hz
    | some ns =>
      rw [hb] at hz
      cases ns with
      | nil => cases hz
      | cons n r =>
        cases hz
        obtain ⟨a, ws, rfl, h1, h2⟩ := hp.tuple s
        rw [asI_ok hb] at h2
        rw [h2.map_int] at h1
        exact .inl (.inr ⟨a, n, r, rfl, h1, q _ _ _ (.refl s) (.int _)⟩)
  · cases hz
    obtain ⟨x, y, rfl, hp, hp2⟩ := hx.two
    rw [hp.int, hp2.int]
    exact .inr ⟨_, _, rfl, q _ _ _ (.refl s) (.int _)⟩
  · cases hz
def gAbs : List D → Option D
  | [.int i] => some (.int (if i < 0 then -i else i))
  | _ => none
theorem d_abs : CallD K (fun xs H Q => ∃ i, xs = [.int i] ∧ Q (.int (if i < 0 then -i else i)) H) gAbs := by
  intro Hc H vs ds z Q s hx hz q
  unfold gAbs at hz
  split at hz
  · cases hz
    obtain ⟨v, rfl, hp⟩ := hx.one
    rw [hp.int]
    exact ⟨_, rfl, q _ _ _ (.refl s) (.int _)⟩
  · cases hz
def gInt : List D → Option D
  | [.int i] => some (.int i)
  | [.bool b] => some (.int (if b then 1 else 0))
  | _ => none
theorem d_int : CallD K (fun xs H Q => (∃ i, xs = [.int i] ∧ Q (.int i) H) ∨ ∃ k, xs = [.bl k] ∧ Q (.int (if k then 1 else 0)) H) gInt := by
  intro Hc H vs ds z Q s hx hz q
  unfold gInt at hz
  split at hz
  · cases hz
    obtain ⟨v, rfl, hp⟩ := hx.one
    rw [hp.int]
    exact .inl ⟨_, rfl, q _ _ _ (.refl s) (.int _)⟩
  · cases hz
    obtain ⟨v, rfl, hp⟩ := hx.one
    rw [hp.bool]
    exact .inr ⟨_, rfl, q _ _ _ (.refl s) (.int _)⟩
  · cases hz
def gList : List D → Option D
  | [.list xs] => some (.list xs)
  | [.tuple xs] => some (.list xs)
  | _ => none
theorem d_list : CallD K (fun xs H Q => ∃ p ys, xs = [.ref p] ∧ (SqL K H p ys ∨ SqT K H p ys) ∧ ∀ l, H l = none → Q (.ref l) (upd H l (.lst ys))) gList := by
  intro Hc H vs ds z Q s hx hz q
  unfold gList at hz
  split at hz
  · cases hz
    obtain ⟨v, rfl, hp⟩ := hx.one
    obtain ⟨a, ws, rfl, h1, h2⟩ := hp.list s
    exact ⟨a, ws, rfl, .inl (SqL.of h1), fun p hp => q _ _ _ (.new s hp) (.lst upd_same ((Sub.upd (s.none hp)).dvAll h2))⟩
  · cases hz
    obtain ⟨v, rfl, hp⟩ := hx.one
    obtain ⟨a, ws, rfl, h1, h2⟩ := hp.tuple s
    exact ⟨a, ws, rfl, .inr h1, fun p hp => q _ _ _ (.new s hp) (.lst upd_same ((Sub.upd (s.none hp)).dvAll h2))⟩
  · cases hz
def gTuple : List D → Option D
  | [.list xs] => some (.tuple xs)
  | [.tuple xs] => some (.tuple xs)
  | _ => none
theorem d_tuple : CallD K (fun xs H Q => ∃ p ys, xs = [.ref p] ∧ ((SqL K H p ys ∧ ∀ l, H l = none → Q (.ref l) (upd H l (.tup ys))) ∨ (SqT K H p ys ∧ Q (.ref p) H))) gTuple := by
  intro Hc H vs ds z Q s hx hz q
  unfold gTuple at hz
  split at hz
  · cases hz
    obtain ⟨v, rfl, hp⟩ := hx.one
    obtain ⟨a, ws, rfl, h1, h2⟩ := hp.list s
    exact ⟨a, ws, rfl, .inl ⟨SqL.of h1, fun p hp => q _ _ _ (.new s hp) (.tup (SqT.of upd_same) ((Sub.upd (s.none hp)).dvAll h2))⟩⟩
  · cases hz
    obtain ⟨v, rfl, hp⟩ := hx.one
    have t1 := hp.shut (fun _ z => nomatch z)
    obtain ⟨a, ws, rfl, h1, h2⟩ := hp.tuple s
    exact ⟨a, ws, rfl, .inr ⟨h1, q _ _ _ (.refl s) t1⟩⟩
  · cases hz
end
section
variable {X : Cx} {E : XK} {C : Addr} {e a b c : Expr} {es : List Expr} {pos : Pos}
theorem de_callTy {T : String} {x : Str} {p : Pos} {r : List V → Hp → VK → Prop} {g : List D → Option D} {f : Ev (List D)} (hr : CallD X.K r g) (hc : CallR X (.type T) r) (hg : Gl X x) (hm : X.mg x = none) (hv : bootBuiltins x = some (.type T)) (ha : DAK X E C (e :: es) f) (hn : x ≠ "__name__") (hd : (x == ("__debug__" : Str)) = false)
    (hs : starEach (e :: es) X.env = (false, eval e X.env) :: starEach es X.env) (hpl : (backTo pos (starEach es X.env)).any (·.1) = false) : DE X E C (.Call (.Name x p) (e :: es) [] pos) (evB1 g f) := by
  obtain ⟨t, pa, ra⟩ := ha
  exact ⟨_, pe_callTy hc hg hm hv pa hn hd hs hpl, CallD.read hr ra⟩
end
end L2.DL

set_option Elab.async false
set_option linter.all false
set_option maxRecDepth 100000
set_option maxHeartbeats 1000000
/-! D layer 6: calls of defs, comprehensions. -/
namespace L2.DL
open PySem PySem.Spec PyProof.Rows
variable [TabL]

/-! ### calls -/
abbrev Fn := List Sl → Dr → R (D × Dr)
def ArgV (K : PySem.W.Frag) (da : Option Addr) (Hc : Hp) (v : V) : Sl → Prop
  | .val d => Dv K Hc v d
  | .drw => ∃ a, v = .ref a ∧ da = some a
  | .scr ns => ∃ a, v = .ref a ∧ SqL K Hc a (ns.map V.int)
  | _ => False
def ArgE (K : PySem.W.Frag) (ad : Nat → Addr) (env : En) (Hc : Hp) (v : V) : Sl → Prop
  | .val d => Dv K Hc v d
  | .drw => ∃ i, env[i]? = some .drw ∧ v = .ref (ad i)
  | .scr ns => ∃ a, v = .ref a ∧ SqL K Hc a (ns.map V.int)
  | _ => False
def isDrw : Sl → Bool
  | .drw => true
  | _ => false
/-- how many arguments are the draws -/
def drwN (args : List Sl) : Nat := (args.filter isDrw).length
structure ArgsOk (K : PySem.W.Frag) (Hc H : Hp) (s : Dr) (da : Option Addr) (vs : List V) (args : List Sl) : Prop where
  sub : Sub Hc H
  all : All2 (ArgV K da Hc) vs args
  dr : ∀ a, da = some a → DrAt K Hc H a s ∧ Hc a = none
  one : drwN args ≤ 1
  tabs : Tbs H
  noT : NoT Hc
def FPost (K : PySem.W.Frag) (E : XK) (C : Addr) (da : Option Addr) (Hc H : Hp) (Q : VK) : R (D × Dr) → Prop
  | .ok (d, s') => ∀ v Hc' H', Nx da Hc H Hc' H' → Sub Hc' H' → (∀ a, da = some a → DrAt K Hc' H' a s' ∧ Hc' a = none) → Dv K Hc' v d → Q v H'
  | .err c => ∀ dx H', Nx da Hc H Hc H' → H' dx = some (.xd [(("code" : Str), .str c)]) → E (.ref C) (some dx) H'
  | .stuck => False
/-- a def's promise by its pure function -/
def spF (K : PySem.W.Frag) (C : Addr) (n : Nat) (F : Fn) : Sp := fun vs H Q E => ∃ Hc s da args, args.length = n ∧ ArgsOk K Hc H s da vs args ∧ FPost K E C da Hc H Q (F args s)
def evCall (n : Nat) (F : Fn) (fa : Ev (List Sl)) : Ev D := fun env s => (fa env s).bind fun p => if p.1.length = n then (match drwN p.1 with
  | 0 => (F p.1 p.2).bind fun q => .ok (q.1, p.2)
  | 1 => F p.1 p.2
  | _ => .stuck) else .stuck
section
variable (X : Cx) (E : XK) (C : Addr)
def DAA (es : List Expr) (f : Ev (List Sl)) : Prop := ∃ t : TA, PA X es t ∧ Reads1 X E C (T := Unit) t (fun ad env _ Hc _ vs ds => All2 (ArgE X.K ad env Hc) vs ds) f
end
def evArgs0 : Ev (List Sl) := fun _ s => .ok ([], s)
def evArgC (fa : Ev D) (fr : Ev (List Sl)) : Ev (List Sl) := fun env s => (fa env s).bind fun p => (fr env p.2).bind fun q => .ok (.val p.1 :: q.1, q.2)
def evArgV (i : Nat) (fr : Ev (List Sl)) : Ev (List Sl) := fun env s => match env[i]? with
  | some (.val d) => (fr env s).bind fun q => .ok (.val d :: q.1, q.2)
  | some .drw => (fr env s).bind fun q => .ok (.drw :: q.1, q.2)
  | some (.scr ns) => (fr env s).bind fun q => .ok (.scr ns :: q.1, q.2)
  | _ => .stuck
section
variable {X : Cx} {E : XK} {C : Addr} {e a b c : Expr} {es : List Expr} {pos : Pos}
theorem ArgE.mono {K : PySem.W.Frag} {ad : Nat → Addr} {env : En} {Hc Hc1 : Hp} {v : V} {x : Sl} (h : ArgE K ad env Hc v x) (u : Sub Hc Hc1) : ArgE K ad env Hc1 v x := by
  cases x with
  | val d => exact u.dv h
  | drw => exact h
  | no => exact h
  | lst _ _ => exact h
  | scr _ =>
    obtain ⟨a, h1, h2⟩ := h
    exact ⟨a, h1, u.sqL h2⟩
theorem daa_nil : DAA X E C [] evArgs0 := ⟨tNil, pa_nil, fun ad da Hc H σ env s Q er q => q [] Hc H Nx.refl er trivial⟩
theorem daa_cons {fa : Ev D} {fr : Ev (List Sl)} (ha : DE X E C e fa) (hr : DAA X E C es fr) (hs : starEach (e :: es) X.env = (false, eval e X.env) :: starEach es X.env) : DAA X E C (e :: es) (evArgC fa fr) := by
  obtain ⟨ta, pa, ra⟩ := ha
  obtain ⟨tr, pr, rr⟩ := hr
  refine ⟨_, pa_cons pa pr hs, fun ad da Hc H σ env s Q er q => ra ad da Hc H σ env s _ er (Post.bind q fun d s1 _ v Hc1 H1 n1 e1 p1 q1 => ?_)⟩
  refine rr ad da Hc1 H1 σ env s1 _ e1 (Post.bind q1 fun ds s2 _ vs Hc2 H2 n2 e2 p2 q2 => ?_)
  exact q2 _ Hc2 H2 Nx.refl e2 ⟨n2.sub.dv p1, p2⟩
theorem daa_var {i : Nat} {x : Str} {p : Pos} {fr : Ev (List Sl)} (hN : X.N[i]? = some x) (hv : Vis X.env.scope x) (hd : (x == ("__debug__" : Str)) = false) (hcd : (x == ("__classdict__" : Str)) = false) (hr : DAA X E C es fr)
    (hs : starEach (.Name x p :: es) X.env = (false, eval (.Name x p) X.env) :: starEach es X.env) : DAA X E C (.Name x p :: es) (evArgV i fr) := by
  obtain ⟨tr, pr, rr⟩ := hr
  refine ⟨_, pa_cons (pe_var hN hv hd hcd) pr hs, fun ad da Hc H σ env s Q er q => ?_⟩
  unfold evArgV at q
  cases hx : env[i]? with
  | none => rw [hx] at q; exact q.elim
  | some x =>
    rw [hx] at q
    cases x with
    | val d =>
      obtain ⟨v, h1, h2⟩ := er.slot i _ hx
      refine ⟨v, h1, rr ad da Hc H σ env s _ er (Post.bind q fun ds s2 _ vs Hc2 H2 n2 e2 p2 q2 => ?_)⟩
      exact q2 _ Hc2 H2 Nx.refl e2 ⟨n2.sub.dv h2, p2⟩
    | drw =>
      have h1 := er.slot i _ hx
      refine ⟨_, h1, rr ad da Hc H σ env s _ er (Post.bind q fun ds s2 _ vs Hc2 H2 n2 e2 p2 q2 => ?_)⟩
      exact q2 _ Hc2 H2 Nx.refl e2 ⟨⟨i, hx, rfl⟩, p2⟩
    | no => exact q.elim
    | lst lk xs => exact q.elim
    | scr ns =>
      obtain ⟨a, h1, h2⟩ := er.slot i _ hx
      refine ⟨_, h1, rr ad da Hc H σ env s _ er (Post.bind q fun ds s2 _ vs Hc2 H2 n2 e2 p2 q2 => ?_)⟩
      exact q2 _ Hc2 H2 Nx.refl e2 ⟨⟨a, rfl, n2.sub.sqL h2⟩, p2⟩
theorem ArgE.argV {K : PySem.W.Frag} {ad : Nat → Addr} {da : Option Addr} {env : En} {Hc H : Hp} {σ : St} {s : Dr} {v : V} {x : Sl} (h : ArgE K ad env Hc v x) (er : ER K ad da Hc H σ env s) : ArgV K da Hc v x := by
  cases x with
  | val d => exact h
  | drw =>
    obtain ⟨i, h1, h2⟩ := h
    exact ⟨_, h2, er.drs i h1⟩
  | no => exact h
  | lst _ _ => exact h
  | scr _ => exact h
theorem drw_mem {args : List Sl} (h : drwN args ≠ 0) : Sl.drw ∈ args := by
  induction args with
  | nil => exact absurd rfl h
  | cons a r ih =>
    cases a with
    | drw => exact List.mem_cons_self
    | no => exact List.mem_cons_of_mem _ (ih h)
    | val d => exact List.mem_cons_of_mem _ (ih h)
    | lst _ _ => exact List.mem_cons_of_mem _ (ih h)
    | scr _ => exact List.mem_cons_of_mem _ (ih h)
theorem argV_none {K : PySem.W.Frag} {da : Option Addr} {Hc : Hp} : ∀ {vs : List V} {args : List Sl}, All2 (ArgV K da Hc) vs args → drwN args = 0 → All2 (ArgV K none Hc) vs args
  | [], [], _, _ => trivial
  | v :: vs, x :: args, h, hn => by
    cases x with
    | drw => simp [drwN, isDrw] at hn
    | val d => exact ⟨h.1, argV_none h.2 hn⟩
    | no => exact ⟨h.1, argV_none h.2 hn⟩
    | lst _ _ => exact ⟨h.1, argV_none h.2 hn⟩
    | scr _ => exact ⟨h.1, argV_none h.2 hn⟩
theorem All2.mem {α β : Type} {P : α → β → Prop} : ∀ {as : List α} {bs : List β} {b : β}, All2 P as bs → b ∈ bs → ∃ a, P a b
  | [], [], b, _, hm => absurd hm (by simp)
  | a :: as, c :: bs, b, h, hm => by
    rcases List.mem_cons.mp hm with rfl | hm
    · exact ⟨a, h.1⟩
    · exact All2.mem h.2 hm
theorem spF_of {n : Nat} {F : Fn} {fa : Ev (List Sl)} {ad : Nat → Addr} {da : Option Addr} {Hc H Hc1 H1 : Hp} {σ : St} {env : En} {Q : VK} {args : List Sl} {s1 : Dr} {vs : List V} (e1 : ER X.K ad da Hc1 H1 σ env s1) (p1 : All2 (ArgE X.K ad env Hc1) vs args)
    (q1 : PostX X E C ad da Hc1 H1 σ env (fun Hc _ v d => Dv X.K Hc v d) Q (if args.length = n then (match drwN args with
      | 0 => (F args s1).bind fun q => .ok (q.1, s1)
      | 1 => F args s1
      | _ => .stuck) else .stuck)) : spF X.K C n F vs H1 Q E := by
  split at q1
  · rename_i hl
    have hv : All2 (ArgV X.K da Hc1) vs args := p1.imp fun _ _ z => z.argV e1
    cases hd : drwN args with
    | zero =>
      rw [hd] at q1
      refine ⟨Hc1, s1, none, args, hl, ⟨e1.sub, argV_none hv hd, (fun a z => nomatch z), by omega, e1.tabs, e1.noT⟩, ?_⟩
      cases hF : F args s1 with
      | ok p =>
        rw [hF] at q1
        intro v Hc' H' nn sc _ hdv
        have hk : ∀ b vs, H1 b = some (.lst vs) → Hc1 b = none → H' b = some (.lst vs) := fun b o h1 _ => nn.keep _ _ h1 (fun z => nomatch z) nT_lst
        exact q1 v Hc' H' ⟨nn.sub, nn.fresh, (fun b o e _ => nn.keep b o e (fun z => nomatch z)), nn.there, nn.tab, nn.noT⟩ (e1.grow sc nn.sub nn.fresh hk nn.tab nn.noT) hdv
      | err c =>
        rw [hF] at q1
        intro dx H' nn hx
        exact q1 dx H' ⟨nn.sub, nn.fresh, (fun b o e _ => nn.keep b o e (fun z => nomatch z)), nn.there, nn.tab, nn.noT⟩ hx
      | stuck => rw [hF] at q1; exact q1.elim
    | succ m =>
      cases m with
      | zero =>
        rw [hd] at q1
        have hm := drw_mem (args := args) (by omega)
        obtain ⟨v0, i0, h1, h2⟩ := All2.mem p1 hm
        have hda := e1.drs i0 h1
        refine ⟨Hc1, s1, da, args, hl, ⟨e1.sub, hv, e1.drA, by omega, e1.tabs, e1.noT⟩, ?_⟩
        · cases hF : F args s1 with
          | ok p =>
            rw [hF] at q1
            intro v Hc' H' nn sc hdr hdv
            exact q1 v Hc' H' nn (e1.nx nn sc hdr) hdv
          | err c => rw [hF] at q1; exact q1
          | stuck => rw [hF] at q1; exact q1.elim
      | succ m2 => rw [hd] at q1; exact q1.elim
  · exact q1.elim
theorem de_call {CXX : CXT} {n k : Nat} {F : Fn} {f : Addr} {fd : FuncData} {ps : List Str} {x : Str} {p : Pos} {fa : Ev (List Sl)} (FO : FnOk X.prog X.w X.K X.mg X.base CXX k f fd ps (spF X.K C n F)) (hr : Room k X.A) (hg : Gl X x) (hm : X.mg x = some (.ref f)) (hk : PySem.W.keepIn X.K (.ref f) = true) (hb : Binds X.K fd ps [])
    (hx : Passes CXX X E) (ha : DAA X E C (e :: es) fa) (hdb : (x == ("__debug__" : Str)) = false) (hs : starEach (e :: es) X.env = (false, eval e X.env) :: starEach es X.env) (hpl : (backTo pos (starEach es X.env)).any (·.1) = false) : DE X E C (.Call (.Name x p) (e :: es) [] pos) (evCall n F fa) := by
  obtain ⟨t, pa, ra⟩ := ha
  refine ⟨_, pe_call FO hr hg hm hk hb .nil hx pa hdb hs hpl, fun ad da Hc H σ env s Q er q => ra ad da Hc H σ env s _ er (Post.bind q fun args s1 _ vs Hc1 H1 n1 e1 p1 q1 => ?_)⟩
  show spF X.K C n F (vs ++ []) H1 Q E
  rw [List.append_nil]
  exact spF_of (Hc := Hc) (H := H) (fa := fa) e1 p1 q1
theorem de_call0 {CXX : CXT} {k : Nat} {F : Fn} {f : Addr} {fd : FuncData} {ps : List Str} {x : Str} {p : Pos} (FO : FnOk X.prog X.w X.K X.mg X.base CXX k f fd ps (spF X.K C 0 F)) (hr : Room k X.A) (hg : Gl X x) (hm : X.mg x = some (.ref f)) (hk : PySem.W.keepIn X.K (.ref f) = true) (hb : Binds X.K fd ps [])
    (hx : Passes CXX X E) (hdb : (x == ("__debug__" : Str)) = false) : DE X E C (.Call (.Name x p) [] [] pos) (evCall 0 F evArgs0) := by
  refine ⟨_, pe_call0 FO hr hg hm hk hb .nil hx hdb, fun ad da Hc H σ env s Q er q => ?_⟩
  show spF X.K C 0 F ([] ++ []) H Q E
  exact spF_of (Hc := Hc) (H := H) (fa := evArgs0) (args := []) er trivial q

/-! ### targets -/
inductive Tg where
  | nm (i : Nat)
  | tnil
  | tcons (a r : Tg)
  | tup (ts : Tg)
def setE (i : Nat) (x : Sl) (env : En) : Option En := match env[i]? with
  | some (.lst true _) => none
  | some _ => some (env.set i x)
  | none => none
mutual
def bindT : Tg → D → En → Option En
  | .nm i, d, env => setE i (.val d) env
  | .tup ts, .tuple ds, env => bindTs ts ds env
  | _, _, _ => none
def bindTs : Tg → List D → En → Option En
  | .tnil, [], env => some env
  | .tcons a r, d :: ds, env => (bindT a d env).bind fun env' => bindTs r ds env'
  | _, _, _ => none
end
/-- the slots that a target stores -/
def Tg.slots : Tg → List Nat
  | .nm i => [i]
  | .tnil => []
  | .tcons a r => a.slots ++ r.slots
  | .tup ts => ts.slots
theorem ER.put {K : PySem.W.Frag} {ad : Nat → Addr} {da : Option Addr} {Hc H : Hp} {σ : St} {env env' : En} {s : Dr} {i : Nat} {v : V} {d : D} (e : ER K ad da Hc H σ env s) (hd : Dv K Hc v d) (h : setE i (.val d) env = some env') : ER K ad da Hc H (σ.set i (some v)) env' s := by
  unfold setE at h
  have h' : env' = env.set i (.val d) ∧ i < env.length := by
    cases hx : env[i]? with
    | none => rw [hx] at h; cases h
    | some x =>
      have hi : i < env.length := (List.getElem?_eq_some_iff.mp hx).1
      rw [hx] at h
      cases x with
      | lst lk xs => cases lk <;> simp at h; exact ⟨h.symm, hi⟩
      | no => simp at h; exact ⟨h.symm, hi⟩
      | val _ => simp at h; exact ⟨h.symm, hi⟩
      | drw => simp at h; exact ⟨h.symm, hi⟩
      | scr _ => simp at h; exact ⟨h.symm, hi⟩
  obtain ⟨rfl, hi⟩ := h'
  have old : ∀ j x, (env.set i (.val d))[j]? = some x → j ≠ i → env[j]? = some x := fun j x hj hne => by rw [List.getElem?_set_ne (Ne.symm hne)] at hj; exact hj
  have new : ∀ x, (env.set i (.val d))[i]? = some x → x = .val d := fun x hj => by rw [List.getElem?_set_self hi] at hj; exact (Option.some.inj hj).symm
  refine ⟨e.sub, by rw [List.length_set, List.length_set]; exact e.len, fun j x hj => ?_, fun j k x y hj hk ox oy ha => ?_, fun j hj => ?_, fun j hj => ?_, fun j x hj ho => ?_, e.tabs, e.noT⟩
  · by_cases hji : j = i
    · subst hji
      rw [new x hj]
      exact ⟨v, by rw [List.getElem?_set_self (by rw [e.len]; exact hi)], hd⟩
    · have h1 := e.slot j x (old j x hj hji)
      rw [List.getElem?_set_ne (Ne.symm hji)]
      exact h1
  · have n1 : j ≠ i := fun z => by subst z; rw [new x hj] at ox; cases ox
    have n2 : k ≠ i := fun z => by subst z; rw [new y hk] at oy; cases oy
    exact e.apart j k x y (old j x hj n1) (old k y hk n2) ox oy ha
  · have n1 : j ≠ i := fun z => by subst z; have := new _ hj; cases this
    exact e.drs j (old j _ hj n1)
  · exact e.drA j hj
  · have n1 : j ≠ i := fun z => by subst z; rw [new _ hj] at ho; cases ho
    exact e.lstNe j x (old j _ hj n1) ho
def DG (X : Cx) (tg : Expr) (t : Tg) : Prop := ∃ g : TG, PG X tg g ∧ ∀ (ad : Nat → Addr) (da : Option Addr) (Hc H : Hp) (σ : St) (env env' : En) (s : Dr) (v : V) (d : D) (Q : St → Hp → Prop), ER X.K ad da Hc H σ env s → Dv X.K Hc v d → bindT t d env = some env' →
  (∀ σ', ER X.K ad da Hc H σ' env' s → (∀ vs, (∀ i ∈ t.slots, i ∈ vs) → wipe σ' vs = wipe σ vs) → Q σ' H) → g v σ H Q
def DGs (X : Cx) (tgs : List Expr) (t : Tg) : Prop := ∃ g : TGs, PGs X tgs g ∧ ∀ (ad : Nat → Addr) (da : Option Addr) (Hc H : Hp) (σ : St) (env env' : En) (s : Dr) (v : List V) (d : List D) (Q : St → Hp → Prop), ER X.K ad da Hc H σ env s → DvAll X.K Hc v d → bindTs t d env = some env' →
  (∀ σ', ER X.K ad da Hc H σ' env' s → (∀ vs, (∀ i ∈ t.slots, i ∈ vs) → wipe σ' vs = wipe σ vs) → Q σ' H) → g v σ H Q
theorem wipe_set {σ : St} {i : Nat} {x : Option V} : ∀ {vs : List Nat}, i ∈ vs → wipe (σ.set i x) vs = wipe σ vs
  | v :: vs, h => by
    unfold wipe
    rcases List.mem_cons.mp h with rfl | h
    · by_cases hi : i ∈ vs
      · rw [wipe_set hi]
      · rw [wipe_setOut hi, List.set_set]
    · rw [wipe_set h]
where wipe_setOut {σ : St} {i : Nat} {x : Option V} : ∀ {vs : List Nat}, i ∉ vs → wipe (σ.set i x) vs = (wipe σ vs).set i x
  | [], _ => rfl
  | v :: vs, h => by
    unfold wipe
    rw [wipe_setOut (fun z => h (List.mem_cons_of_mem _ z)), List.set_comm _ _ (fun z => h (by rw [z]; exact List.mem_cons_self))]
theorem dg_name {i : Nat} {x : Str} (hN : X.N.Nodup) (hi : X.N[i]? = some x) (hx : Loc X.env.scope x) (hf : X.fn x = true ∨ X.env.scope.names.lookup x = some .local) : DG X (.Name x pos) (.nm i) :=
  ⟨gName i, pg_name hN hi hx hf, fun ad da Hc H σ env env' s v d Q er hd hb q => q _ (er.put hd (by rw [bindT] at hb; exact hb)) fun vs hv => wipe_set (hv i (by simp [Tg.slots]))⟩
theorem dgs_nil : DGs X [] .tnil := ⟨gNil, pgs_nil, fun ad da Hc H σ env env' s v d Q er hd hb q => by
  cases d with
  | nil =>
    cases hd
    rw [bindTs] at hb
    cases hb
    exact ⟨rfl, q σ er fun _ _ => rfl⟩
  | cons _ _ => simp [bindTs] at hb⟩
theorem dgs_cons {e : Expr} {es : List Expr} {a r : Tg} (ha : DG X e a) (hr : DGs X es r) (hs : (assignEach (e :: es) X.env).map (·.2) = assign e X.env :: (assignEach es X.env).map (·.2)) : DGs X (e :: es) (.tcons a r) := by
  obtain ⟨g, pg, rg⟩ := ha
  obtain ⟨gs, pgs, rgs⟩ := hr
  refine ⟨_, pgs_cons pg pgs hs, fun ad da Hc H σ env env' s v d Q er hd hb q => ?_⟩
  cases d with
  | nil => simp [bindTs] at hb
  | cons d0 ds =>
    cases hd with
    | cons r1 r2 =>
      rw [bindTs] at hb
      cases hb1 : bindT a d0 env with
      | none => rw [hb1] at hb; cases hb
      | some env1 =>
        rw [hb1] at hb
        refine ⟨_, _, rfl, rg ad da Hc H σ env env1 s _ d0 _ er r1 hb1 fun σ1 er1 w1 => ?_⟩
        exact rgs ad da Hc H σ1 env1 env' s _ ds Q er1 r2 hb fun σ2 er2 w2 => q σ2 er2 fun vs hv =>
          (w2 vs fun i hi => hv i (by simp [Tg.slots, hi])).trans (w1 vs fun i hi => hv i (by simp [Tg.slots, hi]))
def Tg.len : Tg → Nat
  | .tcons _ r => r.len + 1
  | _ => 0
theorem bindTs_len : ∀ {t : Tg} {ds : List D} {env env' : En}, bindTs t ds env = some env' → ds.length = t.len
  | .tnil, [], _, _, _ => rfl
  | .tcons a r, d :: ds, env, env', h => by
    rw [bindTs] at h
    cases hb1 : bindT a d env with
    | none => rw [hb1] at h; cases h
    | some env1 =>
      rw [hb1] at h
      rw [List.length_cons, Tg.len, bindTs_len h]
  | .nm _, _, _, _, h => by simp [bindTs] at h
  | .tup _, _, _, _, h => by simp [bindTs] at h
  | .tnil, _ :: _, _, _, h => by simp [bindTs] at h
  | .tcons _ _, [], _, _, h => by simp [bindTs] at h
theorem dg_tup {es : List Expr} {k : Nat} {ts : Tg} (hc : X.calm = true) (h : DGs X es ts) (hn : (assignEach es X.env).length = ts.len) (hst : (assignEach es X.env).findIdx? (·.1) = none) : DG X (.Tuple es k pos) (.tup ts) := by
  obtain ⟨g, pg, rg⟩ := h
  refine ⟨_, pg_tup hc pg hn hst, fun ad da Hc H σ env env' s v d Q er hd hb q => ?_⟩
  cases d with
  | tuple ds =>
    rw [bindT] at hb
    cases hd with
    | tup h1 h2 => exact ⟨_, _, rfl, er.sub.sqT h1, by rw [h2.length, bindTs_len hb], rg ad da Hc H σ env env' s _ ds Q er h2 hb q⟩
  | none => simp [bindT] at hb
  | bool _ => simp [bindT] at hb
  | int _ => simp [bindT] at hb
  | str _ => simp [bindT] at hb
  | list _ => simp [bindT] at hb
  | dict _ => simp [bindT] at hb

/-! ### what is walked -/
/-- at each moment behind (Hc0, W): the items are xs -/
def ItD (K : PySem.W.Frag) (J : It) (W Hc0 : Hp) (xs : List D) : Prop := ∀ (Hc H : Hp) (i : Nat), Sub Hc0 Hc → Sub Hc H → Sub W H →
  (∀ x, xs[i]? = some x → J.go i H ∧ ∀ v H', J.yld i H v H' → ∃ Hc', Al Hc H Hc' H' ∧ Dv K Hc' v x) ∧ (xs.length = i → J.stop i H)
def IPost (K : PySem.W.Frag) (E : XK) (C : Addr) (ad : Nat → Addr) (da : Option Addr) (vs : List Nat) (Hc H : Hp) (σ : St) (env : En) (Q : It → Hp → Prop) : R (List D × Dr) → Prop
  | .ok (xs, s') => ∀ J W Hc' H', Nx da Hc H Hc' H' → ER K ad da Hc' H' σ env s' → Sub W H' → (∀ b o, W b = some o → Hc' b = some o ∨ ∃ i lk ys, i ∈ vs ∧ env[i]? = some (.lst lk ys) ∧ b = ad i) → xs.length ≤ sizeLine → ItD K J W Hc' xs → Q J H'
  | .err c => ∀ dx H', Nx da Hc H Hc H' → H' dx = some (.xd [(("code" : Str), .str c)]) → E (.ref C) (some dx) H'
  | .stuck => False
def DI (X : Cx) (E : XK) (C : Addr) (tg it : Expr) (vs : List Nat) (f : Ev (List D)) : Prop := ∃ wi : TI, PI X tg it wi ∧ ∀ (ad : Nat → Addr) (da : Option Addr) (Hc H : Hp) (σ : St) (env : En) (s : Dr) (Q : It → Hp → Prop), ER X.K ad da Hc H σ env s → IPost X.K E C ad da vs Hc H σ env Q (f env s) → wi σ H Q
theorem IPost.shift {K : PySem.W.Frag} {E : XK} {C : Addr} {ad : Nat → Addr} {da : Option Addr} {vs : List Nat} {Hc H Hc1 H1 : Hp} {σ : St} {env : En} {Q : It → Hp → Prop} {r : R (List D × Dr)} (h : IPost K E C ad da vs Hc H σ env Q r) (n : Nx da Hc H Hc1 H1) : IPost K E C ad da vs Hc1 H1 σ env Q r := by
  cases r with
  | ok p => exact fun J W Hc' H' m e u w z q => h J W Hc' H' (n.trans m) e u w z q
  | err c => exact fun dx H' m q => h dx H' (n.trans m).weak q
  | stuck => exact h
theorem IPost.bind {γ δ : Type} {K : PySem.W.Frag} {E : XK} {C : Addr} {ad : Nat → Addr} {da : Option Addr} {vs : List Nat} {Hc H : Hp} {σ : St} {env : En} {P1 : Hp → Hp → δ → γ → Prop} {Q : It → Hp → Prop} {R1 : δ → Hp → Prop} {r : R (γ × Dr)} {f : γ × Dr → R (List D × Dr)}
    (h : IPost K E C ad da vs Hc H σ env Q (r.bind f)) (k : ∀ d s1, r = .ok (d, s1) → ∀ v Hc1 H1, Nx da Hc H Hc1 H1 → ER K ad da Hc1 H1 σ env s1 → P1 Hc1 H1 v d → IPost K E C ad da vs Hc1 H1 σ env Q (f (d, s1)) → R1 v H1) : Post K E C ad da Hc H σ env P1 R1 r := by
  cases r with
  | ok p => exact fun v Hc' H' m e q => k p.1 p.2 rfl v Hc' H' m e q (IPost.shift (r := f p) h m)
  | err c => exact h
  | stuck => exact h

/-! ### list comprehensions -/
def R.calm {α : Type} : R α → R α
  | .ok a => .ok a
  | _ => .stuck
def wipeE (env : En) : List Nat → En
  | [] => env
  | v :: vs => (wipeE env vs).set v .no
def lcLoop (t : Tg) (own : List Nat) (ft : Ev Bool) (fe : Ev D) (env : En) : List D → Dr → R (List D × Dr)
  | [], s => .ok ([], s)
  | x :: xs, s => (R.ofO (bindT t x (wipeE env own))).bind fun env2 => (ft env2 s).calm.bind fun p => if p.1 then (fe env2 p.2).calm.bind fun q => (lcLoop t own ft fe env xs q.2).bind fun r => .ok (q.1 :: r.1, r.2) else lcLoop t own ft fe env xs p.2
def evLc (fi : Ev (List D)) (t : Tg) (own : List Nat) (ft : Ev Bool) (fe : Ev D) : Ev D := fun env s => (fi env s).bind fun p => (lcLoop t own ft fe env p.1 p.2).bind fun q => .ok (.list q.1, q.2)
end
end L2.DL

set_option Elab.async false
set_option linter.all false
set_option maxRecDepth 100000
set_option maxHeartbeats 1000000
/-! D layer 7: comprehensions. -/
namespace L2.DL
open PySem PySem.Spec PyProof.Rows
variable [TabL]

/-- the weakest reading of a pure function -/
def can {α β : Type} (K : PySem.W.Frag) (E : XK) (C : Addr) (P : (Nat → Addr) → En → Hp → Hp → Hp → β → α → Prop) (f : Ev α) : St → Hp → (β → Hp → Prop) → Prop := fun σ H Q =>
  ∃ ad da Hc env s, ER K ad da Hc H σ env s ∧ Post K E C ad da Hc H σ env (P ad env H) Q (f env s)
def PV (K : PySem.W.Frag) : (Nat → Addr) → En → Hp → Hp → Hp → V → D → Prop := fun _ _ _ Hc _ v d => Dv K Hc v d
def PB : (Nat → Addr) → En → Hp → Hp → Hp → Bool → Bool → Prop := fun _ _ _ _ _ b c => b = c
def canI (K : PySem.W.Frag) (E : XK) (C : Addr) (vs : List Nat) (f : Ev (List D)) : TI := fun σ H Q => ∃ ad da Hc env s, ER K ad da Hc H σ env s ∧ IPost K E C ad da vs Hc H σ env Q (f env s)
def canG (K : PySem.W.Frag) (t : Tg) : TG := fun v σ H Q => ∃ ad da Hc env env' s d, ER K ad da Hc H σ env s ∧ Dv K Hc v d ∧ bindT t d env = some env' ∧ ∀ σ', ER K ad da Hc H σ' env' s → (∀ vs, (∀ i ∈ t.slots, i ∈ vs) → wipe σ' vs = wipe σ vs) → Q σ' H
section
variable {X : Cx} {E : XK} {C : Addr} {e : Expr}
theorem DE.can {f : Ev D} (h : DE X E C e f) : PE X e (DL.can X.K E C (PV X.K) f) := by
  obtain ⟨t, p, r⟩ := h
  exact ⟨fun pins s σ H Q I ⟨ad, da, Hc, env, s', er, q⟩ => p.run pins s σ H Q I (r ad da Hc H σ env s' Q er q)⟩
theorem DT.can {f : Ev Bool} (h : DT X E C e f) : PT X e (DL.can X.K E C PB f) := by
  obtain ⟨t, p, r⟩ := h
  exact ⟨fun pins s σ H Q I ⟨ad, da, Hc, env, s', er, q⟩ => p.run pins s σ H Q I (r ad da Hc H σ env s' Q er q)⟩
theorem DG.can {tg : Expr} {t : Tg} (h : DG X tg t) : PG X tg (canG X.K t) := by
  obtain ⟨g, p, r⟩ := h
  exact ⟨fun pins s σ H v u Q I rv ⟨ad, da, Hc, env, env', s', d, er, hd, hb, q⟩ => p.run pins s σ H v u Q I rv (r ad da Hc H σ env env' s' v d Q er hd hb q)⟩
end
/-- the tests of a comprehension -/
def DTs (X : Cx) (E : XK) (C : Addr) (es : List Expr) (f : Ev Bool) : Prop := ∃ t : TT, PTs X es t ∧ Reads1 X E C (T := Unit) t (fun _ _ _ _ _ (b c : Bool) => b = c) f
section
variable {X : Cx} {E : XK} {C : Addr} {e : Expr} {es : List Expr}
theorem DTs.can {f : Ev Bool} (h : DTs X E C es f) : PTs X es (DL.can X.K E C PB f) := by
  obtain ⟨t, p, r⟩ := h
  exact ⟨fun pins s σ H Q I ⟨ad, da, Hc, env, s', er, q⟩ => p.run pins s σ H Q I (r ad da Hc H σ env s' Q er q)⟩
theorem dts_nil : DTs X E C [] evTT := ⟨_, pts_nil, fun ad da Hc H σ env s Q er q => q true Hc H Nx.refl er rfl⟩
theorem dts_one {f : Ev Bool} (h : DT X E C e f) : DTs X E C [e] f := by
  obtain ⟨t, p, r⟩ := h
  exact ⟨t, pts_one p, r⟩
end

section
variable {α β γ δ : Type} {K : PySem.W.Frag} {E E' : XK} {C : Addr} {ad : Nat → Addr} {da : Option Addr} {Hc H Hc2 H2 : Hp} {σ σ2 : St} {env env2 : En} {P : Hp → Hp → β → α → Prop} {P1 : Hp → Hp → δ → γ → Prop} {Q : β → Hp → Prop} {R1 : δ → Hp → Prop}
theorem R.bind_assoc {α β γ : Type} (r : R α) (f : α → R β) (g : β → R γ) : (r.bind f).bind g = r.bind fun x => (f x).bind g := by cases r <;> rfl
theorem R.bind_ok {α β : Type} (a : α) (f : α → R β) : (R.ok a).bind f = f a := rfl
theorem Post.bindC {r : R (γ × Dr)} {f : γ × Dr → R (α × Dr)} (h : Post K E C ad da Hc H σ env P Q (r.calm.bind f))
    (k : ∀ d s1, r = .ok (d, s1) → ∀ v Hc1 H1, Nx da Hc2 H2 Hc1 H1 → ER K ad da Hc1 H1 σ2 env2 s1 → P1 Hc1 H1 v d → Post K E C ad da Hc H σ env P Q (f (d, s1)) → R1 v H1) : Post K E' C ad da Hc2 H2 σ2 env2 P1 R1 r := by
  cases r with
  | ok p => exact fun v Hc' H' m e q => k p.1 p.2 rfl v Hc' H' m e q h
  | err c => exact h.elim
  | stuck => exact h.elim
end
theorem wipeE_len (env : En) : ∀ vs : List Nat, (wipeE env vs).length = env.length
  | [] => rfl
  | v :: vs => by unfold wipeE; rw [List.length_set, wipeE_len env vs]
theorem wipeE_get {env : En} {i : Nat} : ∀ {vs : List Nat}, (i ∈ vs ∧ ((wipeE env vs)[i]? = some .no ∨ (wipeE env vs)[i]? = none)) ∨ (i ∉ vs ∧ (wipeE env vs)[i]? = env[i]?)
  | [] => .inr ⟨by simp, rfl⟩
  | v :: vs => by
    unfold wipeE
    by_cases h : v = i
    · subst h
      refine .inl ⟨List.mem_cons_self, ?_⟩
      by_cases hl : v < (wipeE env vs).length
      · exact .inl (List.getElem?_set_self hl)
      · exact .inr (List.getElem?_eq_none (by simpa using hl))
    · rw [List.getElem?_set_ne h]
      rcases wipeE_get (env := env) (i := i) (vs := vs) with ⟨h1, h2⟩ | ⟨h1, h2⟩
      · exact .inl ⟨List.mem_cons_of_mem _ h1, h2⟩
      · exact .inr ⟨fun z => by rcases List.mem_cons.mp z with z | z; exact h z.symm; exact h1 z, h2⟩
theorem wipe_get {σ : St} {i : Nat} : ∀ {vs : List Nat}, i ∉ vs → (wipe σ vs)[i]? = σ[i]?
  | [], _ => rfl
  | v :: vs, h => by
    unfold wipe
    rw [List.getElem?_set_ne (fun z => h (by rw [z]; exact List.mem_cons_self))]
    exact wipe_get (fun z => h (List.mem_cons_of_mem _ z))
theorem wipeE_old {env : En} {i : Nat} {x : Sl} {vs : List Nat} (h : (wipeE env vs)[i]? = some x) (hx : x ≠ .no) : i ∉ vs ∧ env[i]? = some x := by
  rcases wipeE_get (env := env) (i := i) (vs := vs) with ⟨h1, h2 | h2⟩ | ⟨h1, h2⟩
  · rw [h2] at h; cases h; exact absurd rfl hx
  · rw [h2] at h; cases h
  · exact ⟨h1, h2.symm.trans h⟩
theorem ER.wipe {K : PySem.W.Frag} {ad : Nat → Addr} {da : Option Addr} {Hc H : Hp} {σ : St} {env : En} {s : Dr} (e : ER K ad da Hc H σ env s) (vs : List Nat) : ER K ad da Hc H (L2.wipe σ vs) (wipeE env vs) s where
  sub := e.sub
  len := by rw [wipe_length, wipeE_len]; exact e.len
  slot := fun i x hx => by
    by_cases h0 : x = .no
    · subst h0; trivial
    · obtain ⟨h1, h2⟩ := wipeE_old hx h0
      have := e.slot i x h2
      rw [wipe_get h1]
      exact this
  apart := fun i j x y hi hj ox oy ha => by
    have n1 : x ≠ .no := fun z => by subst z; cases ox
    have n2 : y ≠ .no := fun z => by subst z; cases oy
    exact e.apart i j x y (wipeE_old hi n1).2 (wipeE_old hj n2).2 ox oy ha
  drs := fun i h => e.drs i (wipeE_old h (fun z => nomatch z)).2
  drA := e.drA
  lstNe := fun i x h ho => e.lstNe i x (wipeE_old h (fun z => by subst z; cases ho)).2 ho
  tabs := e.tabs
  noT := e.noT
/-- what a block leaves, seen from outside -/
theorem Nx.lstKeep {da : Option Addr} {Hc H Hc' H' : Hp} (n : Nx da Hc H Hc' H') {D : Addr} {vs : List V} (h : H D = some (.lst vs)) (hd : da ≠ some D) : H' D = some (.lst vs) := n.keep _ _ h (fun z => hd z.symm) nT_lst

/-- a new list that stands nowhere yet -/
def PF (K : PySem.W.Frag) (Hst Hc H : Hp) (v : V) (d : D) : Prop := ∃ a vs xs, v = .ref a ∧ d = .list xs ∧ NL Hst a ∧ H a = some (.lst vs) ∧ Hc a = none ∧ DvAll K Hc vs xs
def DF (X : Cx) (E : XK) (C : Addr) (e : Expr) (f : Ev D) : Prop := ∃ t : TE, PE X e t ∧ Reads1 X E C (T := Unit) t (fun _ _ Hst Hc H v d => PF X.K Hst Hc H v d) f
section
variable {X : Cx} {E : XK} {C : Addr} {e a b : Expr} {es : List Expr} {pos : Pos}
theorem PF.shut {K : PySem.W.Frag} {ad : Nat → Addr} {da : Option Addr} {Hst Hc0 Hc H : Hp} {σ : St} {env : En} {s0 s : Dr} {v : V} {d : D} (p : PF K Hst Hc H v d) (e0 : ER K ad da Hc0 Hst σ env s0) (n : Nx da Hc0 Hst Hc H) (e : ER K ad da Hc H σ env s) :
    ∃ Hc', Nx da Hc0 Hst Hc' H ∧ ER K ad da Hc' H σ env s ∧ Dv K Hc' v d := by
  obtain ⟨a, vs, xs, rfl, rfl, h1, h2, h3, h4⟩ := p
  refine ⟨upd Hc a (.lst vs), n.freeze h1 h2 h3, e.join h2 nT_lst (fun i x hx ho z => ?_) (fun z => ?_) h3, .lst upd_same ((Sub.upd h3).dvAll h4)⟩
  · obtain ⟨o, h5, _⟩ := e0.there hx ho
    rw [z] at h5
    exact h1 _ h5 nT_lst
  · obtain ⟨⟨b, h5, _⟩, _⟩ := e0.drA a z
    exact h1 _ h5 nT_lst
theorem Reads1.shut {t : TE} {f : Ev D} (h : Reads1 X E C (T := Unit) t (fun _ _ Hst Hc H v d => PF X.K Hst Hc H v d) f) : RE X E C t f := fun ad da Hc H σ env s Q er q => h ad da Hc H σ env s Q er (by
  cases hf : f env s with
  | ok p =>
    rw [hf] at q
    intro v Hc' H' n e pf
    obtain ⟨Hc'', n2, e2, hd⟩ := pf.shut er n e
    exact q v Hc'' H' n2 e2 hd
  | err c => rw [hf] at q; exact q
  | stuck => rw [hf] at q; exact q)
end
def EF : XK := fun _ _ _ => False
section
variable {X : Cx} {E : XK} {C : Addr} {e : Expr} {es : List Expr}
theorem wipe_wipe (σ : St) (vs : List Nat) : L2.wipe (L2.wipe σ vs) vs = L2.wipe σ vs := by
  apply List.ext_getElem?
  intro i
  by_cases h : i ∈ vs
  · have : ∀ τ : St, i < τ.length → (L2.wipe τ vs)[i]? = some none := fun τ hl => wipe_in h hl
    by_cases hl : i < σ.length
    · rw [this σ hl, this _ (by rw [wipe_length]; exact hl)]
    · rw [List.getElem?_eq_none (by rw [wipe_length, wipe_length]; omega), List.getElem?_eq_none (by rw [wipe_length]; omega)]
  · rw [wipe_get h]
where wipe_in {τ : St} {i : Nat} : ∀ {vs : List Nat}, i ∈ vs → i < τ.length → (L2.wipe τ vs)[i]? = some none
  | v :: vs, h, hl => by
    unfold L2.wipe
    by_cases hv : v = i
    · subst hv
      exact List.getElem?_set_self (by rw [wipe_length]; exact hl)
    · rw [List.getElem?_set_ne hv]
      rcases List.mem_cons.mp h with z | h
      · exact absurd z.symm hv
      · exact wipe_in h hl
theorem lc_step {K : PySem.W.Frag} {ad : Nat → Addr} {da : Option Addr} {Hc1 H1 Hc2 H2 : Hp} {σ : St} {env : En} {s2 : Dr} {D : Addr} {acc : List V} {accD : List DL.D} {y : V} {d : DL.D} (n1 : Nx da Hc1 H1 Hc2 H2) (hD : H1 D = none) (e2 : ER K ad da Hc2 H2 σ env s2) (h2 : H2 D = some (.lst acc)) (c2 : Hc2 D = none)
    (dn : da ≠ some D) (hown : ∀ i x, env[i]? = some x → DL.own x = true → ad i ≠ D) : Nx da Hc1 H1 Hc2 (upd H2 D (.lst (acc ++ [y]))) ∧ ER K ad da Hc2 (upd H2 D (.lst (acc ++ [y]))) σ env s2 := by
  refine ⟨n1.write (.inl (.of hD)) h2, ?_⟩
  have k : ∀ b o, H2 b = some o → b ≠ D → upd H2 D (.lst (acc ++ [y])) b = some o := fun b o h hb => by rw [upd_ne hb]; exact h
  refine ⟨fun b o h => k b o (e2.sub _ _ h) (fun z => by subst z; rw [c2] at h; cases h), e2.len, fun i x hx => ?_, e2.apart, e2.drs, fun a h => ?_, e2.lstNe, tbs_lst e2.tabs h2, e2.noT⟩
  · have h := e2.slot i x hx
    cases x with
    | no => trivial
    | val d => exact h
    | lst lk xs =>
      obtain ⟨vs, h1, h3, h4, h5⟩ := h
      exact ⟨vs, h1, k _ _ h3 (hown i _ hx rfl), h4, h5⟩
    | drw => exact h
    | scr ns => exact h
  · obtain ⟨h3, h4⟩ := e2.drA a h
    exact ⟨h3.sub (Sub.refl _) (by rw [upd_ne (fun z => dn (by rw [h, z]))]), h4⟩
theorem lc_readF {wi : TI} {vs : List Nat} {fi : Ev (List D)} {t : Tg} {ft : Ev Bool} {fe : Ev D} {own : List (Str × Nat)} (ri : ∀ (ad : Nat → Addr) (da : Option Addr) (Hc H : Hp) (σ : St) (env : En) (s : Dr) (Q : It → Hp → Prop), ER X.K ad da Hc H σ env s → IPost X.K E C ad da vs Hc H σ env Q (fi env s) → wi σ H Q)
    (hsl : ∀ i ∈ t.slots, i ∈ own.map (·.2)) : Reads1 X E C (T := Unit) (tLc wi (canG X.K t) (can X.K EF C PB ft) (can X.K EF C (PV X.K) fe) (own.map (·.2))) (fun _ _ Hst Hc H v d => PF X.K Hst Hc H v d) (evLc fi t (own.map (·.2)) ft fe) := fun ad da Hc H σ env s Q er q => by
  refine ri ad da Hc H σ env s _ er ?_
  have fin : ∀ (xs : List DL.D) (s1 : Dr), fi env s = .ok (xs, s1) → ∀ J W Hc1 H1, Nx da Hc H Hc1 H1 → ER X.K ad da Hc1 H1 σ env s1 → Sub W H1 → (∀ b o, W b = some o → Hc1 b = some o ∨ ∃ i lk ys, i ∈ vs ∧ env[i]? = some (.lst lk ys) ∧ b = ad i) → xs.length ≤ sizeLine → ItD X.K J W Hc1 xs →
      Post X.K E C ad da Hc1 H1 σ env (fun Hc' H' v d => PF X.K H Hc' H' v d) Q ((lcLoop t (own.map (·.2)) ft fe env xs s1).bind fun q => .ok (.list q.1, q.2)) →
      ∀ D, H1 D = none → ∃ W : Nat → Nat → Hp → Prop, (∃ m, W 0 m (upd H1 D (.lst []))) ∧ ∀ i m H, W i m H →
        (J.stop i H ∧ Q (.ref D) H) ∨ (J.go i H ∧ ∃ Nx : Hp → Prop, (∀ H', Nx H' → ∃ m', m' < m ∧ W (i + 1) m' H') ∧ ∀ x H', J.yld i H x H' → canG X.K t x (L2.wipe σ (own.map (·.2))) H' fun σ2 H2 => L2.wipe σ2 (own.map (·.2)) = L2.wipe σ (own.map (·.2)) ∧ can X.K EF C PB ft σ2 H2 fun b H3 =>
          if b = true then can X.K EF C (PV X.K) fe σ2 H3 fun y H4 => ∃ acc, H4 D = some (.lst acc) ∧ acc.length < sizeLine ∧ Nx (upd H4 D (.lst (acc ++ [y]))) else Nx H3) := by
    intro xs s1 _ J W Hc1 H1 n1 e1 sw hw hlen hJ hq D hD
    have dn : da ≠ some D := fun z => by
      obtain ⟨⟨b, h1, _⟩, _⟩ := e1.drA D z
      rw [hD] at h1; cases h1
    have hown : ∀ i x, env[i]? = some x → DL.own x = true → ad i ≠ D := fun i x hx ho z => by
      obtain ⟨o, h1, _⟩ := e1.there hx ho
      rw [z, hD] at h1; cases h1
    have cD : Hc1 D = none := e1.sub.none hD
    have wda : ∀ b o, W b = some o → da ≠ some b := fun b o h z => by
      obtain ⟨_, h1⟩ := e1.drA b z
      rcases hw b o h with h2 | ⟨i, lk, ys, _, hx, rfl⟩
      · rw [h1] at h2; cases h2
      · exact e1.lstNe i _ hx rfl z
    have wD : ∀ b o, W b = some o → b ≠ D := fun b o h z => by
      subst z
      have := sw b o h
      rw [hD] at this; cases this
    refine ⟨fun i m H2 => m = xs.length - i ∧ i ≤ xs.length ∧ ∃ Hc2 s2 acc accD, Nx da Hc1 H1 Hc2 H2 ∧ ER X.K ad da Hc2 H2 σ env s2 ∧ H2 D = some (.lst acc) ∧ Hc2 D = none ∧ DvAll X.K Hc2 acc accD ∧ acc.length ≤ i ∧
      Post X.K E C ad da Hc1 H1 σ env (fun Hc' H' v d => PF X.K H Hc' H' v d) Q ((lcLoop t (own.map (·.2)) ft fe env (xs.drop i) s2).bind fun q => .ok (.list (accD ++ q.1), q.2)),
      ⟨xs.length, rfl, Nat.zero_le _, Hc1, s1, [], [], .lay hD, e1.lay hD, upd_same, cD, .nil, Nat.le_refl _, hq⟩, fun i m H2 hW => ?_⟩
    obtain ⟨rfl, hi, Hc2, s2, acc, accD, n2, e2, h2, c2, ha, hal, q2⟩ := hW
    have sw2 : Sub W H2 := fun b o h => by
      rcases hw b o h with z | ⟨i, lk, ys, _, hx, rfl⟩
      · exact e2.sub _ _ (n2.sub _ _ z)
      · obtain ⟨ws, _, q2, _, _⟩ := e1.slot i _ hx
        have q3 := sw _ _ h
        rw [q2] at q3
        cases q3
        exact n2.keep _ _ q2 (fun z => wda _ _ h z.symm) nT_lst
    obtain ⟨hgo, hstop⟩ := hJ Hc2 H2 i n2.sub e2.sub sw2
    by_cases hlt : i < xs.length
    · obtain ⟨x, hx⟩ : ∃ x, xs[i]? = some x := ⟨xs[i], List.getElem?_eq_getElem hlt⟩
      have hdrop : xs.drop i = x :: xs.drop (i + 1) := by
        rw [List.drop_eq_getElem_cons hlt]
        rw [List.getElem?_eq_getElem hlt] at hx
        rw [Option.some.inj hx]
      obtain ⟨g1, g2⟩ := hgo x hx
      rw [hdrop] at q2
      refine .inr ⟨g1, fun H' => ∃ Hc2 s2 acc accD, Nx da Hc1 H1 Hc2 H' ∧ ER X.K ad da Hc2 H' σ env s2 ∧ H' D = some (.lst acc) ∧ Hc2 D = none ∧ DvAll X.K Hc2 acc accD ∧ acc.length ≤ i + 1 ∧
        Post X.K E C ad da Hc1 H1 σ env (fun Hc' H' v d => PF X.K H Hc' H' v d) Q ((lcLoop t (own.map (·.2)) ft fe env (xs.drop (i + 1)) s2).bind fun q => .ok (.list (accD ++ q.1), q.2)), fun H' hN' => ⟨xs.length - (i + 1), by omega, rfl, hlt, hN'⟩, fun v H3 hy => ?_⟩
      obtain ⟨Hc3, al, hdv⟩ := g2 v H3 hy
      have e3 := al.er e2
      have ew := e3.wipe (own.map (·.2))
      rw [lcLoop] at q2
      cases hb : bindT t x (wipeE env (own.map (·.2))) with
      | none => rw [hb] at q2; exact q2.elim
      | some env2 =>
        rw [hb] at q2
        refine ⟨ad, da, Hc3, _, env2, s2, x, ew, hdv, hb, fun σ2 eb wp => ⟨?_, ?_⟩⟩
        · rw [wp _ hsl]
          exact wipe_wipe σ _
        · have dD3 : H3 D = some (.lst acc) := al.subH _ _ h2
          have cD3 : Hc3 D = none := by
            cases z : Hc3 D with
            | none => rfl
            | some o => have := al.fresh _ _ z c2; rw [h2] at this; cases this
          have q3 : Post X.K E C ad da Hc1 H1 σ env (fun Hc' H' v d => PF X.K H Hc' H' v d) Q ((ft env2 s2).calm.bind fun p => ((if p.1 then (fe env2 p.2).calm.bind fun q => (lcLoop t (own.map (·.2)) ft fe env (xs.drop (i + 1)) q.2).bind fun r => .ok (q.1 :: r.1, r.2) else lcLoop t (own.map (·.2)) ft fe env (xs.drop (i + 1)) p.2).bind fun q => .ok (.list (accD ++ q.1), q.2))) := by
            have q2' : Post X.K E C ad da Hc1 H1 σ env (fun Hc' H' v d => PF X.K H Hc' H' v d) Q (((ft env2 s2).calm.bind fun p => if p.1 then (fe env2 p.2).calm.bind fun q => (lcLoop t (own.map (·.2)) ft fe env (xs.drop (i + 1)) q.2).bind fun r => .ok (q.1 :: r.1, r.2) else lcLoop t (own.map (·.2)) ft fe env (xs.drop (i + 1)) p.2).bind fun q => .ok (.list (accD ++ q.1), q.2)) := q2
            rw [R.bind_assoc] at q2'
            exact q2'
          refine ⟨ad, da, Hc3, env2, s2, eb, Post.bindC q3 fun b s3 _ b' Hc4 H4 n4 e4 p4 q4 => ?_⟩
          cases p4
          have eo4 : ER X.K ad da Hc4 H4 σ env s3 := e3.nx n4 e4.sub e4.drA
          have d4 : H4 D = some (.lst acc) := n4.lstKeep dD3 dn
          have cD4 : Hc4 D = none := by
            cases z : Hc4 D with
            | none => rfl
            | some o => exact (n4.fresh _ _ z cD3 _ dD3 nT_lst).elim
          have nn4 : Nx da Hc1 H1 Hc4 H4 := (n2.trans al.nx).trans n4
          cases b with
          | false =>
            rw [if_neg Bool.false_ne_true]
            exact ⟨Hc4, s3, acc, accD, nn4, eo4, d4, cD4, n4.sub.dvAll (al.sub.dvAll ha), by omega, q4⟩
          | true =>
            rw [if_pos rfl]
            have q5 : Post X.K E C ad da Hc1 H1 σ env (fun Hc' H' v d => PF X.K H Hc' H' v d) Q ((fe env2 s3).calm.bind fun q => (lcLoop t (own.map (·.2)) ft fe env (xs.drop (i + 1)) q.2).bind fun r => .ok (.list ((accD ++ [q.1]) ++ r.1), r.2)) := by
              have q4' : Post X.K E C ad da Hc1 H1 σ env (fun Hc' H' v d => PF X.K H Hc' H' v d) Q (((fe env2 s3).calm.bind fun q => (lcLoop t (own.map (·.2)) ft fe env (xs.drop (i + 1)) q.2).bind fun r => .ok (q.1 :: r.1, r.2)).bind fun q => .ok (.list (accD ++ q.1), q.2)) := q4
              simp only [R.bind_assoc, R.bind_ok] at q4'
              simp only [List.append_assoc, List.singleton_append]
              exact q4'
            refine ⟨ad, da, Hc4, env2, s3, e4, Post.bindC q5 fun yd s5 _ yv Hc5 H5 n5 e5 p5 q6 => ?_⟩
            have d5 : H5 D = some (.lst acc) := n5.lstKeep d4 dn
            have cD5 : Hc5 D = none := by
              cases z : Hc5 D with
              | none => rfl
              | some o => exact (n5.fresh _ _ z cD4 _ d4 nT_lst).elim
            have eo5 : ER X.K ad da Hc5 H5 σ env s5 := eo4.nx n5 e5.sub e5.drA
            obtain ⟨n6, e6⟩ := lc_step (y := yv) (accD := accD) (d := yd) (nn4.trans n5) hD eo5 d5 cD5 dn hown
            exact ⟨acc, d5, by omega, Hc5, s5, acc ++ [yv], accD ++ [yd], n6, e6, upd_same, cD5, (n5.sub.dvAll (n4.sub.dvAll (al.sub.dvAll ha))).append (.cons p5 .nil), by rw [List.length_append, List.length_singleton]; omega, q6⟩
    · have hnil : xs.drop i = [] := List.drop_of_length_le (by omega)
      rw [hnil] at q2
      have q3 : Post X.K E C ad da Hc1 H1 σ env (fun Hc' H' v d => PF X.K H Hc' H' v d) Q (.ok (.list (accD ++ []), s2)) := q2
      rw [List.append_nil] at q3
      refine .inl ⟨hstop (by omega), q3 (.ref D) Hc2 H2 n2 e2 ⟨D, acc, accD, rfl, rfl, fun o z t => ?_, h2, c2, ha⟩⟩
      obtain ⟨o2, z2, _⟩ := n1.there D o z t
      rw [hD] at z2
      cases z2
  cases hf : fi env s with
  | ok p =>
    have q' : Post X.K E C ad da Hc H σ env (fun Hc' H' v d => PF X.K H Hc' H' v d) Q ((fi env s).bind fun p => (lcLoop t (own.map (·.2)) ft fe env p.1 p.2).bind fun q => .ok (.list q.1, q.2)) := q
    rw [hf] at q'
    exact fun J W Hc1 H1 n1 e1 sw hw hlen hJ => fin p.1 p.2 hf J W Hc1 H1 n1 e1 sw hw hlen hJ (Post.shift q' n1)
  | err c =>
    have q' : Post X.K E C ad da Hc H σ env (fun Hc' H' v d => PF X.K H Hc' H' v d) Q ((fi env s).bind fun p => (lcLoop t (own.map (·.2)) ft fe env p.1 p.2).bind fun q => .ok (.list q.1, q.2)) := q
    rw [hf] at q'
    exact q'
  | stuck =>
    have q' : Post X.K E C ad da Hc H σ env (fun Hc' H' v d => PF X.K H Hc' H' v d) Q ((fi env s).bind fun p => (lcLoop t (own.map (·.2)) ft fe env p.1 p.2).bind fun q => .ok (.list q.1, q.2)) := q
    rw [hf] at q'
    exact q'
theorem lc_read {wi : TI} {vs : List Nat} {fi : Ev (List D)} {t : Tg} {ft : Ev Bool} {fe : Ev D} {own : List (Str × Nat)} (ri : ∀ (ad : Nat → Addr) (da : Option Addr) (Hc H : Hp) (σ : St) (env : En) (s : Dr) (Q : It → Hp → Prop), ER X.K ad da Hc H σ env s → IPost X.K E C ad da vs Hc H σ env Q (fi env s) → wi σ H Q)
    (hsl : ∀ i ∈ t.slots, i ∈ own.map (·.2)) : RE X E C (tLc wi (canG X.K t) (can X.K EF C PB ft) (can X.K EF C (PV X.K) fe) (own.map (·.2))) (evLc fi t (own.map (·.2)) ft fe) := Reads1.shut (lc_readF ri hsl)
theorem de_lc {elt tg iter : Expr} {ifs : List Expr} {scope : Scope} {own : List (Str × Nat)} {pos : Pos} {vs : List Nat} {fi : Ev (List D)} {t : Tg} {ft : Ev Bool} {fe : Ev D} (hc : X.calm = true) (hN : X.N.Nodup) (hi : DI X E C tg iter vs fi) (ok : BlkOk X.N X.env.scope scope own)
    (hg : ∀ (s : Shared) (H : Hp) (C' : Addr) (cl : List (Str × Addr)) (fp : List Addr), DG (X.blk s H scope (compEnvC scope cl C' X.env) fp) tg t)
    (ht : ∀ (s : Shared) (H : Hp) (C' : Addr) (cl : List (Str × Addr)) (fp : List Addr), DTs (X.blk s H scope (compEnvC scope cl C' X.env) fp) EF C ifs ft)
    (he : ∀ (s : Shared) (H : Hp) (C' : Addr) (cl : List (Str × Addr)) (fp : List Addr), DE (X.blk s H scope (compEnvC scope cl C' X.env) fp) EF C elt fe)
    (hs : ∀ x, foldedSetIterable iter X.env x = pure x) (hsl : ∀ i ∈ t.slots, i ∈ own.map (·.2)) : DE X E C (.ListComp elt [⟨tg, iter, ifs, 0⟩] scope pos) (evLc fi t (own.map (·.2)) ft fe) := by
  obtain ⟨wi, pi, ri⟩ := hi
  exact ⟨_, pe_lc (g := canG X.K t) (tt := can X.K EF C PB ft) (te := can X.K EF C (PV X.K) fe) hc hN pi ok (fun s H C' cl fp => (hg s H C' cl fp).can) (fun s H C' cl fp => (ht s H C' cl fp).can) (fun s H C' cl fp => (he s H C' cl fp).can) hs, lc_read ri hsl⟩
end
end L2.DL

set_option Elab.async false
set_option linter.all false
set_option maxRecDepth 100000
set_option maxHeartbeats 2000000
/-! D layer 8: what loops walk. -/
namespace PySem
/-- enumerate(v): its two new cells -/
theorem dl_enum1 {v : Value} {o : Obj} {H : Heap → Prop} (B : Begins v o H) :
    Meets (Builtin.«enumerate.__new__» ⟨[.type "enumerate", v], []⟩) (fun _ R s => H s.heap ∧
      R (.ok (.ret (.ref (s.heap.push o).objs.size))) { s with heap := (s.heap.push o).push { cls := .type "enumerate", data := .fields #[.none, .bool false, .ref s.heap.objs.size, rawInt 0, .none, .none] } }) :=
  .of_wp fun prog w A R s h => by
    obtain ⟨hp, g, d, tk, os⟩ := s; obtain ⟨h1, h⟩ := h
    have hsub := sub_enumerate
    have q1 : ∀ {A' : Around} {E : Value → Shared → Prop} {Q : Value → Shared → Prop}, Q (.ref hp.objs.size) ⟨hp.push o, g, d, tk, os⟩ → wpAny (model prog w) A' (pyIter v) Q E ⟨hp, g, d, tk, os⟩ :=
      fun q => B.iter prog w _ _ ⟨hp, g, d, tk, os⟩ _ h1 q
    wp_walk using q1
    refine wpAny_stack_any fun st => wpAny_pure ?_
    split
    · rename_i c _ _ _ _ _
      cases (c == Value.type "enumerate")
      · wp_walk using q1
        exact ⟨_, rfl, h⟩
      · wp_walk using q1
        exact ⟨_, rfl, h⟩
    · wp_walk using q1
      exact ⟨_, rfl, h⟩
theorem dl_enum_begins {prog : Program} {w : World} {A : Around} {E : Value → Shared → Prop} {s : Shared} {v : Value} {o : Obj} {H : Heap → Prop} {Q : Value → Shared → Prop} (B : Begins v o H) (h1 : H s.heap)
    (h : ∀ h', IsEnum h' (s.heap.objs.size + 1) s.heap.objs.size 0 .none → h'.get? s.heap.objs.size = some o → h'.objs.size = s.heap.objs.size + 2 →
      (∀ b o, s.heap.get? b = some o → h'.get? b = some o) → Q (.ref (s.heap.objs.size + 1)) { s with heap := h' }) :
    wpAny (model prog w) A (call (.type "enumerate") [v]) Q E s := by
  refine callType_new F.called_enumerate (by decide) (F.typeCall_enumerate_1 _) (F.newCall_enumerate_1 _) (fun obj => F.args_object_init_2 obj _) F.entry_enumerate_new
    (dl_enum1 B) ⟨h1, ?_⟩
  have hz : (s.heap.push o).objs.size = s.heap.objs.size + 1 := Heap.size_push ..
  show _ ∧ _
  rw [hz]
  have he : IsEnum ((s.heap.push o).push { cls := .type "enumerate", data := .fields #[.none, .bool false, .ref s.heap.objs.size, rawInt 0, .none, .none] }) (s.heap.objs.size + 1) s.heap.objs.size 0 .none := by
    have := Heap.get?_push_size (s.heap.push o) (o := { cls := .type "enumerate", data := .fields #[.none, .bool false, .ref s.heap.objs.size, rawInt 0, .none, .none] }) rfl
    rw [hz] at this; exact this
  exact ⟨⟨_, he, rfl⟩, h _ he (Heap.get?_push_of_some _ (Heap.get?_push_size _ B.free)) (by rw [Heap.size_push, hz]) fun b o x => Heap.get?_push_of_some _ (Heap.get?_push_of_some _ x)⟩
end PySem
namespace L2.DL
open PySem PySem.Spec PyProof.Rows
variable [TabL]

/-- what an iterator draws from -/
inductive Src where
  | lst (a : Addr)
  | tpl (a : Addr)
  | txt (z : Str) (u : Tok)
def Src.v : Src → Value
  | .lst a => .ref a
  | .tpl a => .ref a
  | .txt z u => .str z u
def Src.o : Src → Obj
  | .lst a => { cls := .type "list_iterator", data := .fields #[.ref a, .int 0 0] }
  | .tpl a => { cls := .type "tuple_iterator", data := .fields #[.ref a, .int 0 0] }
  | .txt z u => { cls := .type (strIterType z), data := .fields #[.str z u, .int 0 0] }
def Src.own (it : Addr) (i : Nat) (h : Heap) : Src → Prop
  | .lst a => h.IsListIter it a i
  | .tpl a => h.IsTupleIter it a i
  | .txt z u => h.IsStrIter it (strIterType z) z u i
def Src.has (K : PySem.W.Frag) (H : Hp) (vs : List V) : Src → Prop
  | .lst a => SqL K H a vs
  | .tpl a => SqT K H a vs
  | .txt z _ => vs = z.cps.toList.map fun c => V.str ⟨#[c]⟩
theorem Src.own_at {it : Addr} {i : Nat} {h h' : Heap} {S : Src} (x : S.own it i h) (k : ∀ o, h.get? it = some o → h'.get? it = some o) : S.own it i h' := by
  cases S with
  | lst a => exact Heap.IsListIter.at x k
  | tpl a => exact Heap.IsTupleIter.at x k
  | txt z u => obtain ⟨o, ho, r⟩ := x; exact ⟨o, k o ho, r⟩
theorem Src.own_obj {it : Addr} {i : Nat} {h : Heap} {S : Src} (x : S.own it i h) : ∃ o, h.get? it = some o ∧ ∀ v, o.data ≠ .cell v := by
  cases S with
  | lst a => obtain ⟨o, ho, hc, hd⟩ := x; exact ⟨o, ho, fun v z => by rw [hd] at z; cases z⟩
  | tpl a => obtain ⟨o, ho, hc, hd⟩ := x; exact ⟨o, ho, fun v z => by rw [hd] at z; cases z⟩
  | txt z u => obtain ⟨o, ho, hc, hd⟩ := x; exact ⟨o, ho, fun v z => by rw [hd] at z; cases z⟩
theorem Src.own_new {it : Addr} {h : Heap} {S : Src} (x : h.get? it = some S.o) : S.own it 0 h := by
  cases S with
  | lst a => exact ⟨_, x, rfl, rfl⟩
  | tpl a => exact ⟨_, x, rfl, rfl⟩
  | txt z u => exact ⟨_, x, rfl, rfl⟩
section
variable {X : Cx} {pins : List (Addr × Obj)} {σ : L2.St} {H : Hp} {s : Shared} {vs ws : List V}
theorem Src.inj (I : Inv X pins σ H s) {S : Src} (h1 : S.has X.K H vs) (h2 : S.has X.K H ws) : vs = ws := by
  cases S with
  | lst a => exact I.list_inj h1 h2
  | tpl a => exact I.tuple_inj h1 h2
  | txt z u => exact h1.trans h2.symm
theorem Src.begins (I : Inv X pins σ H s) {S : Src} (h : S.has X.K H vs) : ∃ Hf : Heap → Prop, Begins S.v S.o Hf ∧ Hf s.heap := by
  cases S with
  | lst a =>
    obtain ⟨its, r, p, z⟩ := I.list h
    exact ⟨_, begins_list a its.toArray, p.isList⟩
  | tpl a =>
    obtain ⟨its, r, p, z⟩ := I.tuple h
    exact ⟨_, begins_tuple a its.toArray, p⟩
  | txt z u => exact ⟨_, begins_text z u, trivial⟩
/-- an address of the source is no iterator's cell -/
theorem src_out (I : Inv X pins σ H s) {a b : Addr} {xs : List V} (h : SqL X.K H a xs ∨ SqT X.K H a xs) (f : FpOk X pins H b) : b ≠ a := by
  rintro rfl
  have k : ∀ o, X.K.lookup b = some o → False := fun o hk => by
    have hb := I.ok.mod.kin b o hk
    rcases f.2.2.2.1 with z | z
    · exact I.ok.noex b o hb z
    · exact absurd (Nat.lt_of_lt_of_le (Heap.lt_size hb) (Nat.le_trans I.ok.bsz z)) (Nat.lt_irrefl _)
  have n := f.1
  have r : ∀ u, Rd H b u → False := fun u h => by
    rcases h with h | ⟨o, h⟩ <;> (rw [n] at h; cases h)
  rcases h with h | h
  · rcases h with h | ⟨o, its, m, hk, _⟩
    · exact r _ h
    · exact k o hk
  · rcases h with h | ⟨o, its, m, hk, _⟩
    · exact r _ h
    · exact k o hk
structure SrcD (X : Cx) (pins : List (Addr × Obj)) (H : Hp) (vs : List V) (S : Src) (it : Addr) (A : Around) (h : Heap) (fp : List Addr) (P : Nat → Value → Prop) (St : Nat → Heap → Prop) : Prop where
  dr : Draws X.prog X.w A it fp vs.length P St
  mem : it ∈ fp
  out : ∀ b, FpOk X pins H b → b ≠ it → b ∉ fp
  st : ∀ i, S.own it i h → St i h
  own : ∀ i h, St i h → S.own it i h
  val : ∀ i v, P i v → ∃ x, vs[i]? = some x ∧ RelV x v
theorem Src.draws (I : Inv X pins σ H s) {A : Around} (hh : A.handled = none) {S : Src} (h : S.has X.K H vs) {it : Addr} (f : FpOk X pins H it) : ∃ fp P St, SrcD X pins H vs S it A s.heap fp P St := by
  cases S with
  | lst a =>
    obtain ⟨its, r, p, z⟩ := I.list h
    have hne : a ≠ it := (src_out I (.inl h) f).symm
    have D := Draws.list (prog := X.prog) (w := X.w) hh it a hne its.toArray
    rw [List.size_toArray, ← r.length] at D
    refine ⟨_, _, _, D, by simp, fun b fb hb hm => ?_, fun i o => ⟨o, p.isList⟩, fun i h st => st.1, fun i v hv => ?_⟩
    · have hm' : b = it ∨ b = a := by simpa using hm
      rcases hm' with e | e
      · exact hb e
      · exact src_out I (.inl h) fb e
    · have hv' : its[i]? = some v := by simpa using hv
      obtain ⟨hi, e⟩ := List.getElem?_eq_some_iff.mp hv'
      obtain ⟨x, hx⟩ : ∃ x, vs[i]? = some x := ⟨vs[i]'(by rw [r.length]; exact hi), List.getElem?_eq_getElem _⟩
      obtain ⟨u, hu, ru⟩ := r.get hx
      rw [hv'] at hu; cases hu
      exact ⟨x, hx, ru⟩
  | tpl a =>
    obtain ⟨its, r, p, z⟩ := I.tuple h
    have hne : a ≠ it := (src_out I (.inr h) f).symm
    have D := Draws.tuple (prog := X.prog) (w := X.w) hh it a hne its.toArray
    rw [List.size_toArray, ← r.length] at D
    refine ⟨_, _, _, D, by simp, fun b fb hb hm => ?_, fun i o => ⟨o, p⟩, fun i h st => st.1, fun i v hv => ?_⟩
    · have hm' : b = it ∨ b = a := by simpa using hm
      rcases hm' with e | e
      · exact hb e
      · exact src_out I (.inr h) fb e
    · have hv' : its[i]? = some v := by simpa using hv
      obtain ⟨hi, e⟩ := List.getElem?_eq_some_iff.mp hv'
      obtain ⟨x, hx⟩ : ∃ x, vs[i]? = some x := ⟨vs[i]'(by rw [r.length]; exact hi), List.getElem?_eq_getElem _⟩
      obtain ⟨u, hu, ru⟩ := r.get hx
      rw [hv'] at hu; cases hu
      exact ⟨x, hx, ru⟩
  | txt z u =>
    have D := Draws.text (prog := X.prog) (w := X.w) hh it z u
    have hl : z.cps.size = vs.length := by
      have h' : vs = z.cps.toList.map fun c => V.str ⟨#[c]⟩ := h
      rw [h', List.length_map, Array.length_toList]
    rw [hl] at D
    refine ⟨_, _, _, D, by simp, fun b fb hb hm => hb (by simpa using hm), fun i o => o, fun i h st => st, fun i v hv => ?_⟩
    obtain ⟨c, u', hc, rfl⟩ := hv
    have h' : vs = z.cps.toList.map fun c => V.str ⟨#[c]⟩ := h
    refine ⟨.str ⟨#[c]⟩, ?_, _, rfl⟩
    rw [h', List.getElem?_map, Array.getElem?_toList, hc]
    rfl
end
/-! ### enumerate -/
def ItE (K : PySem.W.Frag) (S : Src) : It :=
  ⟨fun i H => ∃ xs x, S.has K H xs ∧ xs[i]? = some x, fun i H v H' => ∃ T x, v = .ref T ∧ H T = none ∧ H' = upd H T (.tup [.int i, x]) ∧ ∀ xs, S.has K H xs → xs[i]? = some x, fun i H => ∃ xs, S.has K H xs ∧ xs.length = i⟩
theorem tup_ok {P : Program} {w : World} {H : Hp} {h : Heap} {T : Addr} {xs : List V} {its : List Value} (r : Vals xs its) (hl : xs.length ≤ sizeLine) (ht : h.IsTuple T its.toArray) : ObjOk P w (upd H T (.tup xs)) h T (.tup xs) := ⟨hl, its, r, ht⟩
theorem turn_enumS {P : Program} {w : World} {K : PySem.W.Frag} {elts : List Expr} {kk : Nat} {tpos : Pos} (S : Src) (e it : Addr) :
    Turn P w K (.Tuple elts kk tpos) (ItE K S) [e, it] e (fun i h => (∃ old, IsEnum h e it ((i : Nat) : Int) old) ∧ S.own it i h ∧ e ≠ it) where
  mem := by simp
  obj := fun i h st b hb => by
    obtain ⟨⟨old, he⟩, ho, _⟩ := st
    have e' : b = e ∨ b = it := by simpa using hb
    rcases e' with z | z
    · rw [z]; exact ⟨_, he, fun v q => nomatch q⟩
    · rw [z]; exact Src.own_obj ho
  keep := fun i h h' st k => let ⟨⟨old, he⟩, hi, hne⟩ := st; ⟨⟨old, k e (by simp) _ he⟩, Src.own_at hi fun o q => k it (by simp) o q, hne⟩
  item := by
    intro X hP hw hK hc i pins s σ H E I hf st hg
    subst hP hw hK
    obtain ⟨⟨old, he⟩, hit, hne⟩ := st
    obtain ⟨xs, x, hq, hx⟩ := hg
    have fe := hf e (by simp)
    have fi := hf it (by simp)
    obtain ⟨fp, Pp, St, D⟩ := Src.draws I (A := X.A.in1) (show X.A.in1.handled = none from I.ok.hd hc) hq fi
    have W := GoesN.enumFrom (elts := elts) (x1 := kk) (pos := tpos) 0 D.dr e hne (D.out e fe hne) D.mem
    have hi : i < xs.length := (List.getElem?_eq_some_iff.mp hx).1
    have hst : (∃ old, IsEnum s.heap e it (0 + (i : Int)) old) ∧ St i s.heap := ⟨⟨old, by rw [Int.zero_add]; exact he⟩, D.st i hit⟩
    refine W.goes i s (fun u s2 => ∃ x H', Inv X pins σ H' s2 ∧ RelV x u ∧ (ItE X.K S).yld i H x H' ∧ ((∃ old, IsEnum s2.heap e it (((i + 1 : Nat)) : Int) old) ∧ S.own it (i + 1) s2.heap ∧ e ≠ it) ∧ ∀ b ∈ [e, it], H' b = none) E hi hst fun v h' tk hY st' hk htk => ?_
    obtain ⟨T, t', xv, rfl, hT, hP, hI⟩ := hY
    obtain ⟨⟨old', he'⟩, st1⟩ := st'
    obtain ⟨y, hy, ry⟩ := D.val i xv hP
    have ey : y = x := Option.some.inj (hy.symm.trans hx)
    subst ey
    rw [Int.zero_add] at hI he'
    have new : ObjOk X.prog X.w (upd H T (.tup [.int (i : Nat), y])) h' T (.tup [.int (i : Nat), y]) := tup_ok (its := [.int i t', xv]) (.cons ⟨_, rfl⟩ (.cons ry .nil)) (by show 2 ≤ sizeLine; decide) hI
    have I1 : Inv X pins σ (upd H T (.tup [.int (i : Nat), y])) { s with heap := h', toks := tk } := I.turnedNew (ch := [e, it]) hk hf hT new
    refine ⟨.ref T, _, I1, rfl, ⟨T, y, rfl, I.hok.fresh hT, rfl, fun ys hys => by rw [Src.inj I hys hq]; exact hx⟩, ⟨⟨old', he'⟩, D.own _ _ st1, hne⟩, fun b hb => ?_⟩
    have hb' : b < s.heap.objs.size := by
      have e' : b = e ∨ b = it := by simpa using hb
      rcases e' with z | z
      · rw [z]; exact Heap.lt_size he
      · rw [z]; obtain ⟨o, ho, _⟩ := Src.own_obj hit; exact Heap.lt_size ho
    rw [upd_ne (Nat.ne_of_lt (Nat.lt_of_lt_of_le hb' hT))]
    exact (hf b hb).1
  done := by
    intro X hP hw hK hc i pins s σ H E I hf st hg
    subst hP hw hK
    obtain ⟨⟨old, he⟩, hit, hne⟩ := st
    obtain ⟨xs, hq, hx⟩ := hg
    have fe := hf e (by simp)
    have fi := hf it (by simp)
    obtain ⟨fp, Pp, St, D⟩ := Src.draws I (A := X.A.in1) (show X.A.in1.handled = none from I.ok.hd hc) hq fi
    have W := GoesN.enumFrom (elts := elts) (x1 := kk) (pos := tpos) 0 D.dr e hne (D.out e fe hne) D.mem
    subst hx
    exact W.stops s (fun s1 => Inv X pins σ H s1) E ⟨⟨old, by rw [Int.zero_add]; exact he⟩, D.st _ hit⟩ fun h' tk hk htk => I.turnedL (ch := [e, it]) hk hf
  self := fun A i s Q E st h => let ⟨⟨_, he⟩, _⟩ := st; wpAny_pyIter_enum he h
/-! ### zip of 2 -/
def ItZ2 (K : PySem.W.Frag) (S1 S2 : Src) : It :=
  ⟨fun i H => ∃ xs1 xs2 x1 x2, S1.has K H xs1 ∧ S2.has K H xs2 ∧ xs1[i]? = some x1 ∧ xs2[i]? = some x2,
   fun i H v H' => ∃ T x1 x2, v = .ref T ∧ H T = none ∧ H' = upd H T (.tup [x1, x2]) ∧ (∀ xs, S1.has K H xs → xs[i]? = some x1) ∧ (∀ xs, S2.has K H xs → xs[i]? = some x2),
   fun i H => ∃ xs1 xs2, S1.has K H xs1 ∧ S2.has K H xs2 ∧ min xs1.length xs2.length = i⟩
def Apart2 (z TI TO i1 i2 : Addr) : Prop := TI ≠ z ∧ TO ≠ z ∧ TI ≠ TO ∧ TI ≠ i1 ∧ z ≠ i1 ∧ TO ≠ i1 ∧ TI ≠ i2 ∧ z ≠ i2 ∧ TO ≠ i2 ∧ i1 ≠ i2
theorem turn_zipS2 {P : Program} {w : World} {K : PySem.W.Frag} {elts : List Expr} {kk : Nat} {tpos : Pos} (S1 S2 : Src) (z TI TO i1 i2 : Addr) (ap : Apart2 z TI TO i1 i2) :
    Turn P w K (.Tuple elts kk tpos) (ItZ2 K S1 S2) [z, TI, TO, i1, i2] z (fun i h => IsZip h z TI TO .none ∧ IsTupOf2 h TI (.ref i1) (.ref i2) ∧ (∃ a1 a2, IsTupOf2 h TO a1 a2) ∧ S1.own i1 i h ∧ S2.own i2 i h) where
  mem := by simp
  obj := fun i h st b hb => by
    obtain ⟨hz, hTI, ⟨a1, a2, hTO⟩, o1, o2⟩ := st
    have e' : b = z ∨ b = TI ∨ b = TO ∨ b = i1 ∨ b = i2 := by simpa using hb
    rcases e' with q | q | q | q | q
    · rw [q]; exact ⟨_, hz, fun v y => nomatch y⟩
    · rw [q]; exact ⟨_, hTI, fun v y => nomatch y⟩
    · rw [q]; exact ⟨_, hTO, fun v y => nomatch y⟩
    · rw [q]; exact Src.own_obj o1
    · rw [q]; exact Src.own_obj o2
  keep := fun i h h' st k => by
    obtain ⟨hz, hTI, ⟨a1, a2, hTO⟩, o1, o2⟩ := st
    exact ⟨k z (by simp) _ hz, k TI (by simp) _ hTI, ⟨a1, a2, k TO (by simp) _ hTO⟩, Src.own_at o1 fun o q => k i1 (by simp) o q, Src.own_at o2 fun o q => k i2 (by simp) o q⟩
  item := by
    intro X hP hw hK hc i pins s σ H E I hf st hg
    obtain ⟨xs1, xs2, x1, x2, q1, q2, hx1, hx2⟩ := hg
    subst hP hw hK
    obtain ⟨hz, hTI, ⟨a1, a2, hTO⟩, o1, o2⟩ := st
    obtain ⟨d1, d2, d3, t1, z1, u1, t2, z2, u2, p12⟩ := ap
    have fz := hf z (by simp)
    have fTO := hf TO (by simp)
    have f1 := hf i1 (by simp)
    have f2 := hf i2 (by simp)
    obtain ⟨fp1, P1, St1, D1⟩ := Src.draws I (A := X.A.in1) (show X.A.in1.handled = none from I.ok.hd hc) q1 f1
    obtain ⟨fp2, P2, St2, D2⟩ := Src.draws I (A := X.A.in1) (show X.A.in1.handled = none from I.ok.hd hc) q2 f2
    have W := GoesN.zip2 (elts := elts) (x1 := kk) (pos := tpos) { TIz := d1, TOz := d2, TITO := d3, TIi1 := t1, mem1 := D1.mem, zf1 := D1.out z fz z1, Tf1 := D1.out TO fTO u1, TIi2 := t2, mem2 := D2.mem, zf2 := D2.out z fz z2, Tf2 := D2.out TO fTO u2, sep1_2 := D2.out i1 f1 p12, sep2_1 := D1.out i2 f2 (Ne.symm p12) } D1.dr D2.dr
    have l1 : i < xs1.length := (List.getElem?_eq_some_iff.mp hx1).1
    have l2 : i < xs2.length := (List.getElem?_eq_some_iff.mp hx2).1
    refine W.goes i s (fun u s2 => ∃ x H', Inv X pins σ H' s2 ∧ RelV x u ∧ (ItZ2 X.K S1 S2).yld i H x H' ∧ (IsZip s2.heap z TI TO .none ∧ IsTupOf2 s2.heap TI (.ref i1) (.ref i2) ∧ (∃ a1 a2, IsTupOf2 s2.heap TO a1 a2) ∧ S1.own i1 (i + 1) s2.heap ∧ S2.own i2 (i + 1) s2.heap) ∧ ∀ b ∈ [z, TI, TO, i1, i2], H' b = none) E (by omega) ⟨hz, hTI, ⟨a1, a2, hTO⟩, D1.st _ o1, D2.st _ o2⟩ fun v h' tk hY st' hk htk => ?_
    obtain ⟨T, uu1, uu2, rfl, hT, hP1, hP2, hI⟩ := hY
    obtain ⟨hz', hTI', hTO', st1, st2⟩ := st'
    obtain ⟨y1, hy1, ry1⟩ := D1.val i _ hP1
    have ey1 : y1 = x1 := Option.some.inj (hy1.symm.trans hx1)
    subst ey1
    obtain ⟨y2, hy2, ry2⟩ := D2.val i _ hP2
    have ey2 : y2 = x2 := Option.some.inj (hy2.symm.trans hx2)
    subst ey2
    have new : ObjOk X.prog X.w (upd H T (.tup [y1, y2])) h' T (.tup [y1, y2]) := tup_ok (its := [uu1, uu2]) (.cons ry1 (.cons ry2 .nil)) (by show 2 ≤ sizeLine; decide) hI
    have hk' : ∀ b o, b ∉ [z, TI, TO, i1, i2] → s.heap.get? b = some o → h'.get? b = some o := fun b o hb e => hk b o (fun m => hb (by simp at m; rcases m with q | q | q | q <;> simp [q])) e
    have I1 : Inv X pins σ (upd H T (.tup [y1, y2])) { s with heap := h', toks := tk } := I.turnedNew (ch := [z, TI, TO, i1, i2]) hk' hf hT new
    refine ⟨.ref T, _, I1, rfl, ⟨T, y1, y2, rfl, I.hok.fresh hT, rfl, fun ys hys => by rw [Src.inj I hys q1]; exact hx1, fun ys hys => by rw [Src.inj I hys q2]; exact hx2⟩, ⟨hz', hTI', hTO', D1.own _ _ st1, D2.own _ _ st2⟩, fun b hb => ?_⟩
    have hb' : b < s.heap.objs.size := by
      have e' : b = z ∨ b = TI ∨ b = TO ∨ b = i1 ∨ b = i2 := by simpa using hb
      rcases e' with q | q | q | q | q
      · rw [q]; exact Heap.lt_size hz
      · rw [q]; exact Heap.lt_size hTI
      · rw [q]; exact Heap.lt_size hTO
      · rw [q]; obtain ⟨o, ho, _⟩ := Src.own_obj o1; exact Heap.lt_size ho
      · rw [q]; obtain ⟨o, ho, _⟩ := Src.own_obj o2; exact Heap.lt_size ho
    rw [upd_ne (Nat.ne_of_lt (Nat.lt_of_lt_of_le hb' hT))]
    exact (hf b hb).1
  done := by
    intro X hP hw hK hc i pins s σ H E I hf st hg
    obtain ⟨xs1, xs2, q1, q2, hx⟩ := hg
    subst hP hw hK
    obtain ⟨hz, hTI, ⟨a1, a2, hTO⟩, o1, o2⟩ := st
    obtain ⟨d1, d2, d3, t1, z1, u1, t2, z2, u2, p12⟩ := ap
    have fz := hf z (by simp)
    have fTO := hf TO (by simp)
    have f1 := hf i1 (by simp)
    have f2 := hf i2 (by simp)
    obtain ⟨fp1, P1, St1, D1⟩ := Src.draws I (A := X.A.in1) (show X.A.in1.handled = none from I.ok.hd hc) q1 f1
    obtain ⟨fp2, P2, St2, D2⟩ := Src.draws I (A := X.A.in1) (show X.A.in1.handled = none from I.ok.hd hc) q2 f2
    have W := GoesN.zip2 (elts := elts) (x1 := kk) (pos := tpos) { TIz := d1, TOz := d2, TITO := d3, TIi1 := t1, mem1 := D1.mem, zf1 := D1.out z fz z1, Tf1 := D1.out TO fTO u1, TIi2 := t2, mem2 := D2.mem, zf2 := D2.out z fz z2, Tf2 := D2.out TO fTO u2, sep1_2 := D2.out i1 f1 p12, sep2_1 := D1.out i2 f2 (Ne.symm p12) } D1.dr D2.dr
    subst hx
    exact W.stops s (fun s1 => Inv X pins σ H s1) E ⟨hz, hTI, ⟨a1, a2, hTO⟩, D1.st _ o1, D2.st _ o2⟩ fun h' tk hk htk => I.turnedL (ch := [z, TI, TO, i1, i2]) (fun b o hb e => hk b o (fun m => hb (by simp at m; rcases m with q | q | q | q <;> simp [q])) e) hf
  self := fun A i s Q E st h => wpAny_pyIter_zip st.1 h
/-! ### zip of 3 -/
def ItZ3 (K : PySem.W.Frag) (S1 S2 S3 : Src) : It :=
  ⟨fun i H => ∃ xs1 xs2 xs3 x1 x2 x3, S1.has K H xs1 ∧ S2.has K H xs2 ∧ S3.has K H xs3 ∧ xs1[i]? = some x1 ∧ xs2[i]? = some x2 ∧ xs3[i]? = some x3,
   fun i H v H' => ∃ T x1 x2 x3, v = .ref T ∧ H T = none ∧ H' = upd H T (.tup [x1, x2, x3]) ∧ (∀ xs, S1.has K H xs → xs[i]? = some x1) ∧ (∀ xs, S2.has K H xs → xs[i]? = some x2) ∧ (∀ xs, S3.has K H xs → xs[i]? = some x3),
   fun i H => ∃ xs1 xs2 xs3, S1.has K H xs1 ∧ S2.has K H xs2 ∧ S3.has K H xs3 ∧ min (min xs1.length xs2.length) xs3.length = i⟩
def Apart3 (z TI TO i1 i2 i3 : Addr) : Prop := TI ≠ z ∧ TO ≠ z ∧ TI ≠ TO ∧ TI ≠ i1 ∧ z ≠ i1 ∧ TO ≠ i1 ∧ TI ≠ i2 ∧ z ≠ i2 ∧ TO ≠ i2 ∧ TI ≠ i3 ∧ z ≠ i3 ∧ TO ≠ i3 ∧ i1 ≠ i2 ∧ i1 ≠ i3 ∧ i2 ≠ i3
theorem turn_zipS3 {P : Program} {w : World} {K : PySem.W.Frag} {elts : List Expr} {kk : Nat} {tpos : Pos} (S1 S2 S3 : Src) (z TI TO i1 i2 i3 : Addr) (ap : Apart3 z TI TO i1 i2 i3) :
    Turn P w K (.Tuple elts kk tpos) (ItZ3 K S1 S2 S3) [z, TI, TO, i1, i2, i3] z (fun i h => IsZip h z TI TO .none ∧ IsTupOf3 h TI (.ref i1) (.ref i2) (.ref i3) ∧ (∃ a1 a2 a3, IsTupOf3 h TO a1 a2 a3) ∧ S1.own i1 i h ∧ S2.own i2 i h ∧ S3.own i3 i h) where
  mem := by simp
  obj := fun i h st b hb => by
    obtain ⟨hz, hTI, ⟨a1, a2, a3, hTO⟩, o1, o2, o3⟩ := st
    have e' : b = z ∨ b = TI ∨ b = TO ∨ b = i1 ∨ b = i2 ∨ b = i3 := by simpa using hb
    rcases e' with q | q | q | q | q | q
    · rw [q]; exact ⟨_, hz, fun v y => nomatch y⟩
    · rw [q]; exact ⟨_, hTI, fun v y => nomatch y⟩
    · rw [q]; exact ⟨_, hTO, fun v y => nomatch y⟩
    · rw [q]; exact Src.own_obj o1
    · rw [q]; exact Src.own_obj o2
    · rw [q]; exact Src.own_obj o3
  keep := fun i h h' st k => by
    obtain ⟨hz, hTI, ⟨a1, a2, a3, hTO⟩, o1, o2, o3⟩ := st
    exact ⟨k z (by simp) _ hz, k TI (by simp) _ hTI, ⟨a1, a2, a3, k TO (by simp) _ hTO⟩, Src.own_at o1 fun o q => k i1 (by simp) o q, Src.own_at o2 fun o q => k i2 (by simp) o q, Src.own_at o3 fun o q => k i3 (by simp) o q⟩
  item := by
    intro X hP hw hK hc i pins s σ H E I hf st hg
    obtain ⟨xs1, xs2, xs3, x1, x2, x3, q1, q2, q3, hx1, hx2, hx3⟩ := hg
    subst hP hw hK
    obtain ⟨hz, hTI, ⟨a1, a2, a3, hTO⟩, o1, o2, o3⟩ := st
    obtain ⟨d1, d2, d3, t1, z1, u1, t2, z2, u2, t3, z3, u3, p12, p13, p23⟩ := ap
    have fz := hf z (by simp)
    have fTO := hf TO (by simp)
    have f1 := hf i1 (by simp)
    have f2 := hf i2 (by simp)
    have f3 := hf i3 (by simp)
    obtain ⟨fp1, P1, St1, D1⟩ := Src.draws I (A := X.A.in1) (show X.A.in1.handled = none from I.ok.hd hc) q1 f1
    obtain ⟨fp2, P2, St2, D2⟩ := Src.draws I (A := X.A.in1) (show X.A.in1.handled = none from I.ok.hd hc) q2 f2
    obtain ⟨fp3, P3, St3, D3⟩ := Src.draws I (A := X.A.in1) (show X.A.in1.handled = none from I.ok.hd hc) q3 f3
    have W := GoesN.zip3 (elts := elts) (x1 := kk) (pos := tpos) { TIz := d1, TOz := d2, TITO := d3, TIi1 := t1, mem1 := D1.mem, zf1 := D1.out z fz z1, Tf1 := D1.out TO fTO u1, TIi2 := t2, mem2 := D2.mem, zf2 := D2.out z fz z2, Tf2 := D2.out TO fTO u2, TIi3 := t3, mem3 := D3.mem, zf3 := D3.out z fz z3, Tf3 := D3.out TO fTO u3, sep1_2 := D2.out i1 f1 p12, sep1_3 := D3.out i1 f1 p13, sep2_1 := D1.out i2 f2 (Ne.symm p12), sep2_3 := D3.out i2 f2 p23, sep3_1 := D1.out i3 f3 (Ne.symm p13), sep3_2 := D2.out i3 f3 (Ne.symm p23) } D1.dr D2.dr D3.dr
    have l1 : i < xs1.length := (List.getElem?_eq_some_iff.mp hx1).1
    have l2 : i < xs2.length := (List.getElem?_eq_some_iff.mp hx2).1
    have l3 : i < xs3.length := (List.getElem?_eq_some_iff.mp hx3).1
    refine W.goes i s (fun u s2 => ∃ x H', Inv X pins σ H' s2 ∧ RelV x u ∧ (ItZ3 X.K S1 S2 S3).yld i H x H' ∧ (IsZip s2.heap z TI TO .none ∧ IsTupOf3 s2.heap TI (.ref i1) (.ref i2) (.ref i3) ∧ (∃ a1 a2 a3, IsTupOf3 s2.heap TO a1 a2 a3) ∧ S1.own i1 (i + 1) s2.heap ∧ S2.own i2 (i + 1) s2.heap ∧ S3.own i3 (i + 1) s2.heap) ∧ ∀ b ∈ [z, TI, TO, i1, i2, i3], H' b = none) E (by omega) ⟨hz, hTI, ⟨a1, a2, a3, hTO⟩, D1.st _ o1, D2.st _ o2, D3.st _ o3⟩ fun v h' tk hY st' hk htk => ?_
    obtain ⟨T, uu1, uu2, uu3, rfl, hT, hP1, hP2, hP3, hI⟩ := hY
    obtain ⟨hz', hTI', hTO', st1, st2, st3⟩ := st'
    obtain ⟨y1, hy1, ry1⟩ := D1.val i _ hP1
    have ey1 : y1 = x1 := Option.some.inj (hy1.symm.trans hx1)
    subst ey1
    obtain ⟨y2, hy2, ry2⟩ := D2.val i _ hP2
    have ey2 : y2 = x2 := Option.some.inj (hy2.symm.trans hx2)
    subst ey2
    obtain ⟨y3, hy3, ry3⟩ := D3.val i _ hP3
    have ey3 : y3 = x3 := Option.some.inj (hy3.symm.trans hx3)
    subst ey3
    have new : ObjOk X.prog X.w (upd H T (.tup [y1, y2, y3])) h' T (.tup [y1, y2, y3]) := tup_ok (its := [uu1, uu2, uu3]) (.cons ry1 (.cons ry2 (.cons ry3 .nil))) (by show 3 ≤ sizeLine; decide) hI
    have hk' : ∀ b o, b ∉ [z, TI, TO, i1, i2, i3] → s.heap.get? b = some o → h'.get? b = some o := fun b o hb e => hk b o (fun m => hb (by simp at m; rcases m with q | q | q | q | q <;> simp [q])) e
    have I1 : Inv X pins σ (upd H T (.tup [y1, y2, y3])) { s with heap := h', toks := tk } := I.turnedNew (ch := [z, TI, TO, i1, i2, i3]) hk' hf hT new
    refine ⟨.ref T, _, I1, rfl, ⟨T, y1, y2, y3, rfl, I.hok.fresh hT, rfl, fun ys hys => by rw [Src.inj I hys q1]; exact hx1, fun ys hys => by rw [Src.inj I hys q2]; exact hx2, fun ys hys => by rw [Src.inj I hys q3]; exact hx3⟩, ⟨hz', hTI', hTO', D1.own _ _ st1, D2.own _ _ st2, D3.own _ _ st3⟩, fun b hb => ?_⟩
    have hb' : b < s.heap.objs.size := by
      have e' : b = z ∨ b = TI ∨ b = TO ∨ b = i1 ∨ b = i2 ∨ b = i3 := by simpa using hb
      rcases e' with q | q | q | q | q | q
      · rw [q]; exact Heap.lt_size hz
      · rw [q]; exact Heap.lt_size hTI
      · rw [q]; exact Heap.lt_size hTO
      · rw [q]; obtain ⟨o, ho, _⟩ := Src.own_obj o1; exact Heap.lt_size ho
      · rw [q]; obtain ⟨o, ho, _⟩ := Src.own_obj o2; exact Heap.lt_size ho
      · rw [q]; obtain ⟨o, ho, _⟩ := Src.own_obj o3; exact Heap.lt_size ho
    rw [upd_ne (Nat.ne_of_lt (Nat.lt_of_lt_of_le hb' hT))]
    exact (hf b hb).1
  done := by
    intro X hP hw hK hc i pins s σ H E I hf st hg
    obtain ⟨xs1, xs2, xs3, q1, q2, q3, hx⟩ := hg
    subst hP hw hK
    obtain ⟨hz, hTI, ⟨a1, a2, a3, hTO⟩, o1, o2, o3⟩ := st
    obtain ⟨d1, d2, d3, t1, z1, u1, t2, z2, u2, t3, z3, u3, p12, p13, p23⟩ := ap
    have fz := hf z (by simp)
    have fTO := hf TO (by simp)
    have f1 := hf i1 (by simp)
    have f2 := hf i2 (by simp)
    have f3 := hf i3 (by simp)
    obtain ⟨fp1, P1, St1, D1⟩ := Src.draws I (A := X.A.in1) (show X.A.in1.handled = none from I.ok.hd hc) q1 f1
    obtain ⟨fp2, P2, St2, D2⟩ := Src.draws I (A := X.A.in1) (show X.A.in1.handled = none from I.ok.hd hc) q2 f2
    obtain ⟨fp3, P3, St3, D3⟩ := Src.draws I (A := X.A.in1) (show X.A.in1.handled = none from I.ok.hd hc) q3 f3
    have W := GoesN.zip3 (elts := elts) (x1 := kk) (pos := tpos) { TIz := d1, TOz := d2, TITO := d3, TIi1 := t1, mem1 := D1.mem, zf1 := D1.out z fz z1, Tf1 := D1.out TO fTO u1, TIi2 := t2, mem2 := D2.mem, zf2 := D2.out z fz z2, Tf2 := D2.out TO fTO u2, TIi3 := t3, mem3 := D3.mem, zf3 := D3.out z fz z3, Tf3 := D3.out TO fTO u3, sep1_2 := D2.out i1 f1 p12, sep1_3 := D3.out i1 f1 p13, sep2_1 := D1.out i2 f2 (Ne.symm p12), sep2_3 := D3.out i2 f2 p23, sep3_1 := D1.out i3 f3 (Ne.symm p13), sep3_2 := D2.out i3 f3 (Ne.symm p23) } D1.dr D2.dr D3.dr
    subst hx
    exact W.stops s (fun s1 => Inv X pins σ H s1) E ⟨hz, hTI, ⟨a1, a2, a3, hTO⟩, D1.st _ o1, D2.st _ o2, D3.st _ o3⟩ fun h' tk hk htk => I.turnedL (ch := [z, TI, TO, i1, i2, i3]) (fun b o hb e => hk b o (fun m => hb (by simp at m; rcases m with q | q | q | q | q <;> simp [q])) e) hf
  self := fun A i s Q E st h => wpAny_pyIter_zip st.1 h
end L2.DL

set_option Elab.async false
set_option linter.all false
set_option maxRecDepth 100000
set_option maxHeartbeats 2000000
/-! D layer 9: what is walked, on data. -/
namespace L2.DL
open PySem PySem.Spec PyProof.Rows
variable [TabL]

def iSrc (K : PySem.W.Frag) (x : V) (H : Hp) (k : Src → Prop) : Prop :=
  (∃ a xs, x = .ref a ∧ SqL K H a xs ∧ (xs.length ≤ sizeLine → k (.lst a))) ∨ (∃ a xs, x = .ref a ∧ SqT K H a xs ∧ (xs.length ≤ sizeLine → k (.tpl a))) ∨ ∃ z, x = .str z ∧ ∀ u, k (.txt z u)
section
variable {X : Cx} {pins : List (Addr × Obj)} {σ : L2.St} {H : Hp} {s : Shared}
theorem iSrc_ok (I : Inv X pins σ H s) {x : V} {v : Value} (r : RelV x v) {k : Src → Prop} (h : iSrc X.K x H k) : ∃ S xs, S.v = v ∧ S.has X.K H xs ∧ k S := by
  rcases h with ⟨a, xs, rfl, h1, h2⟩ | ⟨a, xs, rfl, h1, h2⟩ | ⟨z, rfl, h2⟩
  · cases r
    obtain ⟨_, _, _, hz⟩ := I.list h1
    exact ⟨.lst a, xs, rfl, h1, h2 hz⟩
  · cases r
    obtain ⟨_, _, _, hz⟩ := I.tuple h1
    exact ⟨.tpl a, xs, rfl, h1, h2 hz⟩
  · obtain ⟨t, rfl⟩ := r
    exact ⟨.txt z t, _, rfl, rfl, h2 t⟩
end
/-- the source as it stands, its items in turn -/
def ItS (K : PySem.W.Frag) (S : Src) : It :=
  ⟨fun i H => ∃ xs x, S.has K H xs ∧ xs[i]? = some x, fun i H v H' => H' = H ∧ ∀ xs, S.has K H xs → xs[i]? = some v, fun i H => ∃ xs, S.has K H xs ∧ xs.length ≤ i⟩
theorem turn_src {P : Program} {w : World} {K : PySem.W.Frag} {tg : Expr} (S : Src) (it : Addr) : Turn P w K tg (ItS K S) [it] it (fun i h => S.own it i h) := by
  cases S with
  | lst a =>
    have T := turn_list (P := P) (w := w) (K := K) (tg := tg) a it
    exact ⟨T.mem, T.obj, T.keep, T.item, T.done, T.self⟩
  | tpl a =>
    have T := turn_tuple (P := P) (w := w) (K := K) (tg := tg) a it
    exact ⟨T.mem, T.obj, T.keep, T.item, T.done, T.self⟩
  | txt z u =>
    have hty : strIterType z = "str_ascii_iterator" ∨ strIterType z = "str_iterator" := by
      unfold strIterType; split
      · exact .inl rfl
      · exact .inr rfl
    have T := turn_str (P := P) (w := w) (K := K) (tg := tg) it z u (strIterType z) hty
    refine ⟨T.mem, T.obj, T.keep, fun X hP hw hK hc i pins s σ H E I hf st hg => ?_, fun X hP hw hK hc i pins s σ H E I hf st hg => ?_, T.self⟩
    · obtain ⟨xs, x, h1, h2⟩ := hg
      have h1' : xs = z.cps.toList.map fun c => V.str ⟨#[c]⟩ := h1
      have hc' : i < z.cps.size := by
        rw [h1', List.getElem?_map, Array.getElem?_toList] at h2
        cases e : z.cps[i]? with
        | none => rw [e] at h2; cases h2
        | some c => exact (Array.getElem?_eq_some_iff.mp e).1
      refine wpAny_mono (T.item X hP hw hK hc i pins s σ H E I hf st hc') (fun r s1 ⟨v, e, hh⟩ => ⟨v, e, wpAny_mono hh (fun _ s2 ⟨x, H', I2, r2, y, st2, n2⟩ => ⟨x, H', I2, r2, ?_, st2, n2⟩) fun _ _ q => q⟩) fun _ _ q => q
      obtain ⟨e1, c, hcx, e2⟩ := y
      refine ⟨e1, fun ys hy => ?_⟩
      have hy' : ys = z.cps.toList.map fun c => V.str ⟨#[c]⟩ := hy
      rw [hy', List.getElem?_map, Array.getElem?_toList, hcx, e2]
      rfl
    · obtain ⟨xs, h1, h2⟩ := hg
      have h1' : xs = z.cps.toList.map fun c => V.str ⟨#[c]⟩ := h1
      exact T.done X hP hw hK hc i pins s σ H E I hf st (by rw [h1', List.length_map, Array.length_toList] at h2; exact h2)
section
variable {X : Cx} {tg : Expr}
def iOne (K : PySem.W.Frag) (te : TE) : TI := fun σ H R => te σ H fun x H1 => iSrc K x H1 fun S => R (ItS K S) H1
theorem pi_src {e : Expr} {te : TE} (he : PE X e te) : PI X tg e (iOne X.K te) := by
  refine ⟨fun pins s σ H R I h => ?_⟩
  refine thn (he.run pins s σ H _ I h) fun v s1 ⟨x, H1, I1, r1, q1⟩ => ?_
  obtain ⟨S, xs, rfl, hS, q⟩ := iSrc_ok I1 r1 q1
  obtain ⟨Hf, B, hf⟩ := Src.begins I1 hS
  refine B.iter _ _ _ _ _ _ hf ?_
  refine ⟨s1.heap.objs.size, [s1.heap.objs.size], _, _, H1, rfl, I1.kept (t' := s1.toks) fun b o e => Heap.get?_push_of_some _ e, turn_src S _, Src.own_new (Heap.get?_push_size _ B.free), fun b hb => ?_, q⟩
  have e : b = s1.heap.objs.size := by simpa using hb
  subst e
  exact I1.fpOk (Nat.le_refl _) (I1.hok.fresh (Nat.le_refl _))
def iEnS (K : PySem.W.Frag) (ta : TA) : TI := fun σ H R => ta σ H fun vs H1 => ∃ x, vs = [x] ∧ iSrc K x H1 fun S => R (ItE K S) H1
theorem pi_enumS {e : Expr} {ta : TA} {p pos tpos : Pos} {elts : List Expr} {kk : Nat} (hg : Gl X "enumerate") (hm : X.mg "enumerate" = none) (ha : PA X [e] ta) (hs : starEach [e] X.env = [(false, eval e X.env)]) :
    PI X (.Tuple elts kk tpos) (.Call (.Name "enumerate" p) [e] [] pos) (iEnS X.K ta) := by
  refine ⟨fun pins s σ H R I h => ?_⟩
  refine Call_ (ld_blt I hg hm boot_enumerate (PyProof.Rows.callWith_type1 (thn (ha.run pos pins s σ H _ I h) fun us s1 ⟨vs, H1, I1, r1, q1⟩ => ?_) hs rfl))
  obtain ⟨x, ex, q1⟩ := q1
  subst ex
  obtain ⟨u, rfl, ru⟩ := vals1 r1
  obtain ⟨S, xs, rfl, hS, q⟩ := iSrc_ok I1 ru q1
  obtain ⟨Hf, B, hf⟩ := Src.begins I1 hS
  refine dl_enum_begins B hf fun h' he hit hsz hk => wpAny_pyIter_enum he ?_
  have I2 : Inv X pins σ H1 { s1 with heap := h' } := I1.kept (t' := s1.toks) hk
  refine ⟨s1.heap.objs.size + 1, [s1.heap.objs.size + 1, s1.heap.objs.size], _, _, H1, rfl, I2, turn_enumS S (s1.heap.objs.size + 1) s1.heap.objs.size, ⟨⟨.none, he⟩, Src.own_new hit, Nat.succ_ne_self _⟩, fun b hb => ?_, q⟩
  have e' : b = s1.heap.objs.size + 1 ∨ b = s1.heap.objs.size := by simpa using hb
  have hle : s1.heap.objs.size ≤ b := by
    rcases e' with z | z
    · rw [z]; exact Nat.le_add_right _ _
    · rw [z]; exact Nat.le_refl _
  exact I1.fpOk hle (I1.hok.fresh hle)
theorem dl_ap2 (N : Nat) : Apart2 (N + 4 : Nat) (N + 2 : Nat) (N + 3 : Nat) (N : Nat) (N + 1 : Nat) :=
  ⟨show (N + 2 : Nat) ≠ N + 4 by omega, show (N + 3 : Nat) ≠ N + 4 by omega, show (N + 2 : Nat) ≠ N + 3 by omega, show (N + 2 : Nat) ≠ N by omega, show (N + 4 : Nat) ≠ N by omega, show (N + 3 : Nat) ≠ N by omega,
    show (N + 2 : Nat) ≠ N + 1 by omega, show (N + 4 : Nat) ≠ N + 1 by omega, show (N + 3 : Nat) ≠ N + 1 by omega, show (N : Nat) ≠ N + 1 by omega⟩
theorem dl_ap3 (N : Nat) : Apart3 (N + 5 : Nat) (N + 3 : Nat) (N + 4 : Nat) (N : Nat) (N + 1 : Nat) (N + 2 : Nat) :=
  ⟨show (N + 3 : Nat) ≠ N + 5 by omega, show (N + 4 : Nat) ≠ N + 5 by omega, show (N + 3 : Nat) ≠ N + 4 by omega, show (N + 3 : Nat) ≠ N by omega, show (N + 5 : Nat) ≠ N by omega, show (N + 4 : Nat) ≠ N by omega,
    show (N + 3 : Nat) ≠ N + 1 by omega, show (N + 5 : Nat) ≠ N + 1 by omega, show (N + 4 : Nat) ≠ N + 1 by omega, show (N + 3 : Nat) ≠ N + 2 by omega, show (N + 5 : Nat) ≠ N + 2 by omega, show (N + 4 : Nat) ≠ N + 2 by omega,
    show (N : Nat) ≠ N + 1 by omega, show (N : Nat) ≠ N + 2 by omega, show (N + 1 : Nat) ≠ N + 2 by omega⟩
def iZS2 (K : PySem.W.Frag) (ta : TA) : TI := fun σ H R => ta σ H fun vs H1 => ∃ x y, vs = [x, y] ∧ iSrc K x H1 fun S1 => iSrc K y H1 fun S2 => R (ItZ2 K S1 S2) H1
theorem pi_zipS2 {e e2 : Expr} {ta : TA} {p pos tpos : Pos} {elts : List Expr} {kk : Nat} (hg : Gl X "zip") (hm : X.mg "zip" = none) (ha : PA X [e, e2] ta)
    (hs : starEach [e, e2] X.env = (false, eval e X.env) :: starEach [e2] X.env) (hpl : (backTo pos (starEach [e2] X.env)).any (·.1) = false) :
    PI X (.Tuple elts kk tpos) (.Call (.Name "zip" p) [e, e2] [] pos) (iZS2 X.K ta) := by
  refine ⟨fun pins s σ H R I h => ?_⟩
  refine Call_ (ld_blt I hg hm PyProof.Rows.boot_zip (PyProof.Rows.callWith_type1 (thn (ha.run pos pins s σ H _ I h) fun us s1 ⟨vs, H1, I1, r1, q1⟩ => ?_) hs hpl))
  obtain ⟨x, y, ex, q1⟩ := q1
  subst ex
  obtain ⟨u1, u2, rfl, ru, ru2⟩ := vals2 r1
  obtain ⟨S1, xs1, rfl, hS1, q⟩ := iSrc_ok I1 ru q1
  obtain ⟨S2, xs2, rfl, hS2, q⟩ := iSrc_ok I1 ru2 q
  obtain ⟨Hf1, B1, hf1⟩ := Src.begins I1 hS1
  obtain ⟨Hf2, B2, hf2⟩ := Src.begins I1 hS2
  refine zip_begins2 B1 B2 hf1 hf2 fun h' hz hTI hTO h1 h2 hsz hk => wpAny_pyIter_zip hz ?_
  have I2 : Inv X pins σ H1 { s1 with heap := h' } := I1.kept (t' := s1.toks) hk
  refine ⟨s1.heap.objs.size + 4, [s1.heap.objs.size + 4, s1.heap.objs.size + 2, s1.heap.objs.size + 3, s1.heap.objs.size, s1.heap.objs.size + 1], _, _, H1, rfl, I2,
    turn_zipS2 S1 S2 _ _ _ _ _ ?_, ⟨hz, hTI, ⟨_, _, hTO⟩, Src.own_new h1, Src.own_new h2⟩, fun b hb => ?_, q⟩
  · exact dl_ap2 _
  · have hle : s1.heap.objs.size ≤ b := by
      simp only [List.mem_cons, List.not_mem_nil, or_false] at hb
      rcases hb with z | z | z | z | z <;> rw [z] <;> first | exact Nat.le_add_right _ _ | exact Nat.le_refl _
    exact I1.fpOk hle (I1.hok.fresh hle)
def iZS3 (K : PySem.W.Frag) (ta : TA) : TI := fun σ H R => ta σ H fun vs H1 => ∃ x y z, vs = [x, y, z] ∧ iSrc K x H1 fun S1 => iSrc K y H1 fun S2 => iSrc K z H1 fun S3 => R (ItZ3 K S1 S2 S3) H1
theorem vals3 {x y z : V} {us : List Value} (r : Vals [x, y, z] us) : ∃ u u2 u3, us = [u, u2, u3] ∧ RelV x u ∧ RelV y u2 ∧ RelV z u3 := by
  cases r with
  | cons r1 r => cases r with
    | cons r2 r => cases r with
      | cons r3 r => cases r; exact ⟨_, _, _, rfl, r1, r2, r3⟩
theorem pi_zipS3 {e e2 e3 : Expr} {ta : TA} {p pos tpos : Pos} {elts : List Expr} {kk : Nat} (hg : Gl X "zip") (hm : X.mg "zip" = none) (ha : PA X [e, e2, e3] ta)
    (hs : starEach [e, e2, e3] X.env = (false, eval e X.env) :: starEach [e2, e3] X.env) (hpl : (backTo pos (starEach [e2, e3] X.env)).any (·.1) = false) :
    PI X (.Tuple elts kk tpos) (.Call (.Name "zip" p) [e, e2, e3] [] pos) (iZS3 X.K ta) := by
  refine ⟨fun pins s σ H R I h => ?_⟩
  refine Call_ (ld_blt I hg hm PyProof.Rows.boot_zip (PyProof.Rows.callWith_type1 (thn (ha.run pos pins s σ H _ I h) fun us s1 ⟨vs, H1, I1, r1, q1⟩ => ?_) hs hpl))
  obtain ⟨x, y, z, ex, q1⟩ := q1
  subst ex
  obtain ⟨u1, u2, u3, rfl, ru, ru2, ru3⟩ := vals3 r1
  obtain ⟨S1, xs1, rfl, hS1, q⟩ := iSrc_ok I1 ru q1
  obtain ⟨S2, xs2, rfl, hS2, q⟩ := iSrc_ok I1 ru2 q
  obtain ⟨S3, xs3, rfl, hS3, q⟩ := iSrc_ok I1 ru3 q
  obtain ⟨Hf1, B1, hf1⟩ := Src.begins I1 hS1
  obtain ⟨Hf2, B2, hf2⟩ := Src.begins I1 hS2
  obtain ⟨Hf3, B3, hf3⟩ := Src.begins I1 hS3
  refine zip_begins3 B1 B2 B3 hf1 hf2 hf3 fun h' hz hTI hTO h1 h2 h3 hsz hk => wpAny_pyIter_zip hz ?_
  have I2 : Inv X pins σ H1 { s1 with heap := h' } := I1.kept (t' := s1.toks) hk
  refine ⟨s1.heap.objs.size + 5, [s1.heap.objs.size + 5, s1.heap.objs.size + 3, s1.heap.objs.size + 4, s1.heap.objs.size, s1.heap.objs.size + 1, s1.heap.objs.size + 2], _, _, H1, rfl, I2,
    turn_zipS3 S1 S2 S3 _ _ _ _ _ _ ?_, ⟨hz, hTI, ⟨_, _, _, hTO⟩, Src.own_new h1, Src.own_new h2, Src.own_new h3⟩, fun b hb => ?_, q⟩
  · exact dl_ap3 _
  · have hle : s1.heap.objs.size ≤ b := by
      simp only [List.mem_cons, List.not_mem_nil, or_false] at hb
      rcases hb with z | z | z | z | z | z <;> rw [z] <;> first | exact Nat.le_add_right _ _ | exact Nat.le_refl _
    exact I1.fpOk hle (I1.hok.fresh hle)
end

/-! ### on data -/
def gSeq : D → Option (List D)
  | .list xs => some xs
  | .tuple xs => some xs
  | .str z => if fitB z.length then some (z.cps.toList.map fun c => .str ⟨#[c]⟩) else none
  | _ => none
/-- looked at, the owned lists among the slots vs -/
def PkS (K : PySem.W.Frag) (vs : List Nat) (ad : Nat → Addr) (env : En) (Hc : Hp) (v : V) (d : D) : Prop := Dv K Hc v d ∨ ∃ i lk xs, i ∈ vs ∧ env[i]? = some (.lst lk xs) ∧ d = .list xs ∧ v = .ref (ad i)
open Classical in
/-- what stands, and the owned lists of the slots vs -/
noncomputable def wH (Hc H : Hp) (ad : Nat → Addr) (env : En) (vs : List Nat) : Hp := fun b => if ∃ i lk ys, i ∈ vs ∧ env[i]? = some (.lst lk ys) ∧ b = ad i then H b else Hc b
def DKs (X : Cx) (E : XK) (C : Addr) (e : Expr) (vs : List Nat) (f : Ev D) : Prop := ∃ t : TE, PE X e t ∧ Reads1 X E C (T := Unit) t (fun ad env _ Hc _ v d => PkS X.K vs ad env Hc v d) f
def DAKs (X : Cx) (E : XK) (C : Addr) (es : List Expr) (vs : List Nat) (f : Ev (List D)) : Prop := ∃ t : TA, PA X es t ∧ Reads1 X E C (T := Unit) t (fun ad env _ Hc _ xs ds => All2 (PkS X.K vs ad env Hc) xs ds) f
section
variable {K : PySem.W.Frag} {ad : Nat → Addr} {da : Option Addr} {Hc H : Hp} {σ : St} {env : En} {s : Dr} {vs : List Nat}
theorem wH_sub (e : ER K ad da Hc H σ env s) : Sub (wH Hc H ad env vs) H := fun b o h => by
  unfold wH at h
  split at h
  · exact h
  · exact e.sub _ _ h
theorem wH_cl (e : ER K ad da Hc H σ env s) : Sub Hc (wH Hc H ad env vs) := fun b o h => by
  unfold wH
  split
  · exact e.sub _ _ h
  · exact h
theorem wH_hw : ∀ b o, wH Hc H ad env vs b = some o → Hc b = some o ∨ ∃ i lk ys, i ∈ vs ∧ env[i]? = some (.lst lk ys) ∧ b = ad i := fun b o h => by
  unfold wH at h
  split at h
  · rename_i hh; exact .inr hh
  · exact .inl h
theorem str_dv {z : Str} : DvAll K Hc (z.cps.toList.map fun c => V.str ⟨#[c]⟩) (z.cps.toList.map fun c => PyData.str ⟨#[c]⟩) := by
  induction z.cps.toList with
  | nil => exact .nil
  | cons c r ih => exact .cons (.str _) ih
theorem src_of {v : V} {d : D} {xs : List D} (e : ER K ad da Hc H σ env s) (p : PkS K vs ad env Hc v d) (hz : gSeq d = some xs) {k : Src → Prop}
    (q : ∀ S ws, DvAll K Hc ws xs → xs.length ≤ sizeLine → (∀ Hc' H', Sub Hc Hc' → Sub Hc' H' → Sub (wH Hc H ad env vs) H' → S.has K H' ws) → k S) : iSrc K v H k := by
  rcases p with p | ⟨i, lk, ys, hi, hx, rfl, rfl⟩
  · cases p with
    | lst h1 h2 =>
      cases hz
      exact .inl ⟨_, _, rfl, SqL.of (e.sub _ _ h1), fun hl => q _ _ h2 (by rw [← h2.length]; exact hl) fun Hc' H' s1 s2 s3 => SqL.of (s2 _ _ (s1 _ _ h1))⟩
    | tup h1 h2 =>
      cases hz
      exact .inr (.inl ⟨_, _, rfl, e.sub.sqT h1, fun hl => q _ _ h2 (by rw [← h2.length]; exact hl) fun Hc' H' s1 s2 s3 => s2.sqT (s1.sqT h1)⟩)
    | str z =>
      have hz' : (if fitB z.length = true then some (z.cps.toList.map fun c => PyData.str ⟨#[c]⟩) else none) = some xs := hz
      split at hz'
      · rename_i hf
        cases hz'
        refine .inr (.inr ⟨z, rfl, fun u => q _ _ str_dv ?_ fun Hc' H' s1 s2 s3 => rfl⟩)
        rw [List.length_map, Array.length_toList]
        exact fitB_le hf
      · cases hz'
    | non => cases hz
    | bl _ => cases hz
    | int _ => cases hz
  · cases hz
    obtain ⟨ws, h1, h2, h3, h4⟩ := e.slot i _ hx
    refine .inl ⟨_, ws, rfl, SqL.of h2, fun hl => q _ ws h3 (by rw [← h3.length]; exact hl) fun Hc' H' s1 s2 s3 => SqL.of (s3 _ _ ?_)⟩
    unfold wH
    rw [if_pos ⟨i, lk, _, hi, hx, rfl⟩]
    exact h2
end
section
variable {X : Cx} {E : XK} {C : Addr} {e e2 e3 tg : Expr} {es : List Expr} {vs us : List Nat} {pos : Pos}
theorem PkS.mono {K : PySem.W.Frag} {ad : Nat → Addr} {env : En} {Hc Hc1 : Hp} {v : V} {d : D} (h : PkS K vs ad env Hc v d) (u : Sub Hc Hc1) : PkS K vs ad env Hc1 v d := h.imp (u.dv ·) id
theorem DE.dks {f : Ev D} (h : DE X E C e f) : DKs X E C e [] f := by
  obtain ⟨t, p, r⟩ := h
  exact ⟨t, p, fun ad da Hc H σ env s Q er q => r ad da Hc H σ env s Q er (q.imp fun _ _ _ _ z => .inl z)⟩
theorem dks_var {i : Nat} {x : Str} (hN : X.N[i]? = some x) (hv : Vis X.env.scope x) (hd : (x == ("__debug__" : Str)) = false) (hcd : (x == ("__classdict__" : Str)) = false) : DKs X E C (.Name x pos) [i] (evPk i) := by
  refine ⟨tVar i, pe_var hN hv hd hcd, fun ad da Hc H σ env s Q er q => ?_⟩
  unfold evPk at q
  cases hx : env[i]? with
  | none => rw [hx] at q; exact q.elim
  | some x =>
    rw [hx] at q
    cases x with
    | val d =>
      obtain ⟨v, h1, h2⟩ := er.slot i _ hx
      exact ⟨v, h1, q v Hc H Nx.refl er (.inl h2)⟩
    | no => exact q.elim
    | lst lk xs =>
      obtain ⟨vs, h1, h2, h3, h4⟩ := er.slot i _ hx
      exact ⟨_, h1, q _ Hc H Nx.refl er (.inr ⟨i, lk, xs, by simp, hx, rfl, rfl⟩)⟩
    | drw => exact q.elim
    | scr ns => exact q.elim
theorem daks_nil : DAKs X E C [] [] (fun _ s => .ok ([], s)) := ⟨tNil, pa_nil, fun ad da Hc H σ env s Q er q => q [] Hc H Nx.refl er trivial⟩
theorem daks_cons {fa : Ev D} {fr : Ev (List D)} (ha : DKs X E C e vs fa) (hr : DAKs X E C es us fr) (hs : starEach (e :: es) X.env = (false, eval e X.env) :: starEach es X.env) : DAKs X E C (e :: es) (vs ++ us) (evCons fa fr) := by
  obtain ⟨ta, pa, ra⟩ := ha
  obtain ⟨tr, pr, rr⟩ := hr
  refine ⟨_, pa_cons pa pr hs, fun ad da Hc H σ env s Q er q => ra ad da Hc H σ env s _ er (Post.bind q fun d s1 _ v Hc1 H1 n1 e1 p1 q1 => ?_)⟩
  refine rr ad da Hc1 H1 σ env s1 _ e1 (Post.bind q1 fun ds s2 _ vs' Hc2 H2 n2 e2 p2 q2 => ?_)
  refine q2 _ Hc2 H2 Nx.refl e2 ⟨?_, p2.imp fun _ _ z => ?_⟩
  · rcases p1.mono n2.sub with z | ⟨i, lk, xs, hi, r⟩
    · exact .inl z
    · exact .inr ⟨i, lk, xs, List.mem_append_left _ hi, r⟩
  · rcases z with z | ⟨i, lk, xs, hi, r⟩
    · exact .inl z
    · exact .inr ⟨i, lk, xs, List.mem_append_right _ hi, r⟩
def evSeq (f : Ev D) : Ev (List D) := fun env s => (f env s).bind fun p => (R.ofO (gSeq p.1)).bind fun xs => .ok (xs, p.2)
theorem di_src {f : Ev D} (h : DKs X E C e vs f) : DI X E C tg e vs (evSeq f) := by
  obtain ⟨t, p, r⟩ := h
  refine ⟨_, pi_src p, fun ad da Hc H σ env s Q er q => r ad da Hc H σ env s _ er (IPost.bind q fun d s1 _ v Hc1 H1 n1 e1 p1 q1 => ?_)⟩
  cases hz : gSeq d with
  | none => rw [hz] at q1; exact q1.elim
  | some xs =>
    rw [hz] at q1
    refine src_of e1 p1 hz fun S ws hw hl hh => q1 _ (wH Hc1 H1 ad env vs) Hc1 H1 Nx.refl e1 (wH_sub e1) wH_hw hl fun Hc' H' i s1 s2 s3 => ?_
    have hS := hh Hc' H' s1 s2 s3
    refine ⟨fun x hx => ?_, fun hi => ⟨ws, hS, by rw [hw.length, hi]; exact Nat.le_refl _⟩⟩
    obtain ⟨y, hy, hd⟩ := hw.get hx
    refine ⟨⟨ws, y, hS, hy⟩, fun v' H'' hyl => ?_⟩
    obtain ⟨rfl, hall⟩ := hyl
    have := hall ws hS
    rw [hy] at this
    cases this
    exact ⟨Hc', Al.refl s2, s1.dv hd⟩
def enumD : Nat → List D → List D
  | _, [] => []
  | k, x :: xs => .tuple [.int k, x] :: enumD (k + 1) xs
theorem enumD_len : ∀ (k : Nat) (xs : List D), (enumD k xs).length = xs.length
  | _, [] => rfl
  | k, x :: xs => by rw [enumD, List.length_cons, List.length_cons, enumD_len]
theorem enumD_get : ∀ (k : Nat) (xs : List D) (i : Nat), (enumD k xs)[i]? = (xs[i]?).map fun x => .tuple [.int ((k + i : Nat) : Int), x]
  | _, [], i => by simp [enumD]
  | k, x :: xs, 0 => by simp [enumD]
  | k, x :: xs, i + 1 => by
    rw [enumD, List.getElem?_cons_succ, List.getElem?_cons_succ, enumD_get, show k + 1 + i = k + (i + 1) by omega]
def evEnum (f : Ev (List D)) : Ev (List D) := fun env s => (f env s).bind fun p => match p.1 with
  | [d] => (R.ofO (gSeq d)).bind fun xs => .ok (enumD 0 xs, p.2)
  | _ => .stuck
theorem di_enum {f : Ev (List D)} {p tpos : Pos} {elts : List Expr} {kk : Nat} (hg : Gl X "enumerate") (hm : X.mg "enumerate" = none) (ha : DAKs X E C [e] vs f) (hs : starEach [e] X.env = [(false, eval e X.env)]) :
    DI X E C (.Tuple elts kk tpos) (.Call (.Name "enumerate" p) [e] [] pos) vs (evEnum f) := by
  obtain ⟨t, pa, r⟩ := ha
  refine ⟨_, pi_enumS hg hm pa hs, fun ad da Hc H σ env s Q er q => r ad da Hc H σ env s _ er (IPost.bind q fun ds s1 _ xs Hc1 H1 n1 e1 p1 q1 => ?_)⟩
  split at q1
  · rename_i d hd
    have hd' : ds = [d] := hd
    subst hd'
    obtain ⟨v, rfl, pp⟩ := p1.one
    cases hz : gSeq d with
    | none => rw [hz] at q1; exact q1.elim
    | some xs =>
      rw [hz] at q1
      refine ⟨v, rfl, src_of e1 pp hz fun S ws hw hl hh => q1 _ (wH Hc1 H1 ad env vs) Hc1 H1 Nx.refl e1 (wH_sub e1) wH_hw (by rw [enumD_len]; exact hl) fun Hc' H' i s1 s2 s3 => ?_⟩
      have hS := hh Hc' H' s1 s2 s3
      refine ⟨fun x hx => ?_, fun hi => ?_⟩
      · rw [enumD_get] at hx
        cases hx0 : xs[i]? with
        | none => rw [hx0] at hx; cases hx
        | some x0 =>
          rw [hx0] at hx
          cases hx
          obtain ⟨y, hy, hdv⟩ := hw.get hx0
          refine ⟨⟨ws, y, hS, hy⟩, fun v' H'' hyl => ?_⟩
          obtain ⟨T, y', rfl, hT, rfl, hall⟩ := hyl
          have := hall ws hS
          rw [hy] at this
          cases this
          have su := Sub.upd (o := .tup [.int i, y]) (s2.none hT)
          exact ⟨_, Al.new s2 hT, .tup (SqT.of upd_same) (.cons (by rw [Nat.zero_add]; exact .int _) (.cons (su.dv (s1.dv hdv)) .nil))⟩
      · rw [enumD_len] at hi
        exact ⟨ws, hS, by rw [hw.length]; exact hi⟩
  · exact q1.elim
def zipD2 (xs ys : List D) : List D := List.zipWith (fun x y => .tuple [x, y]) xs ys
def zipD3 (xs ys zs : List D) : List D := List.zipWith (fun x p => .tuple [x, p.1, p.2]) xs (List.zip ys zs)
def evZip2 (f : Ev (List D)) : Ev (List D) := fun env s => (f env s).bind fun p => match p.1 with
  | [d, e] => (R.ofO (gSeq d)).bind fun xs => (R.ofO (gSeq e)).bind fun ys => .ok (zipD2 xs ys, p.2)
  | _ => .stuck
def evZip3 (f : Ev (List D)) : Ev (List D) := fun env s => (f env s).bind fun p => match p.1 with
  | [d, e, g] => (R.ofO (gSeq d)).bind fun xs => (R.ofO (gSeq e)).bind fun ys => (R.ofO (gSeq g)).bind fun zs => .ok (zipD3 xs ys zs, p.2)
  | _ => .stuck
theorem All2.three {α β : Type} {P : α → β → Prop} {as : List α} {b c d : β} (h : All2 P as [b, c, d]) : ∃ x y z, as = [x, y, z] ∧ P x b ∧ P y c ∧ P z d := by
  cases as with
  | nil => exact h.elim
  | cons a r =>
    obtain ⟨y, z, rfl, h2, h3⟩ := All2.two h.2
    exact ⟨a, y, z, rfl, h.1, h2, h3⟩
theorem di_zip2 {f : Ev (List D)} {p tpos : Pos} {elts : List Expr} {kk : Nat} (hg : Gl X "zip") (hm : X.mg "zip" = none) (ha : DAKs X E C [e, e2] vs f) (hs : starEach [e, e2] X.env = (false, eval e X.env) :: starEach [e2] X.env) (hpl : (backTo pos (starEach [e2] X.env)).any (·.1) = false) :
    DI X E C (.Tuple elts kk tpos) (.Call (.Name "zip" p) [e, e2] [] pos) vs (evZip2 f) := by
  obtain ⟨t, pa, r⟩ := ha
  refine ⟨_, pi_zipS2 hg hm pa hs hpl, fun ad da Hc H σ env s Q er q => r ad da Hc H σ env s _ er (IPost.bind q fun ds s1 _ xs Hc1 H1 n1 e1 p1 q1 => ?_)⟩
  split at q1
  · rename_i d d2 hd
    have hd' : ds = [d, d2] := hd
    subst hd'
    obtain ⟨v, v2, rfl, pp, pp2⟩ := p1.two
    cases hz : gSeq d with
    | none => rw [hz] at q1; exact q1.elim
    | some xs =>
      rw [hz] at q1
      cases hz2 : gSeq d2 with
      | none => rw [hz2] at q1; exact q1.elim
      | some ys =>
        rw [hz2] at q1
        refine ⟨v, v2, rfl, src_of e1 pp hz fun S ws hw hl hh => src_of e1 pp2 hz2 fun S2 ws2 hw2 hl2 hh2 => q1 _ (wH Hc1 H1 ad env vs) Hc1 H1 Nx.refl e1 (wH_sub e1) wH_hw ?_ fun Hc' H' i s1 s2 s3 => ?_⟩
        · unfold zipD2; rw [List.length_zipWith]; omega
        · have hS := hh Hc' H' s1 s2 s3
          have hS2 := hh2 Hc' H' s1 s2 s3
          refine ⟨fun x hx => ?_, fun hi => ?_⟩
          · unfold zipD2 at hx
            rw [List.getElem?_zipWith] at hx
            cases hx0 : xs[i]? with
            | none => rw [hx0] at hx; cases hx
            | some x0 =>
              cases hy0 : ys[i]? with
              | none => rw [hx0, hy0] at hx; cases hx
              | some y0 =>
                rw [hx0, hy0] at hx
                cases hx
                obtain ⟨y, hy, hdv⟩ := hw.get hx0
                obtain ⟨y2, hy2, hdv2⟩ := hw2.get hy0
                refine ⟨⟨ws, ws2, y, y2, hS, hS2, hy, hy2⟩, fun v' H'' hyl => ?_⟩
                obtain ⟨T, y', y2', rfl, hT, rfl, hall, hall2⟩ := hyl
                have a1 := hall ws hS
                have a2 := hall2 ws2 hS2
                rw [hy] at a1; cases a1
                rw [hy2] at a2; cases a2
                have su := Sub.upd (o := .tup [y, y2]) (s2.none hT)
                exact ⟨_, Al.new s2 hT, .tup (SqT.of upd_same) (.cons (su.dv (s1.dv hdv)) (.cons (su.dv (s1.dv hdv2)) .nil))⟩
          · unfold zipD2 at hi
            rw [List.length_zipWith] at hi
            exact ⟨ws, ws2, hS, hS2, by rw [hw.length, hw2.length]; exact hi⟩
  · exact q1.elim
theorem di_zip3 {f : Ev (List D)} {p tpos : Pos} {elts : List Expr} {kk : Nat} (hg : Gl X "zip") (hm : X.mg "zip" = none) (ha : DAKs X E C [e, e2, e3] vs f) (hs : starEach [e, e2, e3] X.env = (false, eval e X.env) :: starEach [e2, e3] X.env) (hpl : (backTo pos (starEach [e2, e3] X.env)).any (·.1) = false) :
    DI X E C (.Tuple elts kk tpos) (.Call (.Name "zip" p) [e, e2, e3] [] pos) vs (evZip3 f) := by
  obtain ⟨t, pa, r⟩ := ha
  refine ⟨_, pi_zipS3 hg hm pa hs hpl, fun ad da Hc H σ env s Q er q => r ad da Hc H σ env s _ er (IPost.bind q fun ds s1 _ xs Hc1 H1 n1 e1 p1 q1 => ?_)⟩
  split at q1
  · rename_i d d2 d3 hd
    have hd' : ds = [d, d2, d3] := hd
    subst hd'
    obtain ⟨v, v2, v3, rfl, pp, pp2, pp3⟩ := p1.three
    cases hz : gSeq d with
    | none => rw [hz] at q1; exact q1.elim
    | some xs =>
      rw [hz] at q1
      cases hz2 : gSeq d2 with
      | none => rw [hz2] at q1; exact q1.elim
      | some ys =>
        rw [hz2] at q1
        cases hz3 : gSeq d3 with
        | none => rw [hz3] at q1; exact q1.elim
        | some zs =>
        rw [hz3] at q1
        refine ⟨v, v2, v3, rfl, src_of e1 pp hz fun S ws hw hl hh => src_of e1 pp2 hz2 fun S2 ws2 hw2 hl2 hh2 => src_of e1 pp3 hz3 fun S3 ws3 hw3 hl3 hh3 => q1 _ (wH Hc1 H1 ad env vs) Hc1 H1 Nx.refl e1 (wH_sub e1) wH_hw ?_ fun Hc' H' i s1 s2 s3 => ?_⟩
        · unfold zipD3; rw [List.length_zipWith]; omega
        · have hS := hh Hc' H' s1 s2 s3
          have hS2 := hh2 Hc' H' s1 s2 s3
          have hS3 := hh3 Hc' H' s1 s2 s3
          refine ⟨fun x hx => ?_, fun hi => ?_⟩
          · unfold zipD3 at hx
            rw [List.getElem?_zipWith, List.zip, List.getElem?_zipWith] at hx
            cases hx0 : xs[i]? with
            | none => rw [hx0] at hx; cases hx
            | some x0 =>
              cases hy0 : ys[i]? with
              | none => rw [hx0, hy0] at hx; cases hx
              | some y0 =>
                cases hz0 : zs[i]? with
                | none => rw [hx0, hy0, hz0] at hx; cases hx
                | some z0 =>
                rw [hx0, hy0, hz0] at hx
                cases hx
                obtain ⟨y, hy, hdv⟩ := hw.get hx0
                obtain ⟨y2, hy2, hdv2⟩ := hw2.get hy0
                obtain ⟨y3, hy3, hdv3⟩ := hw3.get hz0
                refine ⟨⟨ws, ws2, ws3, y, y2, y3, hS, hS2, hS3, hy, hy2, hy3⟩, fun v' H'' hyl => ?_⟩
                obtain ⟨T, y', y2', y3', rfl, hT, rfl, hall, hall2, hall3⟩ := hyl
                have a1 := hall ws hS
                have a2 := hall2 ws2 hS2
                have a3 := hall3 ws3 hS3
                rw [hy] at a1; cases a1
                rw [hy2] at a2; cases a2
                rw [hy3] at a3; cases a3
                have su := Sub.upd (o := .tup [y, y2, y3]) (s2.none hT)
                exact ⟨_, Al.new s2 hT, .tup (SqT.of upd_same) (.cons (su.dv (s1.dv hdv)) (.cons (su.dv (s1.dv hdv2)) (.cons (su.dv (s1.dv hdv3)) .nil)))⟩
          · unfold zipD3 at hi
            rw [List.length_zipWith, List.length_zip] at hi
            exact ⟨ws, ws2, ws3, hS, hS2, hS3, by rw [hw.length, hw2.length, hw3.length]; omega⟩
  · exact q1.elim
/-! ranges -/
def rngD (a : Int) (n : Nat) (c : Int) : List D := (List.range n).map fun (k : Nat) => .int (a + (k : Int) * c)
theorem rngD_len (a : Int) (n : Nat) (c : Int) : (rngD a n c).length = n := by unfold rngD; rw [List.length_map, List.length_range]
theorem rngD_get (a : Int) (n : Nat) (c : Int) (i : Nat) : (rngD a n c)[i]? = if i < n then some (.int (a + (i : Int) * c)) else none := by
  unfold rngD
  rw [List.getElem?_map]
  by_cases h : i < n
  · rw [if_pos h, List.getElem?_range h]; rfl
  · rw [if_neg h, List.getElem?_eq_none (by rw [List.length_range]; omega)]; rfl
def inR (i : Int) : Bool := decide (-(2 ^ 62) ≤ i) && decide (i < 2 ^ 62)
def evRng1 (f : Ev (List D)) : Ev (List D) := fun env s => (f env s).bind fun p => match p.1 with
  | [.int j] => if inR j && fitB j.toNat then .ok (rngD 0 j.toNat 1, p.2) else .stuck
  | _ => .stuck
def evRng2 (f : Ev (List D)) : Ev (List D) := fun env s => (f env s).bind fun p => match p.1 with
  | [.int i, .int j] => if inR i && inR j && fitB (j - i).toNat then .ok (rngD i (j - i).toNat 1, p.2) else .stuck
  | _ => .stuck
theorem itr_ok {K : PySem.W.Frag} {W Hc : Hp} (a : Int) (n : Nat) : ItD K (Itr a n) W Hc (rngD a n 1) := fun Hc' H' i s1 s2 s3 => by
  refine ⟨fun x hx => ?_, fun hi => ?_⟩
  · rw [rngD_get] at hx
    split at hx
    · rename_i hlt
      cases hx
      refine ⟨hlt, fun v H'' hy => ?_⟩
      obtain ⟨rfl, rfl⟩ := hy
      rw [Int.mul_one]
      exact ⟨Hc', Al.refl s2, .int _⟩
    · cases hx
  · rw [rngD_len] at hi
    exact Nat.le_of_eq hi
theorem inR_ok {i : Int} (h : inR i = true) : -(2 ^ 62) ≤ i ∧ i < 2 ^ 62 := by
  unfold inR at h
  simp only [Bool.and_eq_true, decide_eq_true_eq] at h
  exact h
theorem di_rng1 {f : Ev (List D)} {p : Pos} (hg : Gl X "range") (hm : X.mg "range" = none) (ha : DAE X E C [e] f) (hs : starEach [e] X.env = [(false, eval e X.env)]) : DI X E C tg (.Call (.Name "range" p) [e] [] pos) [] (evRng1 f) := by
  obtain ⟨t, pa, r⟩ := ha
  refine ⟨_, pi_range1 hg hm pa hs, fun ad da Hc H σ env s Q er q => r ad da Hc H σ env s _ er (IPost.bind q fun ds s1 _ xs Hc1 H1 n1 e1 p1 q1 => ?_)⟩
  split at q1
  · rename_i j hd
    have hd' : ds = [.int j] := hd
    subst hd'
    split at q1
    · rename_i hb
      obtain ⟨hb, hf⟩ := Bool.and_eq_true_iff.mp hb
      obtain ⟨b1, b2⟩ := inR_ok hb
      cases p1 with
      | cons r1 r2 =>
        cases r1
        cases r2
        exact ⟨j, rfl, b1, b2, q1 _ Hc1 Hc1 H1 Nx.refl e1 e1.sub (fun b o h => .inl h) (by rw [rngD_len]; exact fitB_le hf) (itr_ok 0 _)⟩
    · exact q1.elim
  · exact q1.elim
theorem di_rng2 {f : Ev (List D)} {p : Pos} (hg : Gl X "range") (hm : X.mg "range" = none) (ha : DAE X E C [e, e2] f) (hs : starEach [e, e2] X.env = [(false, eval e X.env), (false, eval e2 X.env)]) (hs2 : starEach [e2] X.env = [(false, eval e2 X.env)]) : DI X E C tg (.Call (.Name "range" p) [e, e2] [] pos) [] (evRng2 f) := by
  obtain ⟨t, pa, r⟩ := ha
  refine ⟨_, pi_range2 hg hm pa hs hs2, fun ad da Hc H σ env s Q er q => r ad da Hc H σ env s _ er (IPost.bind q fun ds s1 _ xs Hc1 H1 n1 e1 p1 q1 => ?_)⟩
  split at q1
  · rename_i i j hd
    have hd' : ds = [.int i, .int j] := hd
    subst hd'
    split at q1
    · rename_i hb
      obtain ⟨hb, hf⟩ := Bool.and_eq_true_iff.mp hb
      obtain ⟨hb1, hb2⟩ := Bool.and_eq_true_iff.mp hb
      obtain ⟨b1, b2⟩ := inR_ok hb1
      obtain ⟨b3, b4⟩ := inR_ok hb2
      cases p1 with
      | cons r1 r2 =>
        cases r2 with
        | cons r2 r3 =>
          cases r1
          cases r2
          cases r3
          exact ⟨i, j, rfl, ⟨b1, b2, b3, b4⟩, q1 _ Hc1 Hc1 H1 Nx.refl e1 e1.sub (fun b o h => .inl h) (by rw [rngD_len]; exact fitB_le hf) (itr_ok i _)⟩
    · exact q1.elim
  · exact q1.elim
end
end L2.DL

set_option Elab.async false
set_option linter.all false
set_option maxRecDepth 100000
set_option maxHeartbeats 2000000
/-! D layer 10: new lists of one's own. -/
namespace L2.DL
open PySem PySem.Spec PyProof.Rows
variable [TabL]

section
variable {X : Cx} {E : XK} {C : Addr} {e a b : Expr} {es : List Expr} {pos : Pos}
theorem DF.de {f : Ev D} (h : DF X E C e f) : DE X E C e f := by
  obtain ⟨t, p, r⟩ := h
  exact ⟨t, p, Reads1.shut r⟩
theorem df_lst {f : Ev (List D)} (h : DAE X E C es f) : DF X E C (.List es pos) (evLst f) := by
  obtain ⟨t, p, r⟩ := h
  refine ⟨_, pe_lst p, fun ad da Hc H σ env s Q er q => r ad da Hc H σ env s _ er (Post.bind q fun ds s1 _ vs Hc1 H1 n1 e1 p1 q1 => ?_)⟩
  dsimp only at q1
  split at q1
  · rename_i hf
    refine ⟨by rw [p1.length]; exact fitB_le hf, fun p hp => q1 _ _ _ (Nx.lay hp) (e1.lay hp) ⟨p, vs, ds, rfl, rfl, ?_, upd_same, e1.sub.none hp, p1⟩⟩
    intro o z t
    obtain ⟨o2, z2, _⟩ := n1.there p o z t
    rw [hp] at z2
    cases z2
  · exact q1.elim
/-- only a list -/
def evL (f : Ev D) : Ev D := fun env s => (f env s).bind fun p => match p.1 with
  | .list xs => .ok (.list xs, p.2)
  | _ => .stuck
def OpF (K : PySem.W.Frag) (r : R2) (g : D → D → Option D) : Prop :=
  ∀ (Hc H : Hp) (x y : V) (d e : D) (zs : List D) (Q : VK), Sub Hc H → Pk K Hc H x d → Pk K Hc H y e → g d e = some (.list zs) → (∀ p vs, H p = none → DvAll K Hc vs zs → Q (.ref p) (upd H p (.lst vs))) → r x y H Q
theorem op2F {r : R2} {g : D → D → Option D} {fa fb : Ev D} {ta tb : TE} (hr : OpF X.K r g) (ra : RK X E C ta fa) (rb : RK X E C tb fb) : Reads1 X E C (T := Unit) (tOp r ta tb) (fun _ _ Hst Hc H v d => PF X.K Hst Hc H v d) (evL (ev2 g fa fb)) := fun ad da Hc H σ env s Q er q => by
  have q' : PostX X E C ad da Hc H σ env (fun Hc' H' v d => PF X.K H Hc' H' v d) Q ((fa env s).bind fun p => (fb env p.2).bind fun q => (R.ofO (g p.1 q.1)).bind fun z => match z with
      | .list xs => .ok (.list xs, q.2)
      | _ => .stuck) := by
    have q2 := q
    unfold evL ev2 at q2
    simp only [R.bind_assoc, R.bind_ok] at q2
    exact q2
  refine ra ad da Hc H σ env s _ er (Post.bind q' fun d s1 _ v Hc1 H1 n1 e1 p1 q1 => ?_)
  refine rb ad da Hc1 H1 σ env s1 _ e1 (Post.bind q1 fun d2 s2 _ v2 Hc2 H2 n2 e2 p2 q2 => ?_)
  cases hg : g d d2 with
  | none => rw [hg] at q2; exact q2.elim
  | some z =>
    rw [hg] at q2
    cases z with
    | list zs =>
      refine hr Hc2 H2 v v2 d d2 zs Q e2.sub ((p1.sub n2.sub).pk e2) (p2.pk e2) hg fun p vs hp hd => q2 _ Hc2 _ (Nx.lay hp) (e2.lay hp) ⟨p, vs, zs, rfl, rfl, ?_, upd_same, e2.sub.none hp, hd⟩
      intro o z t
      obtain ⟨o2, z2, _⟩ := (n1.trans n2).there p o z t
      rw [hp] at z2
      cases z2
    | none => exact q2.elim
    | bool _ => exact q2.elim
    | int _ => exact q2.elim
    | str _ => exact q2.elim
    | tuple _ => exact q2.elim
    | dict _ => exact q2.elim
theorem df_bin {op : Operator} {r : R2} {g : D → D → Option D} {fa fb : Ev D} (ho : OpR X (binaryOp op) r) (hr : OpF X.K r g) (ha : DK X E C a fa) (hb : DK X E C b fb) : DF X E C (.BinOp a op b pos) (evL (ev2 g fa fb)) := by
  obtain ⟨ta, pa, ra⟩ := ha
  obtain ⟨tb, pb, rb⟩ := hb
  exact ⟨_, pe_op ho pa pb, op2F hr ra rb⟩
theorem f_add {K : PySem.W.Frag} : OpF K (rAdd4 K) gAdd := by
  intro Hc H x y d e zs Q s hx hy hz q
  unfold gAdd at hz
  split at hz
  · cases hz
  · split at hz
    · rename_i hf
      cases hz
      obtain ⟨a, vs, rfl, h1, h2⟩ := hx.list s
      obtain ⟨b, ws, rfl, h3, h4⟩ := hy.list s
      exact .inr (.inl ⟨a, b, vs, ws, rfl, rfl, h1, h3, by rw [h2.length, h4.length]; exact fitB_le hf, fun p hp => q p _ hp (h2.append h4)⟩)
    · cases hz
  · split at hz <;> cases hz
  · split at hz <;> cases hz
  · cases hz
theorem f_mul {K : PySem.W.Frag} : OpF K (rMul3 K) gMul := by
  intro Hc H x y d e zs Q s hx hy hz q
  unfold gMul at hz
  split at hz
  · split at hz <;> cases hz
  · split at hz
    · rename_i hf
      cases hz
      obtain ⟨a, vs, rfl, h1, h2⟩ := hx.list s
      simp only [Bool.and_eq_true, decide_eq_true_eq] at hf
      exact .inr (.inl ⟨a, _, vs, rfl, hy.int, h1, hf.1.1, hf.1.2, by rw [h2.length]; exact fitB_le hf.2, fun p hp => q p _ hp (h2.flat _)⟩)
    · cases hz
  · split at hz
    · cases hz
    · split at hz <;> cases hz
  · cases hz
/-- a built-in's call that makes a list -/
def CallF (K : PySem.W.Frag) (r : List V → Hp → VK → Prop) (g : List D → Option D) : Prop :=
  ∀ (Hc H : Hp) (vs : List V) (ds : List D) (zs : List D) (Q : VK), Sub Hc H → All2 (Pk K Hc H) vs ds → g ds = some (.list zs) → (∀ p vs, H p = none → DvAll K Hc vs zs → Q (.ref p) (upd H p (.lst vs))) → r vs H Q
theorem CallF.read {r : List V → Hp → VK → Prop} {g : List D → Option D} {t : TA} {f : Ev (List D)} (hr : CallF X.K r g) (h : Reads1 X E C (T := Unit) t (fun ad env _ Hc _ vs ds => All2 (PkV X.K ad env Hc) vs ds) f) :
    Reads1 X E C (T := Unit) (fun σ H Q => t σ H fun vs H1 => r vs H1 Q) (fun _ _ Hst Hc H v d => PF X.K Hst Hc H v d) (evL (evB1 g f)) := fun ad da Hc H σ env s Q er q => by
  have q' : PostX X E C ad da Hc H σ env (fun Hc' H' v d => PF X.K H Hc' H' v d) Q ((f env s).bind fun p => (R.ofO (g p.1)).bind fun z => match z with
      | .list xs => .ok (.list xs, p.2)
      | _ => .stuck) := by
    have q2 := q
    unfold evL evB1 at q2
    simp only [R.bind_assoc, R.bind_ok] at q2
    exact q2
  refine h ad da Hc H σ env s _ er (Post.bind q' fun ds s1 _ vs Hc1 H1 n1 e1 p1 q1 => ?_)
  cases hg : g ds with
  | none => rw [hg] at q1; exact q1.elim
  | some z =>
    rw [hg] at q1
    cases z with
    | list zs =>
      refine hr Hc1 H1 vs ds zs Q e1.sub (p1.imp fun _ _ z => z.pk e1) hg fun p vs hp hd => q1 _ Hc1 _ (Nx.lay hp) (e1.lay hp) ⟨p, vs, zs, rfl, rfl, ?_, upd_same, e1.sub.none hp, hd⟩
      intro o z t
      obtain ⟨o2, z2, _⟩ := n1.there p o z t
      rw [hp] at z2
      cases z2
    | none => exact q1.elim
    | bool _ => exact q1.elim
    | int _ => exact q1.elim
    | str _ => exact q1.elim
    | tuple _ => exact q1.elim
    | dict _ => exact q1.elim
theorem df_callTy {T : String} {x : Str} {p : Pos} {r : List V → Hp → VK → Prop} {g : List D → Option D} {f : Ev (List D)} (hr : CallF X.K r g) (hc : CallR X (.type T) r) (hg : Gl X x) (hm : X.mg x = none) (hv : bootBuiltins x = some (.type T)) (ha : DAK X E C (e :: es) f) (hn : x ≠ "__name__") (hd : (x == ("__debug__" : Str)) = false)
    (hs : starEach (e :: es) X.env = (false, eval e X.env) :: starEach es X.env) (hpl : (backTo pos (starEach es X.env)).any (·.1) = false) : DF X E C (.Call (.Name x p) (e :: es) [] pos) (evL (evB1 g f)) := by
  obtain ⟨t, pa, ra⟩ := ha
  exact ⟨_, pe_callTy hc hg hm hv pa hn hd hs hpl, CallF.read hr ra⟩
theorem df_callB {id : String} {x : Str} {p : Pos} {r : List V → Hp → VK → Prop} {g : List D → Option D} {f : Ev (List D)} (hr : CallF X.K r g) (hc : CallR X (.builtin id) r) (hg : Gl X x) (hm : X.mg x = none) (hv : bootBuiltins x = some (.builtin id)) (ha : DAK X E C (e :: es) f) (hn : x ≠ "__name__") (hd : (x == ("__debug__" : Str)) = false)
    (hs : starEach (e :: es) X.env = (false, eval e X.env) :: starEach es X.env) (hpl : (backTo pos (starEach es X.env)).any (·.1) = false) : DF X E C (.Call (.Name x p) (e :: es) [] pos) (evL (evB1 g f)) := by
  obtain ⟨t, pa, ra⟩ := ha
  exact ⟨_, pe_callB hc hg hm hv pa hn hd hs hpl, CallF.read hr ra⟩
theorem f_list {K : PySem.W.Frag} : CallF K (fun xs H Q => ∃ p ys, xs = [.ref p] ∧ (SqL K H p ys ∨ SqT K H p ys) ∧ ∀ l, H l = none → Q (.ref l) (upd H l (.lst ys))) gList := by
  intro Hc H vs ds zs Q s hx hz q
  unfold gList at hz
  split at hz
  · cases hz
    obtain ⟨v, rfl, hp⟩ := hx.one
    obtain ⟨a, ws, rfl, h1, h2⟩ := hp.list s
    exact ⟨a, ws, rfl, .inl (SqL.of h1), fun p hp => q p _ hp h2⟩
  · cases hz
    obtain ⟨v, rfl, hp⟩ := hx.one
    obtain ⟨a, ws, rfl, h1, h2⟩ := hp.tuple s
    exact ⟨a, ws, rfl, .inr h1, fun p hp => q p _ hp h2⟩
  · cases hz
/-! list(range(..)), tuple(range(..)) -/
theorem rgV_dv {K : PySem.W.Frag} {H : Hp} (a b : Int) : DvAll K H (rgV a b) (rngD a (b - a).toNat 1) := by
  unfold rgV rngD
  generalize (b - a).toNat = n
  have h : ∀ l : List Nat, DvAll K H (l.map fun i => V.int (a + (i : Nat))) (l.map fun (k : Nat) => PyData.int (a + (k : Int) * 1)) := fun l => by
    induction l with
    | nil => exact .nil
    | cons x r ih =>
      rw [List.map_cons, List.map_cons]
      refine .cons ?_ ih
      rw [Int.mul_one]
      exact .int _
  exact h _
def evRgA (f : Ev (List D)) : Ev (Int × Int) := fun env s => (f env s).bind fun p => match p.1 with
  | [.int j] => if inR j && fitB j.toNat then .ok ((0, j), p.2) else .stuck
  | [.int i, .int j] => if inR i && inR j && fitB (j - i).toNat then .ok ((i, j), p.2) else .stuck
  | _ => .stuck
/-- a range object's ends -/
def DRg (X : Cx) (E : XK) (C : Addr) (e : Expr) (f : Ev (Int × Int)) : Prop := ∃ t, PRg X e t ∧ ∀ (ad : Nat → Addr) (da : Option Addr) (Hc H : Hp) (σ : St) (env : En) (s : Dr) (Q : Int → Int → Hp → Prop), ER X.K ad da Hc H σ env s →
  PostX X E C ad da Hc H σ env (fun _ _ (b c : Int × Int) => b = c ∧ RgOk b.1 b.2) (fun b H => Q b.1 b.2 H) (f env s) → t σ H Q
theorem rgOk_of {i j : Int} (h1 : inR i = true) (h2 : inR j = true) (h3 : fitB (j - i).toNat = true) : RgOk i j := by
  obtain ⟨a1, a2⟩ := inR_ok h1
  obtain ⟨b1, b2⟩ := inR_ok h2
  have := Nat.le_of_ble_eq_true h3
  exact ⟨a1, a2, b1, b2, by omega⟩
theorem drg_1 {p : Pos} {fa : Ev D} (hg : Gl X "range") (hm : X.mg "range" = none) (ha : DE X E C a fa) (na : starEach [a] X.env = (false, eval a X.env) :: starEach [] X.env) : DRg X E C (.Call (.Name "range" p) [a] [] pos) (evRgA (evCons fa (fun _ s => .ok ([], s)))) := by
  obtain ⟨t, pa, r⟩ := ha
  refine ⟨_, prg_1 hg hm pa na, fun ad da Hc H σ env s Q er q => ?_⟩
  have q' : PostX X E C ad da Hc H σ env (fun _ _ (b c : Int × Int) => b = c ∧ RgOk b.1 b.2) (fun b H => Q b.1 b.2 H) ((fa env s).bind fun p => match p.1 with
      | .int j => if inR j && fitB j.toNat then .ok ((0, j), p.2) else .stuck
      | _ => .stuck) := by
    have q2 := q
    unfold evRgA evCons at q2
    simp only [R.bind_assoc, R.bind_ok] at q2
    refine cast ?_ q2
    congr 2
    funext p
    rcases p with ⟨d, s⟩
    cases d <;> rfl
  refine r ad da Hc H σ env s _ er (Post.bind q' fun d s1 _ v Hc1 H1 n1 e1 p1 q1 => ?_)
  dsimp only at q1
  split at q1
  · cases p1
    split at q1
    · rename_i hb
      obtain ⟨hb, hf⟩ := Bool.and_eq_true_iff.mp hb
      exact ⟨_, rfl, q1 (0, _) Hc1 H1 Nx.refl e1 ⟨rfl, rgOk_of rfl hb (by rw [Int.sub_zero]; exact hf)⟩⟩
    · exact q1.elim
  · exact q1.elim
theorem drg_2 {p : Pos} {fa fb : Ev D} (hpl : (backTo pos (starEach [b] X.env)).any (·.1) = false) (hg : Gl X "range") (hm : X.mg "range" = none) (ha : DE X E C a fa) (hb : DE X E C b fb) (na : starEach [a, b] X.env = (false, eval a X.env) :: starEach [b] X.env) (nb : starEach [b] X.env = (false, eval b X.env) :: starEach [] X.env) : DRg X E C (.Call (.Name "range" p) [a, b] [] pos) (evRgA (evCons fa (evCons fb (fun _ s => .ok ([], s))))) := by
  obtain ⟨t, pa, r⟩ := ha
  obtain ⟨t2, pb, r2⟩ := hb
  refine ⟨_, prg_2 hg hm pa pb na nb hpl, fun ad da Hc H σ env s Q er q => ?_⟩
  have q' : PostX X E C ad da Hc H σ env (fun _ _ (b c : Int × Int) => b = c ∧ RgOk b.1 b.2) (fun b H => Q b.1 b.2 H) ((fa env s).bind fun p => (fb env p.2).bind fun u => match p.1, u.1 with
      | .int i, .int j => if inR i && inR j && fitB (j - i).toNat then .ok ((i, j), u.2) else .stuck
      | _, _ => .stuck) := by
    have q2 := q
    unfold evRgA evCons at q2
    simp only [R.bind_assoc, R.bind_ok] at q2
    refine cast ?_ q2
    congr 2
    funext p
    congr 1
    funext u
    rcases p with ⟨d, s⟩
    rcases u with ⟨d2, s2⟩
    cases d <;> cases d2 <;> rfl
  refine r ad da Hc H σ env s _ er (Post.bind q' fun d s1 _ v Hc1 H1 n1 e1 p1 q1 => ?_)
  refine r2 ad da Hc1 H1 σ env s1 _ e1 (Post.bind q1 fun d2 s2 _ v2 Hc2 H2 n2 e2 p2 q2 => ?_)
  dsimp only at q2
  split at q2
  · cases p1
    cases p2
    split at q2
    · rename_i hb
      obtain ⟨hb, hf⟩ := Bool.and_eq_true_iff.mp hb
      obtain ⟨hb1, hb2⟩ := Bool.and_eq_true_iff.mp hb
      exact ⟨_, _, rfl, rfl, q2 (_, _) Hc2 H2 Nx.refl e2 ⟨rfl, rgOk_of hb1 hb2 hf⟩⟩
    · exact q2.elim
  · exact q2.elim
def evRgL (f : Ev (Int × Int)) : Ev D := fun env s => (f env s).bind fun p => .ok (.list (rngD p.1.1 (p.1.2 - p.1.1).toNat 1), p.2)
def evRgT (f : Ev (Int × Int)) : Ev D := fun env s => (f env s).bind fun p => .ok (.tuple (rngD p.1.1 (p.1.2 - p.1.1).toNat 1), p.2)
theorem df_listRg {p : Pos} {f : Ev (Int × Int)} (hc : X.calm = true) (hg : Gl X "list") (hm : X.mg "list" = none) (he : DRg X E C e f) (na : starEach [e] X.env = (false, eval e X.env) :: starEach [] X.env) : DF X E C (.Call (.Name "list" p) [e] [] pos) (evRgL f) := by
  obtain ⟨t, pe, r⟩ := he
  refine ⟨_, pe_listRg hc hg hm pe na, fun ad da Hc H σ env s Q er q => r ad da Hc H σ env s _ er (Post.bind q fun d s1 _ v Hc1 H1 n1 e1 p1 q1 => ?_)⟩
  obtain ⟨rfl, hr⟩ := p1
  refine ⟨hr, fun p hp => q1 _ Hc1 _ (Nx.lay hp) (e1.lay hp) ⟨p, _, _, rfl, rfl, ?_, upd_same, e1.sub.none hp, rgV_dv _ _⟩⟩
  intro o z t
  obtain ⟨o2, z2, _⟩ := n1.there p o z t
  rw [hp] at z2
  cases z2
theorem de_tupRg {p : Pos} {f : Ev (Int × Int)} (hc : X.calm = true) (hg : Gl X "tuple") (hm : X.mg "tuple" = none) (he : DRg X E C e f) (na : starEach [e] X.env = (false, eval e X.env) :: starEach [] X.env) : DE X E C (.Call (.Name "tuple" p) [e] [] pos) (evRgT f) := by
  obtain ⟨t, pe, r⟩ := he
  refine ⟨_, pe_tupRg hc hg hm pe na, fun ad da Hc H σ env s Q er q => r ad da Hc H σ env s _ er (Post.bind q fun d s1 _ v Hc1 H1 n1 e1 p1 q1 => ?_)⟩
  obtain ⟨rfl, hr⟩ := p1
  exact ⟨hr, fun p hp => q1 _ _ _ (Al.new e1.sub hp).nx (e1.new hp) (.tup (SqT.of upd_same) (rgV_dv _ _))⟩
theorem df_lc {elt tg iter : Expr} {ifs : List Expr} {scope : Scope} {own : List (Str × Nat)} {vs : List Nat} {fi : Ev (List D)} {t : Tg} {ft : Ev Bool} {fe : Ev D} (hc : X.calm = true) (hN : X.N.Nodup) (hi : DI X E C tg iter vs fi) (ok : BlkOk X.N X.env.scope scope own)
    (hg : ∀ (s : Shared) (H : Hp) (C' : Addr) (cl : List (Str × Addr)) (fp : List Addr), DG (X.blk s H scope (compEnvC scope cl C' X.env) fp) tg t)
    (ht : ∀ (s : Shared) (H : Hp) (C' : Addr) (cl : List (Str × Addr)) (fp : List Addr), DTs (X.blk s H scope (compEnvC scope cl C' X.env) fp) EF C ifs ft)
    (he : ∀ (s : Shared) (H : Hp) (C' : Addr) (cl : List (Str × Addr)) (fp : List Addr), DE (X.blk s H scope (compEnvC scope cl C' X.env) fp) EF C elt fe)
    (hs : ∀ x, foldedSetIterable iter X.env x = pure x) (hsl : ∀ i ∈ t.slots, i ∈ own.map (·.2)) : DF X E C (.ListComp elt [⟨tg, iter, ifs, 0⟩] scope pos) (evLc fi t (own.map (·.2)) ft fe) := by
  obtain ⟨wi, pi, ri⟩ := hi
  exact ⟨_, pe_lc (g := canG X.K t) (tt := can X.K EF C PB ft) (te := can X.K EF C (PV X.K) fe) hc hN pi ok (fun s H C' cl fp => (hg s H C' cl fp).can) (fun s H C' cl fp => (ht s H C' cl fp).can) (fun s H C' cl fp => (he s H C' cl fp).can) hs, lc_readF ri hsl⟩
end
end L2.DL

set_option Elab.async false
set_option linter.all false
set_option maxRecDepth 100000
set_option maxHeartbeats 2000000
/-! D layer 11: statements. -/
namespace L2.DL
open PySem PySem.Spec PyProof.Rows
variable [TabL]

abbrev Kn := En → Dr → R (D × Dr)
/-- a body's entry -/
structure Ent where
  da : Option Addr
  Hc0 : Hp
  H0 : Hp
  fl : Hp
/-- a locked slot: its address, its items -/
structure Lk1 where
  i : Nat
  a : Addr
  xs : List D
  vs : List V
abbrev Lks := List Lk1
structure SRx (K : PySem.W.Frag) (en : Ent) (Lk : Lks) (ad : Nat → Addr) (Hc : Hp) (env : En) (s : Dr) (σ : St) (H : Hp) : Prop where
  er : ER K ad en.da Hc H σ env s
  nx : Nx en.da en.Hc0 en.H0 Hc H
  own0 : ∀ i x, env[i]? = some x → own x = true → NL en.H0 (ad i)
  pins : ∀ p ∈ Lk, ad p.i = p.a ∧ env[p.i]? = some (.lst true p.xs) ∧ H p.a = some (.lst p.vs)
  fl : Sub en.fl Hc
def SR (K : PySem.W.Frag) (en : Ent) (Lk : Lks) (env : En) (s : Dr) (σ : St) (H : Hp) : Prop := ∃ ad Hc, SRx K en Lk ad Hc env s σ H
theorem SRx.ev {K : PySem.W.Frag} {en : Ent} {Lk : Lks} {ad : Nat → Addr} {Hc H Hc1 H1 : Hp} {env : En} {s s1 : Dr} {σ : St} (x : SRx K en Lk ad Hc env s σ H) (n : Nx en.da Hc H Hc1 H1) (e : ER K ad en.da Hc1 H1 σ env s1) : SRx K en Lk ad Hc1 env s1 σ H1 :=
  ⟨e, x.nx.trans n, x.own0, fun p hp => by
    obtain ⟨h1, h2, h3⟩ := x.pins p hp
    exact ⟨h1, h2, n.keep _ _ h3 (fun z => x.er.lstNe p.i _ h2 rfl (by rw [h1]; exact z.symm)) nT_lst⟩, x.fl.trans n.sub⟩
structure Good (X : Cx) (E : XK) (C : Addr) (en : Ent) (Lk : Lks) (k kb kc : Kn) (r : R (D × Dr)) (D : Ends) : Prop where
  nx : ∀ env s σ H, SR X.K en Lk env s σ H → k env s = r → D.nx σ H
  bk : ∀ env s σ H, SR X.K en Lk env s σ H → kb env s = r → D.bk σ H
  ct : ∀ env s σ H, SR X.K en Lk env s σ H → kc env s = r → D.ct σ H
  rt : ∀ d s v Hc H, r = .ok (d, s) → Nx en.da en.Hc0 en.H0 Hc H → Sub Hc H → (∀ a, en.da = some a → DrAt X.K Hc H a s ∧ Hc a = none) → Dv X.K Hc v d → D.rt v H
  er : ∀ c, r = .err c → ∀ dx H', Nx en.da en.Hc0 en.H0 en.Hc0 H' → H' dx = some (.xd [(("code" : Str), .str c)]) → E (.ref C) (some dx) H'
  ns : r ≠ .stuck
abbrev Sf := Kn → Kn → Kn → Kn
def DSt (X : Cx) (E : XK) (C : Addr) (t : TS) (f : Sf) : Prop := ∀ (en : Ent) (Lk : Lks) (k kb kc : Kn) (r : R (DL.D × Dr)) (D : Ends) (σ : St) (H : Hp) (env : En) (s : Dr), SR X.K en Lk env s σ H → f k kb kc env s = r → Good X E C en Lk k kb kc r D → t D σ H
def DS (X : Cx) (E : XK) (C : Addr) (st : Stmt) (f : Sf) : Prop := ∃ t : TS, PS X st t ∧ DSt X E C t f
def DSs (X : Cx) (E : XK) (C : Addr) (st : List Stmt) (f : Sf) : Prop := ∃ t : TS, PSs X st t ∧ DSt X E C t f

section
variable {X : Cx} {E : XK} {C : Addr} {e a b c : Expr} {es : List Expr} {pos : Pos} {st : Stmt} {rest : List Stmt}
/-- an expression within a statement -/
theorem Good.ev {α β : Type} {P : (Nat → Addr) → En → Hp → Hp → Hp → β → α → Prop} {t : St → Hp → (β → Hp → Prop) → Prop} {fe : Ev α} {g : α × Dr → R (D × Dr)} {en : Ent} {Lk : Lks} {k kb kc : Kn} {r : R (DL.D × Dr)} {D : Ends} {ad : Nat → Addr} {Hc H : Hp} {σ : St} {env : En} {s : Dr} {Q : β → Hp → Prop}
    (hr : Reads1 X E C (T := Unit) t P fe) (G : Good X E C en Lk k kb kc r D) (x : SRx X.K en Lk ad Hc env s σ H) (e : (fe env s).bind g = r)
    (kk : ∀ d s1 v Hc1 H1, SRx X.K en Lk ad Hc1 env s1 σ H1 → Nx en.da Hc H Hc1 H1 → P ad env H Hc1 H1 v d → g (d, s1) = r → Q v H1) : t σ H Q := by
  refine hr ad en.da Hc H σ env s Q x.er ?_
  cases hf : fe env s with
  | ok p =>
    rw [hf] at e
    exact fun v Hc1 H1 n1 e1 p1 => kk p.1 p.2 v Hc1 H1 (x.ev n1 e1) n1 p1 e
  | err c =>
    rw [hf] at e
    exact fun dx H' n hx => G.er c e.symm dx H' (x.nx.trans n).weak hx
  | stuck =>
    rw [hf] at e
    exact (G.ns e.symm).elim

/-! ### targets keep what is owned -/
theorem setE_old {i j : Nat} {y : Sl} {d : D} {env env' : En} (h : setE i (.val d) env = some env') (hj : env'[j]? = some y) (ho : own y = true) : env[j]? = some y := by
  have h' : env' = env.set i (.val d) ∧ i < env.length := by
    unfold setE at h
    cases hx : env[i]? with
    | none => rw [hx] at h; cases h
    | some x =>
      have hi : i < env.length := (List.getElem?_eq_some_iff.mp hx).1
      rw [hx] at h
      cases x with
      | lst lk xs => cases lk <;> simp at h; exact ⟨h.symm, hi⟩
      | no => simp at h; exact ⟨h.symm, hi⟩
      | val _ => simp at h; exact ⟨h.symm, hi⟩
      | drw => simp at h; exact ⟨h.symm, hi⟩
      | scr _ => simp at h; exact ⟨h.symm, hi⟩
  obtain ⟨rfl, hi⟩ := h'
  by_cases hji : j = i
  · subst hji
    rw [List.getElem?_set_self hi] at hj
    cases hj; cases ho
  · rwa [List.getElem?_set_ne (Ne.symm hji)] at hj
theorem setE_lk {i j : Nat} {xs : List D} {x : Sl} {env env' : En} (h : setE i x env = some env') (hj : env[j]? = some (.lst true xs)) : env'[j]? = some (.lst true xs) := by
  unfold setE at h
  cases hx : env[i]? with
  | none => rw [hx] at h; cases h
  | some y =>
    rw [hx] at h
    have hne : y ≠ .lst true xs → i ≠ j := fun hy z => by subst z; rw [hj] at hx; cases hx; exact hy rfl
    cases y with
    | lst lk ys =>
      cases lk with
      | true => cases h
      | false => simp at h; rw [← h, List.getElem?_set_ne (hne (fun z => by cases z))]; exact hj
    | no => simp at h; rw [← h, List.getElem?_set_ne (hne (fun z => by cases z))]; exact hj
    | val _ => simp at h; rw [← h, List.getElem?_set_ne (hne (fun z => by cases z))]; exact hj
    | drw => simp at h; rw [← h, List.getElem?_set_ne (hne (fun z => by cases z))]; exact hj
    | scr _ => simp at h; rw [← h, List.getElem?_set_ne (hne (fun z => by cases z))]; exact hj
mutual
theorem bindT_old : ∀ {t : Tg} {d : D} {env env' : En} {j : Nat} {y : Sl}, bindT t d env = some env' → env'[j]? = some y → own y = true → env[j]? = some y
  | .nm i, d, env, env', j, y, h, hj, ho => setE_old (by rw [bindT] at h; exact h) hj ho
  | .tup ts, .tuple ds, env, env', j, y, h, hj, ho => bindTs_old (by rw [bindT] at h; exact h) hj ho
  | .tup _, .none, _, _, _, _, h, _, _ => by simp [bindT] at h
  | .tup _, .bool _, _, _, _, _, h, _, _ => by simp [bindT] at h
  | .tup _, .int _, _, _, _, _, h, _, _ => by simp [bindT] at h
  | .tup _, .str _, _, _, _, _, h, _, _ => by simp [bindT] at h
  | .tup _, .list _, _, _, _, _, h, _, _ => by simp [bindT] at h
  | .tup _, .dict _, _, _, _, _, h, _, _ => by simp [bindT] at h
  | .tnil, _, _, _, _, _, h, _, _ => by simp [bindT] at h
  | .tcons _ _, _, _, _, _, _, h, _, _ => by simp [bindT] at h
theorem bindTs_old : ∀ {t : Tg} {ds : List D} {env env' : En} {j : Nat} {y : Sl}, bindTs t ds env = some env' → env'[j]? = some y → own y = true → env[j]? = some y
  | .tnil, [], env, env', j, y, h, hj, ho => by rw [bindTs] at h; cases h; exact hj
  | .tcons a r, d :: ds, env, env', j, y, h, hj, ho => by
    rw [bindTs] at h
    cases hb : bindT a d env with
    | none => rw [hb] at h; cases h
    | some env1 => rw [hb] at h; exact bindT_old hb (bindTs_old h hj ho) ho
  | .nm _, _, _, _, _, _, h, _, _ => by simp [bindTs] at h
  | .tup _, _, _, _, _, _, h, _, _ => by simp [bindTs] at h
  | .tnil, _ :: _, _, _, _, _, h, _, _ => by simp [bindTs] at h
  | .tcons _ _, [], _, _, _, _, h, _, _ => by simp [bindTs] at h
end
mutual
theorem bindT_lk : ∀ {t : Tg} {d : D} {env env' : En} {j : Nat} {xs : List D}, bindT t d env = some env' → env[j]? = some (.lst true xs) → env'[j]? = some (.lst true xs)
  | .nm i, d, env, env', j, y, h, hj => setE_lk (by rw [bindT] at h; exact h) hj
  | .tup ts, .tuple ds, env, env', j, y, h, hj => bindTs_lk (by rw [bindT] at h; exact h) hj
  | .tup _, .none, _, _, _, _, h, _ => by simp [bindT] at h
  | .tup _, .bool _, _, _, _, _, h, _ => by simp [bindT] at h
  | .tup _, .int _, _, _, _, _, h, _ => by simp [bindT] at h
  | .tup _, .str _, _, _, _, _, h, _ => by simp [bindT] at h
  | .tup _, .list _, _, _, _, _, h, _ => by simp [bindT] at h
  | .tup _, .dict _, _, _, _, _, h, _ => by simp [bindT] at h
  | .tnil, _, _, _, _, _, h, _ => by simp [bindT] at h
  | .tcons _ _, _, _, _, _, _, h, _ => by simp [bindT] at h
theorem bindTs_lk : ∀ {t : Tg} {ds : List D} {env env' : En} {j : Nat} {xs : List D}, bindTs t ds env = some env' → env[j]? = some (.lst true xs) → env'[j]? = some (.lst true xs)
  | .tnil, [], env, env', j, y, h, hj => by rw [bindTs] at h; cases h; exact hj
  | .tcons a r, d :: ds, env, env', j, y, h, hj => by
    rw [bindTs] at h
    cases hb : bindT a d env with
    | none => rw [hb] at h; cases h
    | some env1 => rw [hb] at h; exact bindTs_lk h (bindT_lk hb hj)
  | .nm _, _, _, _, _, _, h, _ => by simp [bindTs] at h
  | .tup _, _, _, _, _, _, h, _ => by simp [bindTs] at h
  | .tnil, _ :: _, _, _, _, _, h, _ => by simp [bindTs] at h
  | .tcons _ _, [], _, _, _, _, h, _ => by simp [bindTs] at h
end
/-- a target has taken its value -/
theorem SRx.bound {K : PySem.W.Frag} {en : Ent} {Lk : Lks} {ad : Nat → Addr} {Hc H : Hp} {σ σ' : St} {env env' : En} {s : Dr} {t : Tg} {d : D} (x : SRx K en Lk ad Hc env s σ H) (e' : ER K ad en.da Hc H σ' env' s) (hb : bindT t d env = some env') : SRx K en Lk ad Hc env' s σ' H :=
  ⟨e', x.nx, fun i y hx ho => x.own0 i y (bindT_old hb hx ho) ho, fun p hp => ⟨(x.pins p hp).1, bindT_lk hb (x.pins p hp).2.1, (x.pins p hp).2.2⟩, x.fl⟩

/-! ### assignments -/
def sAsg (t : Tg) (fe : Ev D) : Sf := fun k _ _ env s => (fe env s).bind fun p => (R.ofO (bindT t p.1 env)).bind fun env' => k env' p.2
theorem asg_read {te : TE} {g : TG} {t : Tg} {fe : Ev D} (re : RE X E C te fe) (rg : ∀ (ad : Nat → Addr) (da : Option Addr) (Hc H : Hp) (σ : St) (env env' : En) (s : Dr) (v : V) (d : D) (Q : St → Hp → Prop), ER X.K ad da Hc H σ env s → Dv X.K Hc v d → bindT t d env = some env' →
    (∀ σ', ER X.K ad da Hc H σ' env' s → (∀ vs, (∀ i ∈ t.slots, i ∈ vs) → wipe σ' vs = wipe σ vs) → Q σ' H) → g v σ H Q) : DSt X E C (tAsg te g) (sAsg t fe) := by
  intro en Lk k kb kc r D σ H env s sr e G
  obtain ⟨ad, Hc, x⟩ := sr
  refine G.ev re x e fun d s1 v Hc1 H1 x1 n1 p1 h => ?_
  cases hb : bindT t d env with
  | none => simp only [hb] at h; exact (G.ns h.symm).elim
  | some env' =>
    simp only [hb] at h
    exact rg ad en.da Hc1 H1 σ env env' s1 v d _ x1.er p1 hb fun σ' e' _ => G.nx env' s1 σ' H1 ⟨_, _, x1.bound e' hb⟩ h
theorem ds_asg {tg : Expr} {t : Tg} {fe : Ev D} (he : DE X E C e fe) (hg : DG X tg t) (hs : swapsWithSole [tg] e pos.line X.env = pure false) (hw : swappedStores [tg] e X.env = pure none) (h1 : (assignEach [tg] X.env).map (·.2) = [assign tg X.env]) : DS X E C (.Assign [tg] e pos) (sAsg t fe) := by
  obtain ⟨te, pe, re⟩ := he
  obtain ⟨g, pg, rg⟩ := hg
  exact ⟨_, ps_asg pe pg hs hw h1, asg_read re rg⟩
/-- y = [..] on one line -/
theorem ds_asgLc {i : Nat} {y : Str} {py : Pos} {elt tg iter : Expr} {ifs : List Expr} {scope : Scope} {own : List (Str × Nat)} {spos : Pos} {vs : List Nat} {fi : Ev (List D)} {t : Tg} {ft : Ev Bool} {fe : Ev D} (hc : X.calm = true) (hN : X.N.Nodup) (hy : X.N[i]? = some y) (hyl : X.env.scope.names.lookup y = some .local)
    (hsw : swapsWith (.ListComp elt [⟨tg, iter, ifs, 0⟩] scope pos) (some (.Name y py)) spos.line X.env = pure true) (hi : DI X E C tg iter vs fi) (ok : BlkOk X.N X.env.scope scope own)
    (hg : ∀ (s : Shared) (H : Hp) (C' : Addr) (cl : List (Str × Addr)) (fp : List Addr), DG (X.blk s H scope (compEnvC scope cl C' X.env) fp) tg t)
    (ht : ∀ (s : Shared) (H : Hp) (C' : Addr) (cl : List (Str × Addr)) (fp : List Addr), DTs (X.blk s H scope (compEnvC scope cl C' X.env) fp) EF C ifs ft)
    (he : ∀ (s : Shared) (H : Hp) (C' : Addr) (cl : List (Str × Addr)) (fp : List Addr), DE (X.blk s H scope (compEnvC scope cl C' X.env) fp) EF C elt fe)
    (hs : ∀ x, foldedSetIterable iter X.env x = pure x) (hsl : ∀ i ∈ t.slots, i ∈ own.map (·.2)) : DS X E C (.Assign [.Name y py] (.ListComp elt [⟨tg, iter, ifs, 0⟩] scope pos) spos) (sAsg (.nm i) (evLc fi t (own.map (·.2)) ft fe)) := by
  obtain ⟨wi, pi, ri⟩ := hi
  refine ⟨_, ps_setLc (g := canG X.K t) (tt := can X.K EF C PB ft) (te := can X.K EF C (PV X.K) fe) hc hN hy hyl hsw pi ok (fun s H C' cl fp => (hg s H C' cl fp).can) (fun s H C' cl fp => (ht s H C' cl fp).can) (fun s H C' cl fp => (he s H C' cl fp).can) hs, ?_⟩
  obtain ⟨g, pg, rg⟩ := dg_name (X := X) (pos := py) hN hy (.inl hyl) (.inr hyl)
  refine asg_read (lc_read ri hsl) fun ad da Hc H σ env env' s v d Q er hd hb q => ?_
  exact q _ (er.put hd (by rw [bindT] at hb; exact hb)) fun vs hv => wipe_set (hv i (by simp [Tg.slots]))

/-! a list of one's own -/
def sAsgO (i : Nat) (fe : Ev D) : Sf := fun k _ _ env s => (fe env s).bind fun p => match p.1 with
  | .list xs => (R.ofO (setE i (.lst false xs) env)).bind fun env' => k env' p.2
  | _ => .stuck
theorem setE_eq {i : Nat} {x : Sl} {env env' : En} (h : setE i x env = some env') : env' = env.set i x ∧ i < env.length ∧ ∀ xs, env[i]? ≠ some (.lst true xs) := by
  unfold setE at h
  cases hx : env[i]? with
  | none => rw [hx] at h; cases h
  | some y =>
    have hi : i < env.length := (List.getElem?_eq_some_iff.mp hx).1
    rw [hx] at h
    cases y with
    | lst lk xs =>
      cases lk with
      | true => cases h
      | false => simp at h; exact ⟨h.symm, hi, fun xs z => by cases z⟩
    | no => simp at h; exact ⟨h.symm, hi, fun xs z => by cases z⟩
    | val _ => simp at h; exact ⟨h.symm, hi, fun xs z => by cases z⟩
    | drw => simp at h; exact ⟨h.symm, hi, fun xs z => by cases z⟩
    | scr _ => simp at h; exact ⟨h.symm, hi, fun xs z => by cases z⟩
/-- a slot takes a list of its own -/
theorem ER.putO {K : PySem.W.Frag} {ad : Nat → Addr} {da : Option Addr} {Hc H : Hp} {σ : St} {env : En} {s : Dr} {i : Nat} {a : Addr} {vs : List V} {xs : List D} {lk : Bool} (e : ER K ad da Hc H σ env s) (hi : i < env.length) (h2 : H a = some (.lst vs)) (h3 : Hc a = none) (h4 : DvAll K Hc vs xs)
    (hn : ∀ j x, env[j]? = some x → own x = true → j ≠ i → ad j ≠ a) (hd : da ≠ some a) : ER K (fun j => if j = i then a else ad j) da Hc H (σ.set i (some (.ref a))) (env.set i (.lst lk xs)) s := by
  have old : ∀ j x, (env.set i (.lst lk xs))[j]? = some x → j ≠ i → env[j]? = some x := fun j x hj hne => by rwa [List.getElem?_set_ne (Ne.symm hne)] at hj
  have new : ∀ x, (env.set i (.lst lk xs))[i]? = some x → x = .lst lk xs := fun x hj => by rw [List.getElem?_set_self hi] at hj; exact (Option.some.inj hj).symm
  refine ⟨e.sub, by rw [List.length_set, List.length_set]; exact e.len, fun j x hj => ?_, fun j k x y hj hk ox oy ha => ?_, fun j hj => ?_, e.drA, fun j x hj ho => ?_, e.tabs, e.noT⟩
  · by_cases hji : j = i
    · subst hji
      rw [new x hj]
      simp only [if_pos]
      exact ⟨vs, List.getElem?_set_self (by rw [e.len]; exact hi), h2, h4, h3⟩
    · simp only [if_neg hji]
      rw [List.getElem?_set_ne (Ne.symm hji)]
      exact e.slot j x (old j x hj hji)
  · by_cases hji : j = i
    · by_cases hki : k = i
      · rw [hji, hki]
      · subst hji
        simp only [if_pos, if_neg hki] at ha
        exact absurd ha.symm (hn k y (old k y hk hki) oy hki)
    · by_cases hki : k = i
      · subst hki
        simp only [if_pos, if_neg hji] at ha
        exact absurd ha (hn j x (old j x hj hji) ox hji)
      · simp only [if_neg hji, if_neg hki] at ha
        exact e.apart j k x y (old j x hj hji) (old k y hk hki) ox oy ha
  · have hji : j ≠ i := fun z => by subst z; have := new _ hj; cases this
    simp only [if_neg hji]
    exact e.drs j (old j _ hj hji)
  · by_cases hji : j = i
    · simp only [if_pos hji]; exact hd
    · simp only [if_neg hji]; exact e.lstNe j x (old j x hj hji) ho
theorem asgO_read {te : TE} {i : Nat} {fe : Ev D} (re : Reads1 X E C (T := Unit) te (fun _ _ Hst Hc H v d => PF X.K Hst Hc H v d) fe) : DSt X E C (tAsg te (gName i)) (sAsgO i fe) := by
  intro en Lk k kb kc r D σ H env s sr e G
  obtain ⟨ad, Hc, x⟩ := sr
  have er := x.er
  have n0 := x.nx
  refine G.ev re x e fun d s1 v Hc1 H1 x1 n2 p1 h => ?_
  obtain ⟨a, vs, xs, rfl, rfl, h1, h2, h3, h4⟩ := p1
  cases hb : setE i (.lst false xs) env with
  | none => simp only [hb] at h; exact (G.ns h.symm).elim
  | some env' =>
    simp only [hb] at h
    obtain ⟨rfl, hi, hnl⟩ := setE_eq hb
    have hn : ∀ j x, env[j]? = some x → own x = true → j ≠ i → ad j ≠ a := fun j x hj ho _ z => by
      obtain ⟨o, h5, _⟩ := er.there hj ho
      rw [z] at h5
      exact h1 _ h5 nT_lst
    have hd : en.da ≠ some a := fun z => by
      obtain ⟨⟨b, h5, _⟩, _⟩ := er.drA a z
      exact h1 _ h5 nT_lst
    have h0 : NL en.H0 a := fun o z t => by
      obtain ⟨o2, z2, t2⟩ := n0.there a o z t
      exact h1 _ z2 t2
    refine G.nx _ s1 _ H1 ⟨_, Hc1, ⟨x1.er.putO hi h2 h3 h4 hn hd, x1.nx, fun j y hj ho => ?_, fun p hp => ?_, x1.fl⟩⟩ h
    · by_cases hji : j = i
      · simp only [if_pos hji]; exact h0
      · simp only [if_neg hji]
        rw [List.getElem?_set_ne (Ne.symm hji)] at hj
        exact x.own0 j y hj ho
    · obtain ⟨h5, h6, h7⟩ := x1.pins p hp
      have hne : p.i ≠ i := fun z => hnl p.xs (by rw [← z]; exact h6)
      exact ⟨by simp only [if_neg hne]; exact h5, by rw [List.getElem?_set_ne (Ne.symm hne)]; exact h6, h7⟩
theorem ds_asgO {i : Nat} {y : Str} {py : Pos} {fe : Ev D} (hN : X.N.Nodup) (hy : X.N[i]? = some y) (hx : Loc X.env.scope y) (hf : X.fn y = true ∨ X.env.scope.names.lookup y = some .local) (he : DF X E C e fe) (hs : swapsWithSole [.Name y py] e pos.line X.env = pure false) (hw : swappedStores [.Name y py] e X.env = pure none)
    (h1 : (assignEach [.Name y py] X.env).map (·.2) = [assign (.Name y py) X.env]) : DS X E C (.Assign [.Name y py] e pos) (sAsgO i fe) := by
  obtain ⟨te, pe, re⟩ := he
  exact ⟨_, ps_asg pe (pg_name hN hy hx hf) hs hw h1, asgO_read re⟩
theorem ds_asgOLc {i : Nat} {y : Str} {py : Pos} {elt tg iter : Expr} {ifs : List Expr} {scope : Scope} {own : List (Str × Nat)} {spos : Pos} {vs : List Nat} {fi : Ev (List D)} {t : Tg} {ft : Ev Bool} {fe : Ev D} (hc : X.calm = true) (hN : X.N.Nodup) (hy : X.N[i]? = some y) (hyl : X.env.scope.names.lookup y = some .local)
    (hsw : swapsWith (.ListComp elt [⟨tg, iter, ifs, 0⟩] scope pos) (some (.Name y py)) spos.line X.env = pure true) (hi : DI X E C tg iter vs fi) (ok : BlkOk X.N X.env.scope scope own)
    (hg : ∀ (s : Shared) (H : Hp) (C' : Addr) (cl : List (Str × Addr)) (fp : List Addr), DG (X.blk s H scope (compEnvC scope cl C' X.env) fp) tg t)
    (ht : ∀ (s : Shared) (H : Hp) (C' : Addr) (cl : List (Str × Addr)) (fp : List Addr), DTs (X.blk s H scope (compEnvC scope cl C' X.env) fp) EF C ifs ft)
    (he : ∀ (s : Shared) (H : Hp) (C' : Addr) (cl : List (Str × Addr)) (fp : List Addr), DE (X.blk s H scope (compEnvC scope cl C' X.env) fp) EF C elt fe)
    (hs : ∀ x, foldedSetIterable iter X.env x = pure x) (hsl : ∀ i ∈ t.slots, i ∈ own.map (·.2)) : DS X E C (.Assign [.Name y py] (.ListComp elt [⟨tg, iter, ifs, 0⟩] scope pos) spos) (sAsgO i (evLc fi t (own.map (·.2)) ft fe)) := by
  obtain ⟨wi, pi, ri⟩ := hi
  exact ⟨_, ps_setLc (g := canG X.K t) (tt := can X.K EF C PB ft) (te := can X.K EF C (PV X.K) fe) hc hN hy hyl hsw pi ok (fun s H C' cl fp => (hg s H C' cl fp).can) (fun s H C' cl fp => (ht s H C' cl fp).can) (fun s H C' cl fp => (he s H C' cl fp).can) hs, asgO_read (lc_readF ri hsl)⟩
end
end L2.DL

set_option Elab.async false
set_option linter.all false
set_option maxRecDepth 100000
set_option maxHeartbeats 2000000
/-! D layer 12: more statements. -/
namespace L2.DL
open PySem PySem.Spec PyProof.Rows
variable [TabL]

section
variable {X : Cx} {E : XK} {C : Addr} {e a b c : Expr} {es : List Expr} {pos : Pos} {st : Stmt} {rest : List Stmt}
/-! ### blocks -/
def sSkip : Sf := fun k _ _ env s => k env s
def sSeq (f g : Sf) : Sf := fun k kb kc env s => f (g k kb kc) kb kc env s
theorem dss_nil : DSs X E C [] sSkip := ⟨_, pss_nil, fun en Lk k kb kc r D σ H env s sr e G => G.nx env s σ H sr e⟩
theorem DSt.seq {t u : TS} {f g : Sf} (h : DSt X E C t f) (h2 : DSt X E C u g) : DSt X E C (tSeq t u) (sSeq f g) := fun en Lk k kb kc r D σ H env s sr e G =>
  h en Lk (g k kb kc) kb kc r { D with nx := u D } σ H env s sr e ⟨fun env' s' σ' H' sr' e' => h2 en Lk k kb kc r D σ' H' env' s' sr' e' G, G.bk, G.ct, G.rt, G.er, G.ns⟩
theorem dss_cons {f g : Sf} (h : DS X E C st f) (h2 : DSs X E C rest g) : DSs X E C (st :: rest) (sSeq f g) := by
  obtain ⟨t, p, r⟩ := h
  obtain ⟨u, p2, r2⟩ := h2
  exact ⟨_, pss_cons p p2, r.seq r2⟩
theorem dss_one {f : Sf} (h : DS X E C st f) : DSs X E C [st] f := by
  obtain ⟨t, p, r⟩ := h
  exact ⟨_, pss_one p, r⟩
/-- a step of ours ahead of a block: nothing is run -/
theorem DSs.pre {f g : Sf} (h : DSs X E C rest f) (hg : ∀ t : TS, DSt X E C t f → DSt X E C t g) : DSs X E C rest g := by
  obtain ⟨t, p, r⟩ := h
  exact ⟨t, p, hg t r⟩
def sBrk : Sf := fun _ kb _ env s => kb env s
def sCnt : Sf := fun _ _ kc env s => kc env s
theorem ds_pass : DS X E C (.Pass pos) sSkip := ⟨_, ps_pass, fun en Lk k kb kc r D σ H env s sr e G => G.nx env s σ H sr e⟩
theorem ds_brk : DS X E C (.Break pos) sBrk := ⟨_, ps_break, fun en Lk k kb kc r D σ H env s sr e G => G.bk env s σ H sr e⟩
theorem ds_cnt : DS X E C (.Continue pos) sCnt := ⟨_, ps_continue, fun en Lk k kb kc r D σ H env s sr e G => G.ct env s σ H sr e⟩
def sEx (fe : Ev D) : Sf := fun k _ _ env s => (fe env s).bind fun p => k env p.2
theorem ds_ex {fe : Ev D} (he : DE X E C e fe) (hs : swapsWith e none pos.line X.env = pure false) : DS X E C (.Expr e pos) (sEx fe) := by
  obtain ⟨te, pe, re⟩ := he
  refine ⟨_, ps_expr pe hs, fun en Lk k kb kc r D σ H env s ⟨ad, Hc, x⟩ e G => ?_⟩
  exact G.ev re x e fun d s1 v Hc1 H1 x1 n1 p1 h => G.nx env s1 σ H1 ⟨_, _, x1⟩ h
theorem ds_doc {x j pos pos'} : DS X E C (.Expr (.Constant (.str x) j pos) pos') sSkip := ⟨_, ps_doc, fun en Lk k kb kc r D σ H env s sr e G => G.nx env s σ H sr e⟩

/-! ### what is owned stands from now on -/
def frz1 : Sl → Sl
  | .lst _ xs => .val (.list xs)
  | x => x
def frzE (env : En) : En := env.map frz1
theorem ER.frzAll {K : PySem.W.Frag} {ad : Nat → Addr} {da : Option Addr} {Hc H : Hp} {σ : St} {env : En} {s : Dr} (e : ER K ad da Hc H σ env s) : ∃ Hc', ER K ad da Hc' H σ (frzE env) s ∧ Sub Hc Hc' ∧ ∀ b o, Hc' b = some o → Hc b = none → ∃ i x, env[i]? = some x ∧ own x = true ∧ b = ad i := by
  have hc := wH_cl (vs := List.range env.length) e
  have hs := wH_sub (vs := List.range env.length) e
  have hh := wH_hw (Hc := Hc) (H := H) (ad := ad) (env := env) (vs := List.range env.length)
  refine ⟨wH Hc H ad env (List.range env.length), ⟨hs, by unfold frzE; rw [List.length_map]; exact e.len, fun i x hx => ?_, fun i j x y hi hj ox oy ha => ?_, fun i hi => ?_, fun a ha => ?_, fun i x hx ho => ?_, e.tabs, ?_⟩, hc, fun b o h n => ?_⟩
  · unfold frzE at hx
    rw [List.getElem?_map] at hx
    cases hy : env[i]? with
    | none => rw [hy] at hx; cases hx
    | some y =>
      rw [hy] at hx
      cases hx
      have h := e.slot i y hy
      cases y with
      | no => trivial
      | val d => obtain ⟨v, h1, h2⟩ := h; exact ⟨v, h1, hc.dv h2⟩
      | lst lk xs =>
        obtain ⟨vs, h1, h2, h3, h4⟩ := h
        refine ⟨_, h1, .lst ?_ (hc.dvAll h3)⟩
        unfold wH
        rw [if_pos ⟨i, lk, xs, List.mem_range.mpr (List.getElem?_eq_some_iff.mp hy).1, hy, rfl⟩]
        exact h2
      | drw => exact h
      | scr ns => obtain ⟨a, h1, h2⟩ := h; exact ⟨a, h1, hc.sqL h2⟩
  · exfalso
    unfold frzE at hi
    rw [List.getElem?_map] at hi
    cases hy : env[i]? with
    | none => rw [hy] at hi; cases hi
    | some z => rw [hy] at hi; cases hi; cases z <;> cases ox
  · unfold frzE at hi
    rw [List.getElem?_map] at hi
    cases hy : env[i]? with
    | none => rw [hy] at hi; cases hi
    | some z =>
      rw [hy] at hi
      cases z with
      | drw => exact e.drs i hy
      | no => cases hi
      | val _ => cases hi
      | lst _ _ => cases hi
      | scr _ => cases hi
  · obtain ⟨h1, h2⟩ := e.drA a ha
    refine ⟨h1.sub hc rfl, ?_⟩
    cases z : wH Hc H ad env (List.range env.length) a with
    | none => rfl
    | some o =>
      rcases hh a o z with q | ⟨i, lk, ys, _, hx, rfl⟩
      · rw [h2] at q; cases q
      · exact (e.lstNe i _ hx rfl ha).elim
  · exfalso
    unfold frzE at hx
    rw [List.getElem?_map] at hx
    cases hy : env[i]? with
    | none => rw [hy] at hx; cases hx
    | some z => rw [hy] at hx; cases hx; cases z <;> cases ho
  · intro b o h
    rcases hh b o h with q | ⟨i, lk, ys, _, hx, rfl⟩
    · exact e.noT b o q
    · obtain ⟨ws, _, q2, _, _⟩ := e.slot i _ hx
      have q3 := hs _ _ h
      rw [q2] at q3
      cases q3
      exact nT_lst
  · rcases hh b o h with q | ⟨i, lk, ys, _, hx, rfl⟩
    · rw [n] at q; cases q
    · exact ⟨i, _, hx, rfl, rfl⟩
def sRet (fe : Ev D) : Sf := fun _ _ _ env s => fe (frzE env) s
theorem ds_ret {fe : Ev D} (he : DE X E C e fe) : DS X E C (.Return (some e) pos) (sRet fe) := by
  obtain ⟨te, pe, re⟩ := he
  refine ⟨_, ps_ret pe, fun en Lk k kb kc r D σ H env s ⟨ad, Hc, x⟩ e G => ?_⟩
  obtain ⟨Hc', e', hs, hf⟩ := x.er.frzAll
  have n' : Nx en.da en.Hc0 en.H0 Hc' H := ⟨x.nx.sub.trans hs, fun b o h n => by
    cases q : Hc b with
    | some o' => exact x.nx.fresh b o' q n
    | none =>
      obtain ⟨i, y, hy, ho, rfl⟩ := hf b o h q
      exact x.own0 i y hy ho, x.nx.keep, x.nx.there, x.nx.tab, fun _ => e'.noT⟩
  refine re ad en.da Hc' H σ (frzE env) s _ e' ?_
  have e2 : fe (frzE env) s = r := e
  rw [e2]
  cases r with
  | ok p => exact fun v Hc1 H1 n1 e1 p1 => G.rt p.1 p.2 v Hc1 H1 rfl (n'.trans n1) e1.sub e1.drA p1
  | err c => exact fun dx H' n hx => G.er c rfl dx H' (n'.trans n).weak hx
  | stuck => exact (G.ns rfl).elim
def sRetN : Sf := fun _ _ _ _ s => .ok (.none, s)
theorem ds_retN : DS X E C (.Return none pos) sRetN := ⟨_, ps_retN, fun en Lk k kb kc r D σ H env s ⟨ad, Hc, x⟩ e G => G.rt .none s .non Hc H e.symm x.nx x.er.sub x.er.drA .non⟩
/-- one slot's list stands from now on -/
def frzI (i : Nat) (env : En) : En := match env[i]? with
  | some (.lst false xs) => env.set i (.val (.list xs))
  | _ => env
def sFrz (i : Nat) (f : Sf) : Sf := fun k kb kc env s => f k kb kc (frzI i env) s
theorem ER.frz {K : PySem.W.Frag} {ad : Nat → Addr} {da : Option Addr} {Hc H : Hp} {σ : St} {env : En} {s : Dr} {i : Nat} {xs : List D} (e : ER K ad da Hc H σ env s) (hx : env[i]? = some (.lst false xs)) :
    ∃ vs, H (ad i) = some (.lst vs) ∧ Hc (ad i) = none ∧ ER K ad da (upd Hc (ad i) (.lst vs)) H σ (env.set i (.val (.list xs))) s := by
  have hi : i < env.length := (List.getElem?_eq_some_iff.mp hx).1
  obtain ⟨vs, h1, h2, h3, h4⟩ := e.slot i _ hx
  have hsub : Sub Hc (upd Hc (ad i) (.lst vs)) := Sub.upd h4
  have old : ∀ j x, (env.set i (.val (.list xs)))[j]? = some x → j ≠ i → env[j]? = some x := fun j x hj hne => by rwa [List.getElem?_set_ne (Ne.symm hne)] at hj
  have new : ∀ x, (env.set i (.val (.list xs)))[i]? = some x → x = .val (.list xs) := fun x hj => by rw [List.getElem?_set_self hi] at hj; exact (Option.some.inj hj).symm
  refine ⟨vs, h2, h4, fun b o h => ?_, by rw [List.length_set]; exact e.len, fun j x hj => ?_, fun j k x y hj hk ox oy ha => ?_, fun j hj => ?_, fun a ha => ?_, fun j x hj ho => ?_, e.tabs, e.noT.upd nT_lst⟩
  · by_cases hb : b = ad i
    · subst hb; rw [upd_same] at h; cases h; exact h2
    · rw [upd_ne hb] at h; exact e.sub _ _ h
  · by_cases hji : j = i
    · subst hji
      rw [new x hj]
      exact ⟨_, h1, .lst upd_same (hsub.dvAll h3)⟩
    · have h := e.slot j x (old j x hj hji)
      cases x with
      | no => trivial
      | val d => obtain ⟨v, q1, q2⟩ := h; exact ⟨v, q1, hsub.dv q2⟩
      | lst lk ys =>
        obtain ⟨ws, q1, q2, q3, q4⟩ := h
        refine ⟨ws, q1, q2, hsub.dvAll q3, ?_⟩
        rw [upd_ne (fun z => hji (e.apart j i _ _ (old j _ hj hji) hx rfl rfl z))]
        exact q4
      | drw => exact h
      | scr ns => obtain ⟨a, q1, q2⟩ := h; exact ⟨a, q1, hsub.sqL q2⟩
  · have n1 : j ≠ i := fun z => by subst z; rw [new x hj] at ox; cases ox
    have n2 : k ≠ i := fun z => by subst z; rw [new y hk] at oy; cases oy
    exact e.apart j k x y (old j x hj n1) (old k y hk n2) ox oy ha
  · have n1 : j ≠ i := fun z => by subst z; have := new _ hj; cases this
    exact e.drs j (old j _ hj n1)
  · obtain ⟨q1, q2⟩ := e.drA a ha
    refine ⟨q1.sub hsub rfl, ?_⟩
    rw [upd_ne (fun z => e.lstNe i _ hx rfl (by rw [ha, z]))]
    exact q2
  · have n1 : j ≠ i := fun z => by subst z; rw [new _ hj] at ho; cases ho
    exact e.lstNe j x (old j x hj n1) ho
theorem SRx.frz {K : PySem.W.Frag} {en : Ent} {Lk : Lks} {ad : Nat → Addr} {Hc H : Hp} {σ : St} {env : En} {s : Dr} (x : SRx K en Lk ad Hc env s σ H) (i : Nat) : SR K en Lk (frzI i env) s σ H := by
  unfold frzI
  split
  · rename_i xs hx
    obtain ⟨vs, h2, h4, e'⟩ := x.er.frz hx
    have hi : i < env.length := (List.getElem?_eq_some_iff.mp hx).1
    refine ⟨ad, _, e', x.nx.freeze (x.own0 i _ hx rfl) h2 h4, fun j y hj ho => ?_, fun p hp => ?_, x.fl.trans (Sub.upd h4)⟩
    · have n1 : j ≠ i := fun z => by subst z; rw [List.getElem?_set_self hi] at hj; cases hj; cases ho
      rw [List.getElem?_set_ne (Ne.symm n1)] at hj
      exact x.own0 j y hj ho
    · obtain ⟨h5, h6, h7⟩ := x.pins p hp
      have hne : p.i ≠ i := fun z => by rw [z, hx] at h6; cases h6
      exact ⟨h5, by rw [List.getElem?_set_ne (Ne.symm hne)]; exact h6, h7⟩
  · exact ⟨ad, Hc, x⟩
theorem DSt.frz {t : TS} {f : Sf} (h : DSt X E C t f) (i : Nat) : DSt X E C t (sFrz i f) := fun en Lk k kb kc r D σ H env s ⟨ad, Hc, x⟩ e G => h en Lk k kb kc r D σ H _ s (x.frz i) e G

/-! ### if, while -/
def sIf (fc : Ev Bool) (f g : Sf) : Sf := fun k kb kc env s => (fc env s).bind fun p => if p.1 then f k kb kc env p.2 else g k kb kc env p.2
theorem ds_if {fc : Ev Bool} {f g : Sf} {sa sb : List Stmt} (hc : DT X E C c fc) (ha : DSs X E C sa f) (hb : DSs X E C sb g) : DS X E C (.If c sa sb pos) (sIf fc f g) := by
  obtain ⟨tc, pc, rc⟩ := hc
  obtain ⟨t, p, r⟩ := ha
  obtain ⟨u, p2, r2⟩ := hb
  refine ⟨_, ps_if pc p p2, fun en Lk k kb kc rr D σ H env s ⟨ad, Hc, x⟩ e G => ?_⟩
  refine G.ev rc x e fun d s1 v Hc1 H1 x1 n1 p1 h => ?_
  cases p1
  dsimp only at h
  cases d with
  | true => rw [if_pos rfl] at h ⊢; exact r en Lk k kb kc rr D σ H1 env s1 ⟨_, _, x1⟩ h G
  | false => rw [if_neg Bool.false_ne_true] at h ⊢; exact r2 en Lk k kb kc rr D σ H1 env s1 ⟨_, _, x1⟩ h G
def whileF (fc : Ev Bool) (f : Sf) (k : Kn) : Nat → Kn
  | 0, _, _ => .stuck
  | n + 1, env, s => (fc env s).bind fun p => if p.1 then f (whileF fc f k n) k (whileF fc f k n) env p.2 else k env p.2
def sWhile (n : Nat) (fc : Ev Bool) (f : Sf) : Sf := fun k _ _ env s => whileF fc f k n env s
theorem ds_while {n : Nat} {fc : Ev Bool} {f : Sf} {sb : List Stmt} (hp : PassesOwn (model X.prog X.w) X.A X.env X.xe) (hc : DT X E C c fc) (hb : DSs X E C sb f) : DS X E C (.While c sb [] pos) (sWhile n fc f) := by
  obtain ⟨tc, pc, rc⟩ := hc
  obtain ⟨t, p, r⟩ := hb
  refine ⟨_, ps_while hp pc p, fun en Lk k kb kc rr D σ H env s sr e G => ?_⟩
  refine ⟨fun m σ H => ∃ env s, SR X.K en Lk env s σ H ∧ whileF fc f k m env s = rr, ⟨n, env, s, sr, e⟩, fun m σ H w => ?_⟩
  obtain ⟨env, s, ⟨ad, Hc, x⟩, e⟩ := w
  cases m with
  | zero => exact (G.ns e.symm).elim
  | succ m =>
    rw [whileF] at e
    refine G.ev rc x e fun d s1 v Hc1 H1 x1 n1 p1 h => ?_
    cases p1
    dsimp only at h
    cases d with
    | false => rw [if_neg Bool.false_ne_true] at h ⊢; exact G.nx env s1 σ H1 ⟨_, _, x1⟩ h
    | true =>
      rw [if_pos rfl] at h ⊢
      refine ⟨fun σ' H' => ∃ env s, SR X.K en Lk env s σ' H' ∧ whileF fc f k m env s = rr, fun σ' H' w => ⟨m, Nat.lt_succ_self _, w⟩, ?_⟩
      exact r en Lk (whileF fc f k m) k (whileF fc f k m) rr _ σ H1 env s1 ⟨_, _, x1⟩ h ⟨fun env s σ H sr e => ⟨env, s, sr, e⟩, G.nx, fun env s σ H sr e => ⟨env, s, sr, e⟩, G.rt, G.er, G.ns⟩
end
end L2.DL

set_option Elab.async false
set_option linter.all false
set_option maxRecDepth 100000
set_option maxHeartbeats 2000000
/-! D layer 13: for. -/
namespace L2.DL
open PySem PySem.Spec PyProof.Rows
variable [TabL]

/-! ### a list that is walked is locked -/
def lkS (b : Bool) : Sl → Sl
  | .lst _ xs => .lst b xs
  | x => x
def lockG (b : Bool) (vs : List Nat) : Nat → En → En
  | _, [] => []
  | n, x :: xs => (if vs.contains n then lkS b x else x) :: lockG b vs (n + 1) xs
def lockE (b : Bool) (vs : List Nat) (env : En) : En := if vs.isEmpty then env else lockG b vs 0 env
def isOpen : Option Sl → Bool
  | some (.lst false _) => true
  | _ => false
def openIn (vs : List Nat) (env : En) : List Nat := vs.filter fun i => isOpen env[i]?
theorem lockG_get {b : Bool} {vs : List Nat} : ∀ (n : Nat) (env : En) (i : Nat), (lockG b vs n env)[i]? = (env[i]?).map fun x => if vs.contains (n + i) then lkS b x else x
  | n, [], i => by simp [lockG]
  | n, x :: xs, 0 => by simp [lockG]
  | n, x :: xs, i + 1 => by
    rw [lockG, List.getElem?_cons_succ, List.getElem?_cons_succ, lockG_get (n + 1) xs i]
    rw [show n + 1 + i = n + (i + 1) by omega]
theorem lockE_get {b : Bool} {vs : List Nat} {env : En} {i : Nat} : (lockE b vs env)[i]? = (env[i]?).map fun x => if vs.contains i then lkS b x else x := by
  unfold lockE
  cases vs with
  | nil => simp
  | cons v vs => rw [List.isEmpty_cons, if_neg Bool.false_ne_true, lockG_get]; simp
theorem lockG_len {b : Bool} {vs : List Nat} : ∀ (n : Nat) (env : En), (lockG b vs n env).length = env.length
  | _, [] => rfl
  | n, x :: xs => by rw [lockG, List.length_cons, List.length_cons, lockG_len]
theorem lockE_len {b : Bool} {vs : List Nat} {env : En} : (lockE b vs env).length = env.length := by
  unfold lockE; split; rfl; exact lockG_len 0 env
/-- the same but for the locks -/
def Rlk (x y : Sl) : Prop := x = y ∨ ∃ l l' xs, x = .lst l xs ∧ y = .lst l' xs
theorem Rlk.own {x y : Sl} (h : Rlk x y) : DL.own y = true → DL.own x = true := by
  rcases h with rfl | ⟨_, _, _, rfl, rfl⟩
  · exact id
  · exact fun _ => rfl
theorem rlk_lkS (b : Bool) (x : Sl) : Rlk x (lkS b x) := by
  cases x with
  | lst l xs => exact .inr ⟨_, _, _, rfl, rfl⟩
  | _ => exact .inl rfl
theorem lockE_rlk {b : Bool} {vs : List Nat} {env : En} {i : Nat} {y : Sl} (h : (lockE b vs env)[i]? = some y) : ∃ x, env[i]? = some x ∧ Rlk x y := by
  rw [lockE_get] at h
  cases hx : env[i]? with
  | none => rw [hx] at h; cases h
  | some x =>
    rw [hx] at h
    refine ⟨x, rfl, ?_⟩
    have h' := Option.some.inj h
    subst h'
    split
    · exact rlk_lkS b x
    · exact .inl rfl
theorem ER.relk {K : PySem.W.Frag} {ad : Nat → Addr} {da : Option Addr} {Hc H : Hp} {σ : St} {env : En} {s : Dr} (e : ER K ad da Hc H σ env s) (b : Bool) (vs : List Nat) : ER K ad da Hc H σ (lockE b vs env) s := by
  refine ⟨e.sub, by rw [lockE_len]; exact e.len, fun i y hy => ?_, fun i j x y hi hj ox oy ha => ?_, fun i hi => ?_, e.drA, fun i x hx ho => ?_, e.tabs, e.noT⟩
  · obtain ⟨x, hx, r⟩ := lockE_rlk hy
    have h := e.slot i x hx
    rcases r with rfl | ⟨_, _, _, rfl, rfl⟩
    · exact h
    · exact h
  · obtain ⟨x', hx', r1⟩ := lockE_rlk hi
    obtain ⟨y', hy', r2⟩ := lockE_rlk hj
    exact e.apart i j x' y' hx' hy' (r1.own ox) (r2.own oy) ha
  · obtain ⟨x', hx', r1⟩ := lockE_rlk hi
    rcases r1 with rfl | ⟨_, _, _, _, z⟩
    · exact e.drs i hx'
    · cases z
  · obtain ⟨x', hx', r1⟩ := lockE_rlk hx
    exact e.lstNe i x' hx' (r1.own ho)
theorem lockE_stay {b : Bool} {vs : List Nat} {env : En} {i : Nat} {xs : List D} {l : Bool} (h : env[i]? = some (.lst l xs)) : (lockE b vs env)[i]? = some (.lst (if vs.contains i then b else l) xs) := by
  rw [lockE_get, h]
  simp only [Option.map_some]
  split <;> rfl

/-! ### the loop -/
def forL (t : Tg) (f : Sf) (nl : List Nat) (k : Kn) : List D → Kn
  | [], env, s => k (lockE false nl env) s
  | x :: xs, env, s => (R.ofO (bindT t x env)).bind fun env' => f (forL t f nl k xs) (fun env s => k (lockE false nl env) s) (forL t f nl k xs) env' s
def sFor (vs : List Nat) (fi : Ev (List D)) (t : Tg) (f : Sf) : Sf := fun k _ _ env s => (fi env s).bind fun p => forL t f (openIn vs env) k p.1 (lockE true (openIn vs env) env) p.2

section
variable {X : Cx} {E : XK} {C : Addr} {e a b c : Expr} {es : List Expr} {pos : Pos} {st : Stmt} {rest : List Stmt}
/-- the pins of what is walked -/
theorem SRx.lock {K : PySem.W.Frag} {en : Ent} {Lk : Lks} {ad : Nat → Addr} {Hc H : Hp} {env : En} {s : Dr} {σ : St} (x : SRx K en Lk ad Hc env s σ H) (vs : List Nat) :
    ∃ Lk', SRx K { en with fl := Hc } (Lk ++ Lk') ad Hc (lockE true (openIn vs env) env) s σ H ∧ ∀ i lk ys, i ∈ vs → env[i]? = some (.lst lk ys) → ∃ p ∈ Lk', p.i = i := by
  have mk : ∀ vs : List Nat, ∃ Lk' : Lks, (∀ p ∈ Lk', p.i ∈ vs ∧ ad p.i = p.a ∧ (∃ lk, env[p.i]? = some (.lst lk p.xs)) ∧ H p.a = some (.lst p.vs)) ∧ ∀ i lk ys, i ∈ vs → env[i]? = some (.lst lk ys) → ∃ p ∈ Lk', p.i = i := by
    intro vs
    induction vs with
    | nil => exact ⟨[], (fun p hp => nomatch hp), (fun i lk ys h => nomatch h)⟩
    | cons v vs ih =>
      obtain ⟨L, h1, h2⟩ := ih
      have h1' : ∀ p ∈ L, p.i ∈ v :: vs ∧ ad p.i = p.a ∧ (∃ lk, env[p.i]? = some (.lst lk p.xs)) ∧ H p.a = some (.lst p.vs) := fun p hp => ⟨List.mem_cons_of_mem _ (h1 p hp).1, (h1 p hp).2⟩
      by_cases hv : ∃ lk ys, env[v]? = some (.lst lk ys)
      · obtain ⟨lk, ys, hx⟩ := hv
        obtain ⟨ws, q1, q2, q3, q4⟩ := x.er.slot v _ hx
        refine ⟨⟨v, ad v, ys, ws⟩ :: L, fun p hp => ?_, fun i lk' zs hi hz => ?_⟩
        · rcases List.mem_cons.mp hp with rfl | hp
          · exact ⟨List.mem_cons_self, rfl, ⟨lk, hx⟩, q2⟩
          · exact h1' p hp
        · rcases List.mem_cons.mp hi with rfl | hi
          · exact ⟨_, List.mem_cons_self, rfl⟩
          · obtain ⟨p, hp, e⟩ := h2 i lk' zs hi hz
            exact ⟨p, List.mem_cons_of_mem _ hp, e⟩
      · refine ⟨L, h1', fun i lk' zs hi hz => ?_⟩
        rcases List.mem_cons.mp hi with rfl | hi
        · exact (hv ⟨_, _, hz⟩).elim
        · exact h2 i lk' zs hi hz
  obtain ⟨L, h1, h2⟩ := mk vs
  refine ⟨L, ⟨x.er.relk true _, x.nx, fun i y hy ho => ?_, fun p hp => ?_, Sub.refl _⟩, h2⟩
  · obtain ⟨z, hz, r⟩ := lockE_rlk hy
    exact x.own0 i z hz (r.own ho)
  · rcases List.mem_append.mp hp with hp | hp
    · obtain ⟨q1, q2, q3⟩ := x.pins p hp
      refine ⟨q1, ?_, q3⟩
      rw [lockE_stay q2]
      split <;> rfl
    · obtain ⟨q0, q1, ⟨lk, q2⟩, q3⟩ := h1 p hp
      refine ⟨q1, ?_, q3⟩
      rw [lockE_stay q2]
      cases lk with
      | true => split <;> rfl
      | false =>
        rw [if_pos]
        unfold openIn
        rw [List.contains_iff_mem, List.mem_filter]
        exact ⟨q0, by rw [q2]; rfl⟩
theorem SR.unlock {K : PySem.W.Frag} {en : Ent} {Lk Lk' : Lks} {fl : Hp} {env0 env : En} {vs : List Nat} {s : Dr} {σ : St} {H : Hp} (h : SR K { en with fl := fl } (Lk ++ Lk') env s σ H) (hf : Sub en.fl fl) (hp : ∀ p ∈ Lk, env0[p.i]? = some (.lst true p.xs)) : SR K en Lk (lockE false (openIn vs env0) env) s σ H := by
  obtain ⟨ad, Hc, x⟩ := h
  refine ⟨ad, Hc, x.er.relk false _, x.nx, fun i y hy ho => ?_, fun p h => ?_, hf.trans x.fl⟩
  · obtain ⟨z, hz, r⟩ := lockE_rlk hy
    exact x.own0 i z hz (r.own ho)
  · obtain ⟨q1, q2, q3⟩ := x.pins p (List.mem_append_left _ h)
    refine ⟨q1, ?_, q3⟩
    rw [lockE_stay q2, if_neg]
    intro z
    unfold openIn at z
    rw [List.contains_iff_mem, List.mem_filter, hp p h] at z
    cases z.2
theorem ds_for {tg iter : Expr} {vs : List Nat} {fi : Ev (List D)} {t : Tg} {f : Sf} {body : List Stmt} (hp : PassesOwn (model X.prog X.w) X.A X.env X.xe) (hc : X.calm = true) (hi : DI X E C tg iter vs fi) (hg : DG X tg t) (hb : DSs X E C body f)
    (hs : ∀ x, foldedSetIterable iter X.env x = pure x) : DS X E C (.For tg iter body [] pos) (sFor vs fi t f) := by
  obtain ⟨wi, pi, ri⟩ := hi
  obtain ⟨g, pg, rg⟩ := hg
  obtain ⟨tb, pb, rb⟩ := hb
  refine ⟨_, ps_for hp hc pi pg pb hs, fun en Lk k kb kc r D σ H env s ⟨ad, Hc, x⟩ e G => ?_⟩
  refine ri ad en.da Hc H σ env s _ x.er ?_
  have e' : (fi env s).bind (fun p => forL t f (openIn vs env) k p.1 (lockE true (openIn vs env) env) p.2) = r := e
  cases hf : fi env s with
  | err c =>
    rw [hf] at e'
    exact fun dx H' n hx => G.er c e'.symm dx H' (x.nx.trans n).weak hx
  | stuck =>
    rw [hf] at e'
    exact (G.ns e'.symm).elim
  | ok p =>
    rw [hf] at e'
    obtain ⟨xs, s1⟩ := p
    intro J W Hc1 H1 n1 e1 sw hw hlen hJ
    have x1 := x.ev n1 e1
    obtain ⟨Lk', x2, hL⟩ := x1.lock vs
    have hpin : ∀ p ∈ Lk, env[p.i]? = some (.lst true p.xs) := fun p hp => (x.pins p hp).2.1
    have e2 : forL t f (openIn vs env) k xs (lockE true (openIn vs env) env) s1 = r := e'
    refine ⟨fun i m σ H => m = xs.length - i ∧ i ≤ xs.length ∧ ∃ env' s', SR X.K { en with fl := Hc1 } (Lk ++ Lk') env' s' σ H ∧ forL t f (openIn vs env) k (xs.drop i) env' s' = r, ⟨_, rfl, Nat.zero_le _, _, _, ⟨_, _, x2⟩, e2⟩, fun i m σ2 H2 hW => ?_⟩
    obtain ⟨rfl, hi, env2, s2, ⟨ad2, Hc2, x3⟩, e3⟩ := hW
    have sw2 : Sub W H2 := fun b o h => by
      rcases hw b o h with h2 | ⟨i, lk, ys, hi, hx, rfl⟩
      · exact x3.er.sub _ _ (x3.fl _ _ h2)
      · obtain ⟨p, hp, rfl⟩ := hL i lk ys hi hx
        obtain ⟨q1, q2, q3⟩ := x2.pins p (List.mem_append_right _ hp)
        obtain ⟨q4, q5, q6⟩ := x3.pins p (List.mem_append_right _ hp)
        have h4 := sw _ _ h
        rw [q1, q3] at h4
        rw [q1, q6]
        exact h4
    obtain ⟨hgo, hstop⟩ := hJ Hc2 H2 i x3.fl x3.er.sub sw2
    by_cases hlt : i < xs.length
    · obtain ⟨y, hy⟩ : ∃ y, xs[i]? = some y := ⟨xs[i], List.getElem?_eq_getElem hlt⟩
      have hdrop : xs.drop i = y :: xs.drop (i + 1) := by
        rw [List.drop_eq_getElem_cons hlt]
        rw [List.getElem?_eq_getElem hlt] at hy
        rw [Option.some.inj hy]
      obtain ⟨g1, g2⟩ := hgo y hy
      rw [hdrop, forL] at e3
      refine .inr ⟨g1, fun σ' H' => ∃ env' s', SR X.K { en with fl := Hc1 } (Lk ++ Lk') env' s' σ' H' ∧ forL t f (openIn vs env) k (xs.drop (i + 1)) env' s' = r, fun σ' H' hN => ⟨xs.length - (i + 1), by omega, rfl, hlt, hN⟩, fun v H3 hyl => ?_⟩
      obtain ⟨Hc3, al, hdv⟩ := g2 v H3 hyl
      have e4 := al.er x3.er
      have x4 := x3.ev al.nx e4
      cases hb : bindT t y env2 with
      | none => rw [hb] at e3; exact (G.ns e3.symm).elim
      | some env3 =>
        rw [hb] at e3
        refine rg ad2 en.da Hc3 H3 σ2 env2 env3 s2 v y _ e4 hdv hb fun σ' e5 _ => ?_
        exact rb { en with fl := Hc1 } (Lk ++ Lk') _ _ _ r _ σ' H3 env3 s2 ⟨_, _, x4.bound e5 hb⟩ e3
          ⟨fun env s σ H sr e => ⟨env, s, sr, e⟩, fun env s σ H sr e => G.nx _ s σ H (sr.unlock (x.fl.trans n1.sub) hpin) e, fun env s σ H sr e => ⟨env, s, sr, e⟩, G.rt, G.er, G.ns⟩
    · have hnil : xs.drop i = [] := List.drop_of_length_le (by omega)
      rw [hnil, forL] at e3
      exact .inl ⟨hstop (by omega), G.nx _ s2 σ2 H2 (SR.unlock ⟨ad2, Hc2, x3⟩ (x.fl.trans n1.sub) hpin) e3⟩
end
end L2.DL

set_option Elab.async false
set_option linter.all false
set_option maxRecDepth 100000
set_option maxHeartbeats 2000000
/-! D layer 14: statements that change a list of one's own. -/
namespace L2.DL
open PySem PySem.Spec PyProof.Rows
variable [TabL]

/-! ### one slot's list takes other items -/
theorem ER.relst {K : PySem.W.Frag} {ad : Nat → Addr} {da : Option Addr} {Hc H : Hp} {σ : St} {env : En} {s : Dr} {i : Nat} {xs xs' : List D} {vs' : List V} {lk : Bool} (e : ER K ad da Hc H σ env s) (hx : env[i]? = some (.lst lk xs)) (hd : DvAll K Hc vs' xs') :
    ER K ad da Hc (upd H (ad i) (.lst vs')) σ (env.set i (.lst lk xs')) s := by
  have hi : i < env.length := (List.getElem?_eq_some_iff.mp hx).1
  obtain ⟨vs, h1, h2, h3, h4⟩ := e.slot i _ hx
  have old : ∀ j y, (env.set i (.lst lk xs'))[j]? = some y → j ≠ i → env[j]? = some y := fun j y hj hne => by rwa [List.getElem?_set_ne (Ne.symm hne)] at hj
  have new : ∀ y, (env.set i (.lst lk xs'))[i]? = some y → y = .lst lk xs' := fun y hj => by rw [List.getElem?_set_self hi] at hj; exact (Option.some.inj hj).symm
  have back : ∀ j y, (env.set i (.lst lk xs'))[j]? = some y → ∃ z, env[j]? = some z ∧ (own y = true → own z = true) ∧ (y = .drw → z = .drw) := fun j y hj => by
    by_cases hji : j = i
    · subst hji
      rw [new y hj]
      exact ⟨_, hx, fun _ => rfl, fun z => nomatch z⟩
    · exact ⟨y, old j y hj hji, id, id⟩
  refine ⟨fun b o h => ?_, by rw [List.length_set]; exact e.len, fun j y hj => ?_, fun j k y z hj hk oy oz ha => ?_, fun j hj => ?_, fun a ha => ?_, fun j y hj ho => ?_, tbs_lst e.tabs h2, e.noT⟩
  · rw [upd_ne (fun z => by subst z; rw [h4] at h; cases h)]
    exact e.sub _ _ h
  · by_cases hji : j = i
    · subst hji
      rw [new y hj]
      exact ⟨vs', h1, upd_same, hd, h4⟩
    · have h := e.slot j y (old j y hj hji)
      cases y with
      | lst lk2 ys =>
        obtain ⟨ws, q1, q2, q3, q4⟩ := h
        refine ⟨ws, q1, ?_, q3, q4⟩
        rw [upd_ne (fun z => hji (e.apart j i _ _ (old j _ hj hji) hx rfl rfl z))]
        exact q2
      | no => trivial
      | val d => exact h
      | drw => exact h
      | scr ns => exact h
  · obtain ⟨y', hy', o1, _⟩ := back j y hj
    obtain ⟨z', hz', o2, _⟩ := back k z hk
    exact e.apart j k y' z' hy' hz' (o1 oy) (o2 oz) ha
  · obtain ⟨y', hy', _, d⟩ := back j _ hj
    have := d rfl
    subst this
    exact e.drs j hy'
  · obtain ⟨⟨b, q1, q2, q3⟩, q4⟩ := e.drA a ha
    refine ⟨⟨b, ?_, q2, q3⟩, q4⟩
    rw [upd_ne (fun z => e.lstNe i _ hx rfl (by rw [ha, z]))]
    exact q1
  · obtain ⟨y', hy', o1, _⟩ := back j y hj
    exact e.lstNe j y' hy' (o1 ho)
theorem SRx.relst {K : PySem.W.Frag} {en : Ent} {Lk : Lks} {ad : Nat → Addr} {Hc H : Hp} {σ : St} {env : En} {s : Dr} {i : Nat} {xs xs' : List D} {vs' : List V} (x : SRx K en Lk ad Hc env s σ H) (hx : env[i]? = some (.lst false xs)) (hd : DvAll K Hc vs' xs') :
    SRx K en Lk ad Hc (env.set i (.lst false xs')) s σ (upd H (ad i) (.lst vs')) := by
  have hi : i < env.length := (List.getElem?_eq_some_iff.mp hx).1
  obtain ⟨ws, _, hw, _, _⟩ := x.er.slot i _ hx
  refine ⟨x.er.relst hx hd, x.nx.write (.inl (x.own0 i _ hx rfl)) hw, fun j y hj ho => ?_, fun p hp => ?_, x.fl⟩
  · by_cases hji : j = i
    · subst hji; exact x.own0 j _ hx rfl
    · rw [List.getElem?_set_ne (Ne.symm hji)] at hj
      exact x.own0 j y hj ho
  · obtain ⟨q1, q2, q3⟩ := x.pins p hp
    have hne : p.i ≠ i := fun z => by rw [z, hx] at q2; cases q2
    refine ⟨q1, by rw [List.getElem?_set_ne (Ne.symm hne)]; exact q2, ?_⟩
    rw [upd_ne (fun z => hne (x.er.apart p.i i _ _ q2 hx rfl rfl (by rw [q1, z])))]
    exact q3

/-- what a change makes of the items -/
def fApp (d : D) (xs : List D) : Option (List D) := if fitB (xs.length + 1) then some (xs ++ [d]) else none
def fIns (i d : D) (xs : List D) : Option (List D) := match i with
  | .int k => if decide (0 ≤ k) && decide (k < 2 ^ 63) && fitB (xs.length + 1) then some (xs.take k.toNat ++ [d] ++ xs.drop k.toNat) else none
  | _ => none
def fSet (i d : D) (xs : List D) : Option (List D) := match i with
  | .int k => (ixN xs.length k).map fun j => xs.set j d
  | _ => none
/-- with the items of an open list -/
def onLst (i : Nat) (env : En) (f : List D → R (D × Dr)) : R (D × Dr) := match env[i]? with
  | some (.lst false xs) => f xs
  | _ => .stuck
theorem onLst_or (i : Nat) (env : En) (f : List D → R (D × Dr)) : (∃ xs, env[i]? = some (.lst false xs) ∧ onLst i env f = f xs) ∨ onLst i env f = .stuck := by
  unfold onLst
  split
  · rename_i xs hx; exact .inl ⟨xs, hx, rfl⟩
  · exact .inr rfl
def sMeth1 (f : D → List D → Option (List D)) (i : Nat) (fe : Ev D) : Sf := fun k _ _ env s => onLst i env fun xs => (fe env s).bind fun p => (R.ofO (f p.1 xs)).bind fun ys => k (env.set i (.lst false ys)) p.2
def sMeth2 (f : D → D → List D → Option (List D)) (i : Nat) (fa fb : Ev D) : Sf := fun k _ _ env s => onLst i env fun xs => (fa env s).bind fun p => (fb env p.2).bind fun q => (R.ofO (f p.1 q.1 xs)).bind fun ys => k (env.set i (.lst false ys)) q.2
/-- x[a] = e: e is read first -/
def sSetIx (i : Nat) (fa fe : Ev D) : Sf := fun k _ _ env s => onLst i env fun xs => (fe env s).bind fun p => (fa env p.2).bind fun q => (R.ofO (fSet q.1 p.1 xs)).bind fun ys => k (env.set i (.lst false ys)) q.2

section
variable {X : Cx} {E : XK} {C : Addr} {e a b c o : Expr} {es : List Expr} {pos apos cpos p0 : Pos} {st : Stmt} {rest : List Stmt} {i : Nat} {x : Str}
/-- the premises of a method's call in a statement -/
structure MethOk (X : Cx) (a : Expr) (es : List Expr) (o : Expr) (name : Str) (apos cpos : Pos) : Prop where
  hbase : attributeBase o name X.env (eval o X.env) = eval o X.env
  hfew : ((backTo cpos (starEach (a :: es) X.env)).all (fun x => !x.1) && (backToKw cpos (keywordEach [] X.env)).all (fun x => x.1.isSome)
      && decide ((a :: es).length + ([] : List Keyword).length + (if ([] : List Keyword).isEmpty then 0 else 1) < 30)) = true
  hline : (apos.endLine == cpos.line) = true
  hs : starEach (a :: es) X.env = (false, eval a X.env) :: starEach es X.env
  hplain : (backTo cpos (starEach es X.env)).any (·.1) = false
theorem ds_meth1 {f : DL.D → List DL.D → Option (List DL.D)} {fe : Ev DL.D} {name : Str} {id : String} {r : V → List V → Hp → VK → Prop} (slot : Slot "list" name id) (hty : typeOf (.builtin id) = pure (.type "method_descriptor")) (hm : MtR X id r)
    (hr : ∀ (Hc H : Hp) (l : Addr) (vs : List V) (y : V) (xs ys : List DL.D) (d : DL.D) (Q : VK), H l = some (.lst vs) → DvAll X.K Hc vs xs → Sub Hc H → Dv X.K Hc y d → f d xs = some ys → (∀ vs', DvAll X.K Hc vs' ys → Q .non (upd H l (.lst vs'))) → r (.ref l) [y] H Q)
    (hN : X.N[i]? = some x) (hv : Vis X.env.scope x) (hd : (x == ("__debug__" : Str)) = false) (hcd : (x == ("__classdict__" : Str)) = false) (he : DE X E C a fe) (ok : MethOk X a [] (.Name x p0) name apos cpos)
    (hsw : swapsWith (.Call (.Attribute (.Name x p0) name apos) [a] [] cpos) none pos.line X.env = pure false) : DS X E C (.Expr (.Call (.Attribute (.Name x p0) name apos) [a] [] cpos) pos) (sMeth1 f i fe) := by
  obtain ⟨te, pe, re⟩ := he
  refine ⟨_, ps_expr (pe_bm F.plainAttrs_list slot hty hm (pe_var hN hv hd hcd) (pa_cons pe pa_nil ok.hs) ok.hbase ok.hfew ok.hline ok.hs ok.hplain) hsw, fun en Lk k kb kc rr D σ H env s sr e G => ?_⟩
  obtain ⟨ad, Hc, x0⟩ := sr
  rcases onLst_or i env (fun xs => (fe env s).bind fun p => (R.ofO (f p.1 xs)).bind fun ys => k (env.set i (.lst false ys)) p.2) with ⟨xs, hx, e2⟩ | e2
  · have e' := e2.symm.trans e
    obtain ⟨ws, q1, q2, q3, q4⟩ := x0.er.slot i _ hx
    refine ⟨_, q1, .inl ⟨rfl, ws, SqL.of q2⟩, ?_⟩
    refine G.ev (t := te) re x0 e' fun d s1 v Hc1 H1 x1 n1 p1 h => ?_
    obtain ⟨ws1, q5, q6, q7, q8⟩ := x1.er.slot i _ hx
    have h' : (R.ofO (f d xs)).bind (fun ys => k (env.set i (.lst false ys)) s1) = rr := h
    cases ho : f d xs with
    | none => rw [ho] at h'; exact (G.ns h'.symm).elim
    | some ys =>
      rw [ho] at h'
      exact hr Hc1 H1 _ ws1 v _ ys d _ q6 q7 x1.er.sub p1 ho fun vs' hd' => G.nx _ s1 σ _ ⟨_, _, x1.relst hx hd'⟩ h'
  · exact (G.ns (e.symm.trans e2)).elim
theorem ds_append {fe : Ev DL.D} (hN : X.N[i]? = some x) (hv : Vis X.env.scope x) (hd : (x == ("__debug__" : Str)) = false) (hcd : (x == ("__classdict__" : Str)) = false) (he : DE X E C a fe) (ok : MethOk X a [] (.Name x p0) "append" apos cpos)
    (hsw : swapsWith (.Call (.Attribute (.Name x p0) "append" apos) [a] [] cpos) none pos.line X.env = pure false) : DS X E C (.Expr (.Call (.Attribute (.Name x p0) "append" apos) [a] [] cpos) pos) (sMeth1 fApp i fe) :=
  ds_meth1 F.slot_list_append F.type_list_append mt_append (fun Hc H l vs y xs ys d Q h1 h2 h3 h4 h5 q => by
    unfold fApp at h5
    split at h5
    · rename_i hf
      cases h5
      have := fitB_le hf
      exact ⟨l, vs, y, rfl, rfl, h1, by rw [h2.length]; omega, q _ (h2.append (.cons h4 .nil))⟩
    · cases h5) hN hv hd hcd he ok hsw
theorem ds_insert {fa fb : Ev DL.D} (hN : X.N[i]? = some x) (hv : Vis X.env.scope x) (hd : (x == ("__debug__" : Str)) = false) (hcd : (x == ("__classdict__" : Str)) = false) (ha : DE X E C a fa) (hb : DE X E C b fb) (ok : MethOk X a [b] (.Name x p0) "insert" apos cpos)
    (hs2 : starEach [b] X.env = (false, eval b X.env) :: starEach [] X.env)
    (hsw : swapsWith (.Call (.Attribute (.Name x p0) "insert" apos) [a, b] [] cpos) none pos.line X.env = pure false) : DS X E C (.Expr (.Call (.Attribute (.Name x p0) "insert" apos) [a, b] [] cpos) pos) (sMeth2 fIns i fa fb) := by
  obtain ⟨ta, pa, ra⟩ := ha
  obtain ⟨tb, pb, rb⟩ := hb
  refine ⟨_, ps_expr (pe_bm F.plainAttrs_list F.slot_list_insert F.type_list_insert mt_insert (pe_var hN hv hd hcd) (pa_cons pa (pa_cons pb pa_nil hs2) ok.hs) ok.hbase ok.hfew ok.hline ok.hs ok.hplain) hsw, fun en Lk k kb kc rr D σ H env s sr e G => ?_⟩
  obtain ⟨ad, Hc, x0⟩ := sr
  rcases onLst_or i env (fun xs => (fa env s).bind fun p => (fb env p.2).bind fun q => (R.ofO (fIns p.1 q.1 xs)).bind fun ys => k (env.set i (.lst false ys)) q.2) with ⟨xs, hx, e2⟩ | e2
  · have e' := e2.symm.trans e
    obtain ⟨ws, q1, q2, q3, q4⟩ := x0.er.slot i _ hx
    refine ⟨_, q1, .inl ⟨rfl, ws, SqL.of q2⟩, ?_⟩
    refine G.ev (t := ta) ra x0 e' fun d s1 v Hc1 H1 x1 n1 p1 h => ?_
    refine G.ev (t := tb) rb x1 h fun d2 s2 v2 Hc2 H2 x2 n2 p2 h2 => ?_
    obtain ⟨ws1, q5, q6, q7, q8⟩ := x2.er.slot i _ hx
    have h' : (R.ofO (fIns d d2 xs)).bind (fun ys => k (env.set i (.lst false ys)) s2) = rr := h2
    cases ho : fIns d d2 xs with
    | none => rw [ho] at h'; exact (G.ns h'.symm).elim
    | some ys =>
      rw [ho] at h'
      unfold fIns at ho
      split at ho
      · rename_i kk
        split at ho
        · rename_i hf
          simp only [Bool.and_eq_true, decide_eq_true_eq] at hf
          cases ho
          cases p1
          have := fitB_le hf.2
          exact ⟨_, ws1, kk, v2, rfl, rfl, q6, by rw [q7.length]; omega, hf.1.1, hf.1.2, G.nx _ s2 σ _ ⟨_, _, x2.relst hx (((q7.take _).append (.cons p2 .nil)).append (q7.drop _))⟩ h'⟩
        · cases ho
      · cases ho
  · exact (G.ns (e.symm.trans e2)).elim
theorem ds_setIx {fa fe : Ev DL.D} {pos' : Pos} (hN : X.N[i]? = some x) (hv : Vis X.env.scope x) (hd : (x == ("__debug__" : Str)) = false) (hcd : (x == ("__classdict__" : Str)) = false) (ha : DE X E C a fa) (he : DE X E C e fe)
    (hasg : ∀ v, assign (.Subscript (.Name x p0) a pos') X.env v = (do
      let ov ← holding [v] (eval (.Name x p0) X.env)
      let iv ← holding [v, ov] (eval a X.env)
      standAt pos'
      holding [v, ov, iv] (setItem ov iv v)
      release [v, ov, iv] []))
    (hs : swapsWithSole [.Subscript (.Name x p0) a pos'] e pos.line X.env = pure false) (hw : swappedStores [.Subscript (.Name x p0) a pos'] e X.env = pure none)
    (h1 : (assignEach [.Subscript (.Name x p0) a pos'] X.env).map (·.2) = [assign (.Subscript (.Name x p0) a pos') X.env]) : DS X E C (.Assign [.Subscript (.Name x p0) a pos'] e pos) (sSetIx i fa fe) := by
  obtain ⟨ta, pa, ra⟩ := ha
  obtain ⟨te, pe, re⟩ := he
  refine ⟨_, ps_asg pe (pg_sub (pe_var hN hv hd hcd) pa set_list hasg) hs hw h1, fun en Lk k kb kc rr D σ H env s sr e G => ?_⟩
  obtain ⟨ad, Hc, x0⟩ := sr
  rcases onLst_or i env (fun xs => (fe env s).bind fun p => (fa env p.2).bind fun q => (R.ofO (fSet q.1 p.1 xs)).bind fun ys => k (env.set i (.lst false ys)) q.2) with ⟨xs, hx, e2⟩ | e2
  · have e' := e2.symm.trans e
    obtain ⟨ws, q1, q2, q3, q4⟩ := x0.er.slot i _ hx
    refine G.ev re x0 e' fun d s1 v Hc1 H1 x1 n1 p1 h => ?_
    refine ⟨_, q1, ?_⟩
    refine G.ev ra x1 h fun d2 s2 v2 Hc2 H2 x2 n2 p2 h2 => ?_
    obtain ⟨ws1, q5, q6, q7, q8⟩ := x2.er.slot i _ hx
    have h' : (R.ofO (fSet d2 d xs)).bind (fun ys => k (env.set i (.lst false ys)) s2) = rr := h2
    cases ho : fSet d2 d xs with
    | none => rw [ho] at h'; exact (G.ns h'.symm).elim
    | some ys =>
      rw [ho] at h'
      unfold fSet at ho
      split at ho
      · rename_i kk
        cases hj : ixN xs.length kk with
        | none => rw [hj] at ho; cases ho
        | some j =>
          rw [hj] at ho
          cases ho
          cases p2
          exact ⟨_, ws1, kk, j, rfl, rfl, q6, by rw [q7.length]; exact hj, G.nx _ s2 σ _ ⟨_, _, x2.relst hx (q7.set j (n2.sub.dv p1))⟩ h'⟩
      · cases ho
  · exact (G.ns (e.symm.trans e2)).elim

/-! ### name op= e, ints -/
def gInts (g : DL.D → DL.D → Option DL.D) : DL.D → DL.D → Option DL.D
  | .int i, .int j => g (.int i) (.int j)
  | _, _ => none
theorem iop_mulW : OpR X (inplaceOp .Mult) (rI CMulW fun i j => .int (i * j)) := opI fun _ _ _ _ _ _ _ hc q => imul_int q hc.ok
theorem iop_fdivW : OpR X (inplaceOp .FloorDiv) (rI CDivW fun i j => .int (i / j)) := opI fun i j _ _ _ _ _ hc q => by
  have h1 : (0 : Int) < j := hc.1
  exact ifloordiv_int (by omega) (by rw [Int.fdiv_eq_ediv_of_nonneg i (by omega)]; exact q) (.inl (PyProof.noPylong_of_log2 hc.2))
theorem iop_xor : OpR X (inplaceOp .BitXor) (rI0 fun i j => .int (Builtin.bitXor i j)) := opI0 fun _ _ _ _ _ _ _ q => ixor_int q
def sAug (g : DL.D → DL.D → Option DL.D) (i : Nat) (fe : Ev DL.D) : Sf := fun k _ _ env s => match env[i]? with
  | some (.val x) => (fe env s).bind fun p => (R.ofO (g x p.1)).bind fun z => (R.ofO (setE i (.val z) env)).bind fun env' => k env' p.2
  | _ => .stuck
theorem ds_aug {op : Operator} {r : R2} {g : DL.D → DL.D → Option DL.D} {fe : Ev DL.D} {pos' : Pos} (ho : PIp X op r) (hr : OpD X.K r g) (hN : X.N.Nodup) (hi : X.N[i]? = some x) (hx : Loc X.env.scope x) (hf : X.fn x = true ∨ X.env.scope.names.lookup x = some .local) (he : DE X E C e fe) :
    DS X E C (.AugAssign (.Name x pos') op e pos) (sAug g i fe) := by
  obtain ⟨te, pe, re⟩ := he
  refine ⟨_, ps_aug hN hi hx pe ho hf, fun en Lk k kb kc rr D σ H env s sr e G => ?_⟩
  obtain ⟨ad, Hc, x0⟩ := sr
  unfold sAug at e
  split at e
  · rename_i d0 hx0
    obtain ⟨v0, q1, q2⟩ := x0.er.slot i _ hx0
    refine ⟨v0, q1, ?_⟩
    refine G.ev re x0 e fun d s1 v Hc1 H1 x1 n1 p1 h => ?_
    have h' : (R.ofO (g d0 d)).bind (fun z => (R.ofO (setE i (.val z) env)).bind fun env' => k env' s1) = rr := h
    cases hz : g d0 d with
    | none => rw [hz] at h'; exact (G.ns h'.symm).elim
    | some z =>
      rw [hz] at h'
      have h2 : (R.ofO (setE i (.val z) env)).bind (fun env' => k env' s1) = rr := h'
      cases hb : setE i (.val z) env with
      | none => rw [hb] at h2; exact (G.ns h2.symm).elim
      | some env' =>
        rw [hb] at h2
        refine hr Hc1 H1 v0 v d0 d z _ x1.er.sub (.inl (n1.sub.dv q2)) (.inl p1) hz fun w Hc' H' al hd => ?_
        have e3 := al.er x1.er
        have x3 := x1.ev al.nx e3
        exact G.nx env' s1 _ H' ⟨_, _, x3.bound (t := .nm i) (d := z) (e3.put hd hb) (by rw [bindT]; exact hb)⟩ h2
  · exact (G.ns e.symm).elim
theorem d_ints {r : R2} {g : DL.D → DL.D → Option DL.D} {K : PySem.W.Frag} {f : Int → Int → DL.D → Prop} (h : ∀ (Hc H : Hp) (i j : Int) (z : DL.D) (Q : VK), g (.int i) (.int j) = some z → (∀ v, Dv K Hc v z → Q v H) → r (.int i) (.int j) H Q) : OpD K r (gInts g) := by
  intro Hc H x y d e z Q s hx hy hz q
  unfold gInts at hz
  split at hz
  · rw [hx.int, hy.int]
    exact h Hc H _ _ z Q hz fun v hv => q v Hc H (.refl s) hv
  · cases hz
theorem da_add {K : PySem.W.Frag} : OpD K (rI0 fun i j => .int (i + j)) (gInts gAdd) := d_ints (f := fun _ _ _ => True) fun Hc H i j z Q hz q => by
  cases hz; exact ⟨i, j, rfl, rfl, q _ (.int _)⟩
theorem da_sub {K : PySem.W.Frag} : OpD K (rI0 fun i j => .int (i - j)) (gInts gSub) := d_ints (f := fun _ _ _ => True) fun Hc H i j z Q hz q => by
  cases hz; exact ⟨i, j, rfl, rfl, q _ (.int _)⟩
theorem da_xor {K : PySem.W.Frag} : OpD K (rI0 fun i j => .int (Builtin.bitXor i j)) (gInts gXor) := d_ints (f := fun _ _ _ => True) fun Hc H i j z Q hz q => by
  cases hz; exact ⟨i, j, rfl, rfl, q _ (.int _)⟩
theorem da_mul {K : PySem.W.Frag} : OpD K (rI CMulW fun i j => .int (i * j)) (gInts gMul) := d_ints (f := fun _ _ _ => True) fun Hc H i j z Q hz q => by
  unfold gMul at hz
  dsimp only at hz
  split at hz
  · rename_i hf
    cases hz
    refine ⟨i, j, rfl, rfl, ?_, q _ (.int _)⟩
    have := Nat.le_of_ble_eq_true hf
    show _ < _
    omega
  · cases hz
theorem da_div {K : PySem.W.Frag} : OpD K (rI CDivW fun i j => .int (i / j)) (gInts gDiv) := d_ints (f := fun _ _ _ => True) fun Hc H i j z Q hz q => by
  unfold gDiv at hz
  dsimp only at hz
  split at hz
  · rename_i hf
    cases hz
    unfold divB at hf
    simp only [Bool.and_eq_true, decide_eq_true_eq] at hf
    have := Nat.le_of_ble_eq_true hf.2
    exact ⟨i, j, rfl, rfl, ⟨hf.1, by omega⟩, q _ (.int _)⟩
  · cases hz
theorem da_mod {K : PySem.W.Frag} : OpD K (rI (fun _ j => 0 < j) fun i j => .int (i % j)) (gInts gMod) := d_ints (f := fun _ _ _ => True) fun Hc H i j z Q hz q => by
  unfold gMod at hz
  dsimp only at hz
  split at hz
  · rename_i hf
    cases hz
    exact ⟨i, j, rfl, rfl, of_decide_eq_true hf, q _ (.int _)⟩
  · cases hz

/-! ### a, b = x, y: stored from the right -/
def sPar (i j : Nat) (fa fb : Ev DL.D) : Sf := fun k _ _ env s => (fa env s).bind fun p => (fb env p.2).bind fun q => (R.ofO (setE i (.val p.1) env)).bind fun env1 => (R.ofO (setE j (.val q.1) env1)).bind fun env2 => k env2 q.2
theorem ds_par {j : Nat} {y : Str} {px py pt : Pos} {kt k2 pt2} {fa fb : Ev DL.D} (hc : X.calm = true) (hN : X.N.Nodup) (hi : X.N[i]? = some x) (hj : X.N[j]? = some y) (hij : i ≠ j)
    (hx : X.env.scope.names.lookup x = some .local) (hy : X.env.scope.names.lookup y = some .local) (ha : DE X E C a fa) (hb : DE X E C b fb)
    (hs1 : starEach [a, b] X.env = (false, eval a X.env) :: starEach [b] X.env) (hs2 : starEach [b] X.env = (false, eval b X.env) :: starEach [] X.env)
    (hw : swappedStores [.Tuple [.Name x px, .Name y py] kt pt] (.Tuple [a, b] k2 pt2) X.env = pure (some [x, y]))
    (hs : swapsWithSole [.Tuple [.Name x px, .Name y py] kt pt] (.Tuple [a, b] k2 pt2) pos.line X.env = pure false) :
    DS X E C (.Assign [.Tuple [.Name x px, .Name y py] kt pt] (.Tuple [a, b] k2 pt2) pos) (sPar i j fa fb) := by
  obtain ⟨ta, pa, ra⟩ := ha
  obtain ⟨tb, pb, rb⟩ := hb
  refine ⟨_, ps_par hc hN hi hj hij hx hy (pa_cons pa (pa_cons pb pa_nil hs2) hs1) hw hs, fun en Lk k kb kc rr D σ H env s sr e G => ?_⟩
  obtain ⟨ad, Hc, x0⟩ := sr
  refine G.ev (t := ta) ra x0 e fun d s1 v Hc1 H1 x1 n1 p1 h => ?_
  refine G.ev (t := tb) rb x1 h fun d2 s2 v2 Hc2 H2 x2 n2 p2 h2 => ?_
  have h' : (R.ofO (setE i (.val d) env)).bind (fun env1 => (R.ofO (setE j (.val d2) env1)).bind fun env2 => k env2 s2) = rr := h2
  cases hb : setE i (.val d) env with
  | none => rw [hb] at h'; exact (G.ns h'.symm).elim
  | some env1 =>
    rw [hb] at h'
    have h3 : (R.ofO (setE j (.val d2) env1)).bind (fun env2 => k env2 s2) = rr := h'
    cases hb2 : setE j (.val d2) env1 with
    | none => rw [hb2] at h3; exact (G.ns h3.symm).elim
    | some env2 =>
      rw [hb2] at h3
      have y1 := x2.bound (t := .nm i) (d := d) (x2.er.put (n2.sub.dv p1) hb) (by rw [bindT]; exact hb)
      have y2 := y1.bound (t := .nm j) (d := d2) (y1.er.put p2 hb2) (by rw [bindT]; exact hb2)
      exact ⟨v, v2, rfl, G.nx env2 s2 _ H2 ⟨_, _, y2⟩ h3⟩
end
end L2.DL

set_option Elab.async false
set_option linter.all false
set_option maxRecDepth 100000
set_option maxHeartbeats 2000000
/-! D layer 14b: the draws' own cells, the script. -/
namespace L2.DL
open PySem PySem.Spec PyProof.Rows
variable [TabL]

def Dr.get (s : Dr) : Int → Option D
  | 0 => some (.list (s.scr.map .int))
  | 1 => some (.int s.pos)
  | 2 => some (.int s.cur)
  | 3 => some (.int s.seed)
  | _ => none
def Dr.put (s : Dr) (k : Int) (n : Int) : Option Dr := if decide (0 ≤ n) then match k with
  | 1 => some { s with pos := n }
  | 2 => some { s with cur := n }
  | 3 => some { s with seed := n }
  | _ => none else none
def onDrw {α : Type} (i : Nat) (env : En) (f : R α) : R α := match env[i]? with
  | some .drw => f
  | _ => .stuck
theorem onDrw_or {α : Type} (i : Nat) (env : En) (f : R α) : (env[i]? = some .drw ∧ onDrw i env f = f) ∨ onDrw i env f = .stuck := by
  unfold onDrw
  split
  · rename_i hx; exact .inl ⟨hx, rfl⟩
  · exact .inr rfl
def evDr (i : Nat) (k : Int) : Ev D := fun env s => onDrw i env ((R.ofO (s.get k)).bind fun d => .ok (d, s))
def sDrSet (i : Nat) (k : Int) (fe : Ev D) : Sf := fun kk _ _ env s => onDrw i env ((fe env s).bind fun p => match p.1 with
  | .int n => (R.ofO (p.2.put k n)).bind fun s' => kk env s'
  | _ => .stuck)
def onScr {α : Type} (i : Nat) (env : En) (f : List Int → R α) : R α := match env[i]? with
  | some (.scr ns) => f ns
  | _ => .stuck
def evScL (i : Nat) : Ev D := fun env s => onScr i env fun ns => .ok (.list (ns.map .int), s)
def evScI (i : Nat) : Ev (List D) := fun env s => onScr i env fun ns => if fitB ns.length then .ok (ns.map .int, s) else .stuck

section
variable {X : Cx} {E : XK} {C : Addr} {e a b c o : Expr} {es : List Expr} {pos apos cpos p0 : Pos} {st : Stmt} {rest : List Stmt} {i : Nat} {x : Str}
theorem de_dr {k : Int} {j : Nat} {p1 : Pos} (hN : X.N[i]? = some x) (hv : Vis X.env.scope x) (hd : (x == ("__debug__" : Str)) = false) (hcd : (x == ("__classdict__" : Str)) = false) : DE X E C (.Subscript (.Name x p0) (.Constant (.int k) j p1) pos) (evDr i k) := by
  refine ⟨_, pe_ix ix_seq (pe_var hN hv hd hcd) pe_int (fun _ _ => rfl), fun ad da Hc H σ env s Q er q => ?_⟩
  rcases onDrw_or i env ((R.ofO (s.get k)).bind fun d => R.ok (d, s)) with ⟨hx, e1⟩ | e1
  · have q' : PostX X E C ad da Hc H σ env (fun Hc' _ v d => Dv X.K Hc' v d) Q ((R.ofO (s.get k)).bind fun d => .ok (d, s)) := by
      have q2 := q
      unfold evDr at q2
      rw [e1] at q2
      exact q2
    have h1 := er.slot i _ hx
    have h2 := er.drs i hx
    obtain ⟨⟨bb, h3, h4, _⟩, _⟩ := er.drA _ h2
    cases hg : s.get k with
    | none => rw [hg] at q'; exact q'.elim
    | some d =>
      rw [hg] at q'
      refine ⟨_, h1, ?_⟩
      have fin : ∀ v, L2.atI [V.ref bb, .int s.pos, .int s.cur, .int s.seed] k = some v → Dv X.K Hc v d → rIx X.K (.ref (ad i)) (.int k) H Q := fun v hv hd => .inl ⟨ad i, _, k, v, rfl, rfl, SqL.of h3, hv, q' v Hc H Nx.refl er hd⟩
      unfold Dr.get at hg
      split at hg
      · cases hg; exact fin _ rfl (.lst h4 (.ints _))
      · cases hg; exact fin _ rfl (.int _)
      · cases hg; exact fin _ rfl (.int _)
      · cases hg; exact fin _ rfl (.int _)
      · cases hg
  · exfalso
    have q2 := q
    unfold evDr at q2
    rw [e1] at q2
    exact q2
theorem de_listScr {p : Pos} {y : Str} (hN : X.N[i]? = some x) (hv : Vis X.env.scope x) (hd : (x == ("__debug__" : Str)) = false) (hcd : (x == ("__classdict__" : Str)) = false) (hg : Gl X "list") (hm : X.mg "list" = none) :
    DE X E C (.Call (.Name "list" p) [.Name x p0] [] pos) (evScL i) := by
  refine ⟨_, pe_callTy call_list_of hg hm (by kernel_rfl) (pa_cons (pe_var hN hv hd hcd) pa_nil rfl) (by decide +kernel) (by decide +kernel) rfl rfl, fun ad da Hc H σ env s Q er q => ?_⟩
  unfold evScL onScr at q
  split at q
  · rename_i ns hx
    obtain ⟨a, h1, h2⟩ := er.slot i _ hx
    exact ⟨_, h1, a, _, rfl, .inl (er.sub.sqL h2), fun l hl => q _ _ _ (Al.new er.sub hl).nx (er.new hl) (.lst upd_same (.ints _))⟩
  · exact q.elim
theorem di_scr {tg : Expr} (hN : X.N[i]? = some x) (hv : Vis X.env.scope x) (hd : (x == ("__debug__" : Str)) = false) (hcd : (x == ("__classdict__" : Str)) = false) : DI X E C tg (.Name x p0) [] (evScI i) := by
  refine ⟨_, pi_src (pe_var hN hv hd hcd), fun ad da Hc H σ env s Q er q => ?_⟩
  unfold evScI onScr at q
  split at q
  · rename_i ns hx
    dsimp only at q
    split at q
    · rename_i hf
      obtain ⟨a, h1, h2⟩ := er.slot i _ hx
      refine ⟨_, h1, .inl ⟨_, _, rfl, er.sub.sqL h2, fun hl => ?_⟩⟩
      refine q _ Hc Hc H Nx.refl er er.sub (fun b o h => .inl h) (by rw [List.length_map]; exact fitB_le hf) fun Hc' H' j s1 s2 s3 => ?_
      have hS : Src.has X.K H' (ns.map V.int) (.lst a) := s2.sqL (s1.sqL h2)
      refine ⟨fun y hy => ?_, fun hi => ⟨_, hS, by rw [List.length_map] at *; omega⟩⟩
      rw [List.getElem?_map] at hy
      cases hn : ns[j]? with
      | none => rw [hn] at hy; cases hy
      | some m =>
        rw [hn] at hy
        cases hy
        have hv : (ns.map V.int)[j]? = some (.int m) := by rw [List.getElem?_map, hn]; rfl
        refine ⟨⟨_, _, hS, hv⟩, fun v' H'' hyl => ?_⟩
        obtain ⟨rfl, hall⟩ := hyl
        have := hall _ hS
        rw [hv] at this
        cases this
        exact ⟨Hc', Al.refl s2, .int m⟩
    · exact q.elim
  · exact q.elim
/-- the draws' cells hold other values -/
theorem ER.redraw {K : PySem.W.Frag} {ad : Nat → Addr} {da : Option Addr} {Hc H : Hp} {σ : St} {env : En} {s s' : Dr} {a b : Addr} (e : ER K ad da Hc H σ env s) (hd : da = some a) (hb : Hc b = some (.lst (s'.scr.map V.int))) (h0 : 0 ≤ s'.pos) (h1 : 0 ≤ s'.cur) (h2 : 0 ≤ s'.seed) :
    ER K ad da Hc (upd H a (.lst [.ref b, .int s'.pos, .int s'.cur, .int s'.seed])) σ env s' := by
  obtain ⟨⟨b0, hw, _⟩, hn⟩ := e.drA a hd
  refine ⟨fun c o h => ?_, e.len, fun i x hx => ?_, e.apart, e.drs, fun a' ha => ?_, e.lstNe, tbs_lst e.tabs hw, e.noT⟩
  · rw [upd_ne (fun z => by subst z; rw [hn] at h; cases h)]
    exact e.sub _ _ h
  · have h := e.slot i x hx
    cases x with
    | lst lk xs =>
      obtain ⟨vs, q1, q2, q3, q4⟩ := h
      refine ⟨vs, q1, ?_, q3, q4⟩
      rw [upd_ne (fun z => e.lstNe i _ hx rfl (by rw [hd, z]))]
      exact q2
    | no => trivial
    | val d => exact h
    | drw => exact h
    | scr ns => exact h
  · rw [hd] at ha
    cases ha
    exact ⟨⟨b, upd_same, hb, h0, h1, h2⟩, hn⟩
theorem ds_drSet {k : Int} {j : Nat} {p1 pos' : Pos} {fe : Ev DL.D} (hN : X.N[i]? = some x) (hv : Vis X.env.scope x) (hd : (x == ("__debug__" : Str)) = false) (hcd : (x == ("__classdict__" : Str)) = false) (he : DE X E C e fe)
    (hs : swapsWithSole [.Subscript (.Name x p0) (.Constant (.int k) j p1) pos'] e pos.line X.env = pure false) (hw : swappedStores [.Subscript (.Name x p0) (.Constant (.int k) j p1) pos'] e X.env = pure none) :
    DS X E C (.Assign [.Subscript (.Name x p0) (.Constant (.int k) j p1) pos'] e pos) (sDrSet i k fe) := by
  obtain ⟨te, pe, re⟩ := he
  refine ⟨_, ps_asg pe (pg_sub (pe_var hN hv hd hcd) pe_int set_list (fun _ => rfl)) hs hw rfl, fun en Lk kk kb kc rr D σ H env s sr e G => ?_⟩
  obtain ⟨ad, Hc, x0⟩ := sr
  rcases onDrw_or i env ((fe env s).bind fun p => match p.1 with
    | .int n => (R.ofO (p.2.put k n)).bind fun s' => kk env s'
    | _ => .stuck) with ⟨hx, e2⟩ | e2
  · have e' := e2.symm.trans e
    refine G.ev re x0 e' fun d s1 v Hc1 H1 x1 n1 p1 h => ?_
    have h1 := x1.er.slot i _ hx
    have h2 := x1.er.drs i hx
    obtain ⟨⟨bb, h3, h4, z0, z1, z2⟩, h5⟩ := x1.er.drA _ h2
    dsimp only at h
    split at h
    · rename_i n
      cases p1
      cases hp : s1.put k n with
      | none => rw [hp] at h; exact (G.ns h.symm).elim
      | some s' =>
        rw [hp] at h
        have fin : ∀ jj : Nat, ixN 4 k = some jj → [V.ref bb, .int s1.pos, .int s1.cur, .int s1.seed].set jj (.int n) = [V.ref bb, .int s'.pos, .int s'.cur, .int s'.seed] → s'.scr = s1.scr → 0 ≤ s'.pos → 0 ≤ s'.cur → 0 ≤ s'.seed → L2.gSub (tVar i) (tC (.int k)) rSetL (.int n) σ H1 D.nx := fun jj q1 q2 q3 q4 q5 q6 => by
          refine ⟨_, h1, ad i, _, k, jj, rfl, rfl, h3, q1, ?_⟩
          rw [q2]
          refine G.nx env s' σ _ ⟨ad, Hc1, x1.er.redraw h2 (by rw [q3]; exact h4) q4 q5 q6, x1.nx.write (.inr h2.symm) h3, x1.own0, fun p hp => ?_, x1.fl⟩ h
          obtain ⟨r1, r2, r3⟩ := x1.pins p hp
          refine ⟨r1, r2, ?_⟩
          rw [upd_ne (fun z => x1.er.lstNe p.i _ r2 rfl (by rw [h2, r1, z]))]
          exact r3
        unfold Dr.put at hp
        split at hp
        · rename_i hn
          have hn' := of_decide_eq_true hn
          split at hp
          · cases hp; exact fin 1 rfl rfl rfl hn' z1 z2
          · cases hp; exact fin 2 rfl rfl rfl z0 hn' z2
          · cases hp; exact fin 3 rfl rfl rfl z0 z1 hn'
          · cases hp
        · cases hp
    · exact (G.ns h.symm).elim
  · exact (G.ns (e.symm.trans e2)).elim

/-! ### powers -/
def gPow : DL.D → DL.D → Option DL.D
  | .int i, .int j => if decide (0 ≤ j) && decide (j ≤ 1000) && decide (i.natAbs < 2 ^ 64) then some (.int (i ^ j.toNat)) else none
  | _, _ => none
theorem d_pow {K : PySem.W.Frag} : OpD K (rI CPow fun i j => .int (i ^ j.toNat)) gPow := by
  intro Hc H x y d e z Q s hx hy hz q
  unfold gPow at hz
  split at hz
  · split at hz
    · rename_i hf
      cases hz
      simp only [Bool.and_eq_true, decide_eq_true_eq] at hf
      exact ⟨_, _, hx.int, hy.int, ⟨hf.1.1, by omega, hf.2⟩, q _ _ _ (.refl s) (.int _)⟩
    · cases hz
  · cases hz
end
end L2.DL

set_option Elab.async false
set_option linter.all false
set_option maxRecDepth 100000
set_option maxHeartbeats 2000000
/-! D layer 14c: raise, told. -/
namespace L2.DL
open PySem PySem.Spec PyProof.Rows
variable [TabL]

/-! ### raise -/
def spI (K : PySem.W.Frag) (C : Addr) : Sp := fun vs H Q _ => ∃ (a : Addr) (x : Str), vs = [.ref a, .str x] ∧ OexC K C ∧ H a = some (exo a C none) ∧ ∀ dx, H dx = none → dx ≠ a → Q .non (upd (upd H dx (exd dx [(("code" : Str), .str x)])) a (exo a C (some dx)))
def sRaise (c : Str) : Sf := fun _ _ _ _ _ => .err c
/-- what raising asks of the class at C -/
structure RaiseOk (X : Cx) (E : XK) (C : Addr) : Prop where
  T : OexC X.K C
  mg : X.mg "SecretError" = some (.ref C)
  tk : Takes X (fun cls d _ H => E cls d H)
  ini : ∃ (fI : Addr) (k : Nat) (fd : FuncData) (ps : List Str), PySem.W.findIn X.K (.ref C) "__init__" = some (some (.ref fI)) ∧ PySem.W.typeIn X.K (.ref fI) = some (.type "function") ∧ FnOk X.prog X.w X.K X.mg X.base (L2.CX X.prog X.w) k fI fd ps (spI X.K C) ∧ Room (k + 1) X.A ∧ L2.Binds X.K fd ps []
theorem pass_F {X : Cx} : Passes (L2.CX X.prog X.w) X (fun _ _ _ => False) := fun _ _ _ _ _ _ _ h => by
  obtain ⟨_, _, _, _, _, _, _, _, _, _, _, _, h⟩ := h
  exact h.elim
theorem ds_raise {X : Cx} {E : XK} {C : Addr} {c : Str} {j : Nat} {p p1 pos pos' : Pos} (hc : X.calm = true) (RO : RaiseOk X E C) (hg : Gl X "SecretError") : DS X E C (.Raise (some (.Call (.Name "SecretError" p) [.Constant (.str c) j p1] [] pos)) none pos') (sRaise c) := by
  obtain ⟨fI, k, fd, ps, i1, i2, F1, hr, hb⟩ := RO.ini
  refine ⟨_, ps_raise hc RO.tk (pmk_oex RO.T i1 i2 F1 hr hb .nil pass_F hg RO.mg (pa_cons pe_str pa_nil rfl) (by decide +kernel) rfl rfl), fun en Lk kk kb kc r D σ H env s sr e G => ?_⟩
  obtain ⟨ad, Hc, x⟩ := sr
  have e' : DL.R.err c = r := e
  refine ⟨by show 1 ≤ 1000; omega, fun a ha => ?_⟩
  refine ⟨a, c, rfl, RO.T, upd_same, fun dx hd hne => ⟨rfl, dx, [(("code" : Str), V.str c)], upd_same, ?_, ?_, ?_⟩⟩
  · rw [upd_ne hne, upd_same]
  · rw [upd_ne hne] at hd; exact hd
  · have hdn : H dx = none := by rw [upd_ne hne] at hd; exact hd
    have eH : upd (del (upd (upd (upd H a (exo a C none)) dx (exd dx [(("code" : Str), V.str c)])) a (exo a C (some dx))) a) dx (.xd [(("code" : Str), V.str c)]) = upd H dx (.xd [(("code" : Str), V.str c)]) := by
      funext b
      by_cases hb : b = dx
      · subst hb; rw [upd_same, upd_same]
      · rw [upd_ne hb, upd_ne hb]
        by_cases hba : b = a
        · subst hba; rw [del_same, ha]
        · rw [del_ne hba, upd_ne hba, upd_ne hb, upd_ne hba]
    rw [eH]
    exact G.er c e'.symm dx _ (x.nx.trans (Nx.lay hdn)).weak upd_same

/-! ### told -/
def hide1 : Sl → Sl
  | .drw => .no
  | x => x
def hideE (env : En) : En := env.map hide1
def evTold (fe : Ev D) : Ev D := fun env s => match fe (hideE env) s with
  | .ok (d, _) => .ok (d, s)
  | .err c => .ok (.str c, s)
  | .stuck => .stuck
/-- try: return a() / except x as e: return e.code -/
def TTold2 (C : Addr) : (XK → Hp → VK → Prop) → Hp → VK → Prop := fun tl H Q =>
  tl (fun cls d H' => cls = .ref C ∧ ∃ (dd : Addr) (fs : List (Str × V)) (v : V), d = some dd ∧ H' dd = some (.xd fs) ∧ fs.lookup ("code" : Str) = some v ∧ Q v H') H Q
theorem suite_ps {Z : Cx} {a C : Addr} {oe : Obj} {cls : Value} {d : Option Addr} {pn : List (Addr × Obj)} {n : Str} {i : Nat} {p5 p6 p7 : Pos} (xf : XfC Z.K C) (hno : PySem.W.findIn Z.K (.ref C) "code" = some none) (hz : Zc cls d oe) (hf : ∃ vs, oe.data = .fields vs) (hi : Z.N[i]? = some n) (hv : Vis Z.env.scope n)
    (hdn : (n == ("__debug__" : Str)) = false) (hcn : (n == ("__classdict__" : Str)) = false) :
    PSs (Z.suite a ((a, oe) :: pn)) [.Return (some (.Attribute (.Name n p5) "code" p6)) p7] (fun D σ H => σ.length = Z.N.length → tRet (tXf a cls d C "code" (tVar i)) D σ H) :=
  ⟨fun pins s σ H D I h => (pss_one (ps_ret (pe_xf (X := Z) (C := C) xf hno hz hf (pe_var (X := Z.suite a ((a, oe) :: pn)) (i := i) hi hv hdn hcn) rfl))).run pins s σ H D I (h I.len)⟩
theorem told_gives2 {X : Cx} {Ng : List Str} {x a e n q : Str} {sg : Scope} {g C : Addr} {cdg : Value} {i : Nat} {p1 p2 p3 p4 p5 p6 p7 p8 p9 : Pos} (hge : sg.names.lookup e = some .globalImplicit) (hme : X.mg e = some (.ref C)) (hde : (e == ("__debug__" : Str)) = false) (h0 : ∀ f : Addr, (L2.start Ng [V.ref f])[0]? = some (some (V.ref f)))
    (nd : Ng.Nodup) (hi : Ng[i]? = some n) (hln : sg.names.lookup n = some .local) (hdn : (n == ("__debug__" : Str)) = false) (hcn : (n == ("__classdict__" : Str)) = false) (xm : PySem.W.exmOne X.K (.ref C) (.ref C) = some true) (xf : XfC X.K C) (hno : PySem.W.findIn X.K (.ref C) "code" = some none):
    LamX.GivesTo X Ng x sg g cdg [.Try [.Return (some (.Call (.Name a p1) [] [] p2)) p3] [.ExceptHandler (some (.Name e p4)) (some n) [.Return (some (.Attribute (.Name n p5) "code" p6)) p7] p8] [] [] p9] a q (TTold2 C) := by
  intro f c' s H Q tl act hc h
  have hgl : Gl (cxOf C8.CX0 X.prog X.w X.K X.mg X.base Ng x sg g cdg X.A X.stack s H C8.E0).nox e := hge
  refine ⟨_, pss_one (ps_try_as (X := (cxOf C8.CX0 X.prog X.w X.K X.mg X.base Ng x sg g cdg X.A X.stack s H C8.E0).nox) (c := .ref C) (i := i)
      (tb := fun W D σ H => ∃ Ech : XK, (∀ cls d σ' H', Ech cls d H' → W cls d σ' H') ∧ σ = L2.start Ng [V.ref f] ∧ H c' = some (LamX.CodeO c' q) ∧ tl Ech H D.rt)
      rfl rfl nd hi hln ⟨hgl, hde, .inl hme⟩ LamX.takes0 (fun W pn xe tk _ => ?_) (ts := fun a cls d => fun D σ H => σ.length = Ng.length → tRet (tXf a cls d C "code" (tVar i)) D σ H) (fun a oe cls d pn hz hf => suite_ps (Z := (cxOf C8.CX0 X.prog X.w X.K X.mg X.base Ng x sg g cdg X.A X.stack s H C8.E0).nox) xf hno hz hf hi (.inl hln) hdn hcn)), ?_⟩
  · refine ⟨fun pins s' σ H' D I h' => ?_⟩
    obtain ⟨Ech, hW, h1, h2, h3⟩ := h'
    have hp := act W pn xe Ech p1 p2 tk hW
    have hq := pss_one (ps_ret (pos := p3) hp)
    exact hq.run pins s' σ H' D I ⟨by rw [h1]; exact h0 f, h2, h3⟩
  · refine ⟨fun cls d H' => cls = .ref C ∧ ∃ (dd : Addr) (fs : List (Str × V)) (v : V), d = some dd ∧ H' dd = some (.xd fs) ∧ fs.lookup ("code" : Str) = some v ∧ Q v H', fun cls d σ' H' hx => ?_, rfl, hc, h⟩
    obtain ⟨rfl, dd, fs, v, rfl, e1, e2, e3⟩ := hx
    refine ⟨true, xm, fun _ a ha => fun hlen => ?_, (fun z => nomatch z)⟩
    have hil : i < Ng.length := (List.getElem?_eq_some_iff.mp hi).1
    rw [List.length_set] at hlen
    exact ⟨.ref a, List.getElem?_set_self (by rw [hlen]; exact hil), rfl, rfl, dd, fs, v, rfl, e1, e2, e3⟩
/-- what telling asks -/
structure ToldOk (X : Cx) (C : Addr) (nm : Str) (k : Nat) : Prop where
  mem : ((He.cT X.K (nm, none)).2, lamQ nm) ∈ TabL.T
  tab : ∃ c, LamX.TabB X.base X.mg c (He.cT X.K (nm, none)).2 ∧ X.env.code = .ref c
  qual : X.env.qual = nm ++ ".<locals>."
  uniq : ∀ p ∈ TabL.T, p.1 = (He.cT X.K (nm, none)).2 → p.2 = lamQ nm
  room : Room (k + 2) X.A
  told : ∃ (g : Addr) (pg : Arguments) (bg : List Stmt) (sg : Scope) (dV kV doc pm cdv ct oc : Value) (an od : Option Addr) (osl : Array (Option Value)) (Ng : List Str) (a : Str), X.mg "_law_told" = some (.ref g) ∧ PySem.W.keepIn X.K (.ref g) = true ∧
    X.K.lookup g = some ⟨oc, od, .func (PySem.W.fnOf "_law_told" "_law_told" pg bg sg dV kV doc pm an cdv ct), osl⟩ ∧ PySem.W.codeIn X.K cdv "_law_told" = true ∧ L2.Binds X.K (PySem.W.fnOf "_law_told" "_law_told" pg bg sg dV kV doc pm an cdv ct) [a] [] ∧ FnScope Ng [a] sg ∧ Ng[0]? = some a ∧ Vis sg a ∧
    (a == ("__debug__" : Str)) = false ∧ (a == ("__classdict__" : Str)) = false ∧ ∀ q, LamX.GivesTo X Ng "_law_told" sg g cdv bg a q (TTold2 C)
theorem hide_old {env : En} {i : Nat} {x : Sl} (h : (hideE env)[i]? = some x) : ∃ y, env[i]? = some y ∧ x = hide1 y := by
  unfold hideE at h
  rw [List.getElem?_map] at h
  cases hy : env[i]? with
  | none => rw [hy] at h; cases h
  | some y => rw [hy] at h; cases h; exact ⟨y, rfl, rfl⟩
theorem ER.hide {K : PySem.W.Frag} {ad : Nat → Addr} {da : Option Addr} {Hc H : Hp} {σ : St} {env : En} {s : Dr} (e : ER K ad da Hc H σ env s) : ER K ad none Hc H σ (hideE env) s := by
  refine ⟨e.sub, by unfold hideE; rw [List.length_map]; exact e.len, fun i x hx => ?_, fun i j x y hi hj ox oy ha => ?_, fun i hi => ?_, (fun a z => nomatch z), (fun i x hx ho z => nomatch z), e.tabs, e.noT⟩
  · obtain ⟨y, hy, rfl⟩ := hide_old hx
    have h := e.slot i y hy
    cases y with
    | drw => trivial
    | no => trivial
    | val _ => exact h
    | lst _ _ => exact h
    | scr _ => exact h
  · obtain ⟨x', hx', rfl⟩ := hide_old hi
    obtain ⟨y', hy', rfl⟩ := hide_old hj
    exact e.apart i j x' y' hx' hy' (by cases x' <;> first | exact ox | cases ox) (by cases y' <;> first | exact oy | cases oy) ha
  · obtain ⟨y, hy, z⟩ := hide_old hi
    cases y <;> cases z
theorem de_told {X : Cx} {E : XK} {C : Addr} {nm : Str} {k : Nat} {fe : Ev D} {params : Arguments} {body : Expr} {scope : Scope} {p lpos pos : Pos} (O : ToldOk X C nm k) (hg : Gl X "_law_told") (L : LamX.LamS X.env.scope scope) (hdef : defaultsOf params X.env = ([], []))
    (hbind : ∀ (q : Str) (cl : List (Str × Addr)) (pm cv ctv : Value), bindArgs (PySem.W.kla_fn "<lambda>" q params body scope cl pm cv ctv) ⟨[], []⟩ = pure [])
    (hbody : ∀ (A : Around) (outer : List Env) (s : Shared) (H : Hp) (E : XK) (f c' : Addr), Room k (A.deeper (LamX.lamEnv X scope s.heap.objs.size f c')) → DE (LamX.lamCx X A outer s H E scope f c') E C body fe) :
    DE X E C (.Call (.Name "_law_told" p) [.Lambda params body scope lpos] [] pos) (evTold fe) := by
  obtain ⟨c, TB, hcode⟩ := O.tab
  obtain ⟨g, pg, bg, sg, dV, kV, doc, pm, cdv, ct, oc, an, od, osl, Ng, a, t1, t2, t3, t4, t5, t6, t7, t8, t9, t10, t11⟩ := O.told
  have hq : X.env.qual ++ "<lambda>" = lamQ nm := by rw [O.qual]; rfl
  refine ⟨_, LamX.pe_lamcall (T := TabL.T) (P := (He.cT X.K (nm, none)).2) (TT := TTold2 C) (t := fun E => DL.can X.K E C (PV X.K) fe) hg t1 t2 t3 t4 t5 t6 t7 t8 (t11 _) TB hcode (by rw [hq]; exact O.mem) (fun q hq' e => by rw [hq]; exact O.uniq q hq' e) O.room L hdef hbind (fun A outer s H E f c' hr => (hbody A outer s H E f c' hr).can) (by decide +kernel) t9 t10, fun ad da Hc H σ env s Q er q => ?_⟩
  · have q' : PostX X E C ad da Hc H σ env (fun Hc _ v d => Dv X.K Hc v d) Q (match fe (hideE env) s with
      | .ok (d, _) => .ok (d, s)
      | .err c => .ok (.str c, s)
      | .stuck => .stuck) := q
    refine ⟨er.tabs, fun H1 eN T1 => ?_⟩
    -- the state at the lambda's call
    have s1 : Sub Hc H1 := fun b o z => eN b o (er.sub _ _ z) (er.noT _ _ z)
    have eh := er.hide
    have e1 : ER X.K ad none Hc H1 σ (hideE env) s := by
      refine ⟨s1, eh.len, fun i x hx => ?_, eh.apart, eh.drs, (fun a z => nomatch z), eh.lstNe, T1, er.noT⟩
      have h := eh.slot i x hx
      cases x with
      | no => trivial
      | val _ => exact h
      | lst _ _ =>
        obtain ⟨vs, q1, q2, q3, q4⟩ := h
        exact ⟨vs, q1, eN _ _ q2 nT_lst, q3, q4⟩
      | drw => exact h
      | scr _ => exact h
    have back : ∀ {Hc2 H2 : Hp}, Nx none Hc H1 Hc2 H2 → Sub Hc2 H2 → Nx da Hc H Hc2 H2 ∧ ER X.K ad da Hc2 H2 σ env s := fun {Hc2 H2} n2 sc2 => by
      have nx : Nx da Hc H Hc2 H2 := ⟨n2.sub, (fun b o z n o' e t => n2.fresh b o z n o' (eN _ _ e t) t), (fun b o z _ t => n2.keep _ _ (eN _ _ z t) (fun z => nomatch z) t), (fun b o z t => n2.there b o (eN _ _ z t) t), (fun _ => n2.tab T1), n2.noT⟩
      exact ⟨nx, er.grow sc2 nx.sub nx.fresh (fun b vs z _ => n2.keep _ _ (eN _ _ z nT_lst) (fun z => nomatch z) nT_lst) nx.tab nx.noT⟩
    cases hf : fe (hideE env) s with
    | stuck => rw [hf] at q'; exact q'.elim
    | ok p =>
      rw [hf] at q'
      refine ⟨ad, none, Hc, hideE env, s, e1, ?_⟩
      rw [hf]
      intro v Hc2 H2 n2 e2 hd
      obtain ⟨m1, m2⟩ := back n2 e2.sub
      exact q' v Hc2 H2 m1 m2 hd
    | err c =>
      rw [hf] at q'
      refine ⟨ad, none, Hc, hideE env, s, e1, ?_⟩
      rw [hf]
      intro dx H2 n2 hx
      have sc : Sub Hc H2 := fun b o z => n2.keep _ _ (s1 _ _ z) (fun z => nomatch z) (er.noT _ _ z)
      obtain ⟨m1, m2⟩ := back n2 sc
      exact ⟨rfl, dx, _, .str c, rfl, hx, rfl, q' (.str c) Hc H2 m1 m2 (.str c)⟩
end L2.DL

set_option Elab.async false
set_option linter.all false
set_option maxRecDepth 100000
set_option maxHeartbeats 2000000
/-! D layer 14d: index, range with a step. -/
namespace L2.DL
open PySem PySem.Spec PyProof.Rows
variable [TabL]

def gIndex (ds : List D) (d : D) : Option D := if SeqAt.shaped (.list ds) && SeqAt.shaped d then (ds.findIdx? fun z => PyData.eqv z d).map fun j => .int (j : Int) else none
def evIdx (i : Nat) (fe : Ev D) : Ev D := fun env s => (evPk i env s).bind fun p => match p.1 with
  | .list ds => (fe env p.2).bind fun q => (R.ofO (gIndex ds q.1)).bind fun z => .ok (z, q.2)
  | _ => .stuck
/-- the premises of a method's call -/
structure MethE (X : Cx) (a : Expr) (o : Expr) (name : Str) (apos cpos : Pos) : Prop where
  hbase : attributeBase o name X.env (eval o X.env) = eval o X.env
  hline : (apos.endLine == cpos.line) = true
  hs : starEach [a] X.env = (false, eval a X.env) :: starEach [] X.env
section
variable {X : Cx} {E : XK} {C : Addr} {e a b c o : Expr} {es : List Expr} {pos apos cpos p0 : Pos} {i : Nat} {x : Str}
theorem de_index {fe : Ev D} (hu : X.A.units + 65 < cLine) (hN : X.N[i]? = some x) (hv : Vis X.env.scope x) (hd : (x == ("__debug__" : Str)) = false) (hcd : (x == ("__classdict__" : Str)) = false) (he : DE X E C a fe) (ok : MethE X a (.Name x p0) "index" apos cpos) :
    DE X E C (.Call (.Attribute (.Name x p0) "index" apos) [a] [] cpos) (evIdx i fe) := by
  obtain ⟨te, pe, re⟩ := he
  obtain ⟨tk, pk, rk⟩ := dk_var (E := E) (C := C) (pos := p0) hN hv hd hcd
  refine ⟨_, pe_bm F.plainAttrs_list F.slot_list_index F.type_list_index (mt_indexD hu) pk (pa_cons pe pa_nil ok.hs) ok.hbase (by rw [ok.hs]; rfl) ok.hline ok.hs rfl, fun ad da Hc H σ env s Q er q => ?_⟩
  refine rk ad da Hc H σ env s _ er (Post.bind q fun d s1 _ v Hc1 H1 n1 e1 p1 q1 => ?_)
  dsimp only at q1
  split at q1
  case h_2 => exact q1.elim
  rename_i ds _
  obtain ⟨l, ws, rfl, w1, w2⟩ := (p1.pk e1).list e1.sub
  refine ⟨.inl ⟨rfl, ws, SqL.of w1⟩, ?_⟩
  refine re ad da Hc1 H1 σ env s1 _ e1 (Post.bind q1 fun d2 s2 _ v2 Hc2 H2 n2 e2 p2 q2 => ?_)
  cases hg : gIndex ds d2 with
  | none => rw [hg] at q2; exact q2.elim
  | some z =>
    rw [hg] at q2
    unfold gIndex at hg
    split at hg
    · rename_i hs
      rw [Bool.and_eq_true] at hs
      cases hj : ds.findIdx? (fun z => PyData.eqv z d2) with
      | none => rw [hj] at hg; cases hg
      | some j =>
        rw [hj] at hg
        cases hg
        obtain ⟨j1, j2, j3⟩ := List.findIdx?_eq_some_iff_getElem.mp hj
        refine ⟨l, v2, d2, ds, j, ds[j], rfl, rfl, (((PkV.sub (show PkV X.K ad env Hc1 (V.ref l) (.list ds) from p1) n2.sub).pk e2).dv e2.sub).dp, (e2.sub.dv p2).dp, hs.1, hs.2, List.getElem?_eq_getElem j1, j2, fun m z' hm hz => ?_, q2 (.int (j : Int)) Hc2 H2 Nx.refl e2 (.int _)⟩
        have hml : m < ds.length := Nat.lt_trans hm j1
        have := j3 m hm
        rw [List.getElem?_eq_getElem hml] at hz
        rw [← Option.some.inj hz]
        simpa using this
    · cases hg
/-! ### range(a, b, c) -/
def evRng3 (f : Ev (List D)) : Ev (List D) := fun env s => (f env s).bind fun p => match p.1 with
  | [.int i, .int j, .int c] => if decide (c ≠ 0) && decide (c.natAbs < 1073741824) && Builtin.Range.small i j c && decide (0 ≤ Builtin.Range.rangeSize i j c) && fitB (Builtin.Range.rangeSize i j c).toNat then .ok (rngD i (Builtin.Range.rangeSize i j c).toNat c, p.2) else .stuck
  | _ => .stuck
theorem itc_ok {K : PySem.W.Frag} {W Hc : Hp} (a c : Int) (n : Nat) : ItD K (Itc a c n) W Hc (rngD a n c) := fun Hc' H' i s1 s2 s3 => by
  refine ⟨fun x hx => ?_, fun hi => ?_⟩
  · rw [rngD_get] at hx
    split at hx
    · rename_i hlt
      cases hx
      refine ⟨hlt, fun v H'' hy => ?_⟩
      obtain ⟨rfl, rfl⟩ := hy
      exact ⟨Hc', Al.refl s2, .int _⟩
    · cases hx
  · rw [rngD_len] at hi
    exact Nat.le_of_eq hi
theorem di_rng3 {tg : Expr} {f : Ev (List D)} {p : Pos} (hg : Gl X "range") (hm : X.mg "range" = none) (ha : DAE X E C [a, b, c] f) (hs : starEach [a, b, c] X.env = (false, eval a X.env) :: starEach [b, c] X.env) (hpl : (backTo pos (starEach [b, c] X.env)).any (·.1) = false) :
    DI X E C tg (.Call (.Name "range" p) [a, b, c] [] pos) [] (evRng3 f) := by
  obtain ⟨t, pa, r⟩ := ha
  refine ⟨_, pi_range3 hg hm pa hs hpl, fun ad da Hc H σ env s Q er q => r ad da Hc H σ env s _ er (IPost.bind q fun ds s1 _ xs Hc1 H1 n1 e1 p1 q1 => ?_)⟩
  split at q1
  · rename_i i j c hd
    have hd' : ds = [.int i, .int j, .int c] := hd
    subst hd'
    split at q1
    · rename_i hb
      simp only [Bool.and_eq_true, decide_eq_true_eq] at hb
      obtain ⟨⟨⟨⟨b1, b2⟩, b3⟩, b5⟩, b4⟩ := hb
      cases p1 with
      | cons r1 r2 =>
        cases r2 with
        | cons r2 r3 =>
          cases r3 with
          | cons r3 r4 =>
            cases r1; cases r2; cases r3; cases r4
            exact ⟨i, j, c, _, rfl, ⟨b1, b2, b3, (Int.toNat_of_nonneg b5).symm⟩, q1 _ Hc1 Hc1 H1 Nx.refl e1 e1.sub (fun b o h => .inl h) (by rw [rngD_len]; exact fitB_le b4) (itc_ok _ _ _)⟩
    · exact q1.elim
  · exact q1.elim
end
end L2.DL

set_option Elab.async false
set_option linter.all false
set_option maxRecDepth 100000
set_option maxHeartbeats 2000000
/-! D layer 14e: a tuple turned round. -/
namespace L2.DL
open PySem PySem.Spec PyProof.Rows
section
variable {prog : Program} {w : World} {A : Around} {E : Value → Shared → Prop} {s : Shared}
theorem adjust_rev (n : Nat) : Builtin.Slice.sliceAdjust none none (-1) (n : Int) = ((n : Int) - 1, -1) := by
  unfold Builtin.Slice.sliceAdjust
  simp
theorem places_rev (n : Nat) : Builtin.Slice.slicePlaces ((n : Int) - 1) (-1) (-1) = n := by
  unfold Builtin.Slice.slicePlaces
  simp
  omega
theorem sliceApplied_rev {sl : Addr} {vl vu vs : Value} {n : Nat} {Q : Int × Int × Nat → Shared → Prop} (hs : s.heap.IsSliceOf sl vl vu vs) (pl : IsPart vl none) (pu : IsPart vu none) (ps : IsPart vs (some (-1)))
    (h : Q ((n : Int) - 1, -1, n) s) : wpAny (model prog w) A (Builtin.Slice.sliceApplied (.ref sl) (pure (n : Int))) Q E s := by
  obtain ⟨os, hos, hcs, hds⟩ := id hs
  unfold Builtin.Slice.sliceApplied Builtin.Slice.sliceFields
  refine wpAny_bind (wpAny_bind (wpAny_field hos hds (x := vl) rfl (wpAny_bind (wpAny_field hos hds (x := vu) rfl (wpAny_bind (wpAny_field hos hds (x := vs) rfl (wpAny_pure ?_)))))))
  refine wpAny_bind (HT.slicePart_ ps ?_)
  show wpAny _ _ (if ((-1 : Int) == 0) = true then _ else _) _ _ s
  rw [if_neg (by decide)]
  refine wpAny_bind (HT.slicePart_ pl (wpAny_bind (HT.slicePart_ pu (wpAny_bind (wpAny_pure ?_)))))
  show wpAny _ _ (match Builtin.Slice.sliceAdjust none none (-1) (n : Int) with | (lo, hi) => pure (lo, (-1 : Int), Builtin.Slice.slicePlaces lo hi (-1))) _ _ s
  rw [adjust_rev n]
  show wpAny _ _ (pure ((n : Int) - 1, (-1 : Int), Builtin.Slice.slicePlaces ((n : Int) - 1) (-1) (-1))) _ _ s
  rw [places_rev]
  exact wpAny_pure h
theorem pick_rev (xs : Array Value) : ((List.range xs.size).filterMap fun (m : Nat) => xs[(((xs.size : Nat) : Int) - 1 + (m : Int) * (-1)).toNat]?).toArray = xs.toList.reverse.toArray := by
  have e : (fun (m : Nat) => xs[(((xs.size : Nat) : Int) - 1 + (m : Int) * (-1)).toNat]?) = (fun k => xs[k]?) ∘ fun m => xs.size - 1 - m := by
    funext m
    have : (((xs.size : Nat) : Int) - 1 + (m : Int) * (-1)).toNat = xs.size - 1 - m := by omega
    rw [this]
    rfl
  rw [e, ← List.filterMap_map, PySem.W.krv_range, List.filterMap_reverse, PySem.W.krv_all]
theorem getItem_tuple_rev {t sl : Addr} {items : Array Value} {vl vu vs : Value} {Q : Value → Shared → Prop} (ht : IsTup s.heap t items) (hs : s.heap.IsSliceOf sl vl vu vs) (pl : IsPart vl none) (pu : IsPart vu none) (ps : IsPart vs (some (-1)))
    (h : Q (.ref s.heap.objs.size) { s with heap := s.heap.push { cls := .type "tuple", data := .seq items.toList.reverse.toArray } })
    (hsz : items.size ≤ sizeLine) : wpAny (model prog w) A (getItem (.ref t) (.ref sl)) Q E s := by
  have htake : sizeOk (.seq items.toList.reverse.toArray) := by
    show items.toList.reverse.toArray.size ≤ sizeLine
    rw [List.size_toArray, List.length_reverse, Array.length_toList]
    exact hsz
  obtain ⟨os, hos, hcs, hds⟩ := id hs
  have hTs : s.TypeIs (.ref sl) "slice" := ⟨os, hos, hcs⟩
  unfold getItem
  try with_reducible refine wpAny_holding ?_
  first | refine wpAny_bind (wpAny_pure ?_) | skip
  refine wpAny_bind (wpAny_sequenceKey ht.typeIs (by decide) ?_)
  refine wpAny_bind (wpAny_callSpecial?_slot (name := Str.ofString "__getitem__") ht.typeIs PyProof.Rows.slot_tuple_getitem
    (wpAny_call_entry PyProof.Rows.slot_tuple_getitem ht.typeIs entry_tuple_getitem ?_ (args_tuple_getitem _ _)))
  show wpAny _ _ (Builtin.Tuple.tupleItemsOf (.ref t) >>= _) _ _ s
  refine wpAny_bind (PyProof.Rows.tupleItemsOf_ ht ?_)
  refine wpAny_bind (wpAny_typeOf hTs ?_)
  rw [if_pos (by decide)]
  refine wpAny_bind (sliceApplied_rev hs pl pu ps ?_)
  have hno : ¬ (((((items.size : Nat) : Int) - 1) == 0 && (-1 : Int) == 1 && items.size == items.size) = true) := by
    intro q
    rw [Bool.and_eq_true, Bool.and_eq_true] at q
    exact absurd q.1.2 (by decide)
  show wpAny _ _ (if ((((items.size : Nat) : Int) - 1) == 0 && (-1 : Int) == 1 && items.size == items.size) = true then _ else _) _ _ s
  rw [if_neg hno, pick_rev]
  first
    | exact wpAny_bind (m := Builtin.Tuple.tupleExact _) (wpAny_newObj_type (wpAny_pure ⟨_, rfl, wpAny_pure h⟩) htake)
    | exact wpAny_bind (m := Builtin.Tuple.tupleExact _) (wpAny_newObj_type (wpAny_bind (wpAny_pure (wpAny_pure ⟨_, rfl, wpAny_pure h⟩))) htake)
    | exact wpAny_bind (wpAny_bind (m := Builtin.Tuple.tupleExact _) (wpAny_newObj_type (wpAny_pure (wpAny_pure ⟨_, rfl, wpAny_pure h⟩)) htake))
    | exact wpAny_bind (wpAny_bind (m := Builtin.Tuple.tupleExact _) (wpAny_newObj_type (wpAny_pure ⟨_, rfl, wpAny_pure h⟩) htake))
end
end L2.DL
namespace L2.DL
open PySem PySem.Spec PyProof.Rows
variable [TabL]
/-! ### e[::-1] of a tuple -/
def tRevT (K : PySem.W.Frag) (te : TE) : TE := fun σ H Q => te σ H fun x H1 => ∃ a xs, x = .ref a ∧ SqT K H1 a xs ∧ ∀ p, H1 p = none → Q (.ref p) (upd H1 p (.tup xs.reverse))
theorem pe_revT {X : Cx} {e : Expr} {te : TE} {k : Nat} {p1 p2 p3 pos : Pos} (he : PE X e te) : PE X (.Subscript e (.Slice none none (some (.UnaryOp .USub (.Constant (.int 1) k p1) p2)) p3) pos) (tRevT X.K te) := by
  refine ⟨fun pins s σ H Q I h => ?_⟩
  refine Subscript_ (thn (he.run pins s σ H _ I h) fun v s1 ⟨x, H1, I1, r1, q1⟩ => ?_)
  obtain ⟨a, xs, ex, hx, q⟩ := q1
  subst ex
  cases r1
  have hst : PO X (some (.UnaryOp .USub (.Constant (.int 1) k p1) p2)) (tPart (tUn (rU fun i => .int (-i)) (tC (.int 1)))) := po_some (pe_un un_neg pe_int)
  refine wpAny_Slice (thn (po_none.run pins s1 σ H1 (fun o H2 => o = none ∧ H2 = H1) I1 ⟨rfl, rfl⟩) fun vl s2 ⟨l, H2, I2, pl, el, e2⟩ => ?_)
  subst el e2
  refine thn (po_none.run pins s2 σ H2 (fun o H3 => o = none ∧ H3 = H2) I2 ⟨rfl, rfl⟩) fun vu s3 ⟨u, H3, I3, pu, eu, e3⟩ => ?_
  subst eu e3
  refine thn (hst.run pins s3 σ H3 (fun o H4 => o = some (-1) ∧ H4 = H3) I3 ⟨1, rfl, -1, rfl, rfl, rfl⟩) fun vs s4 ⟨o, H4, I4, ps, eo, e4⟩ => ?_
  subst eo e4
  have I5 : Inv X pins σ H4 { s4 with heap := s4.heap.push { cls := .type "slice", data := .fields #[vl, vu, vs] } } := I4.kept (t' := s4.toks) fun b ob q => Heap.get?_push_of_some _ q
  obtain ⟨its, r, ht, hz⟩ := I5.tuple hx
  have hlen := r.length
  show wpAny (model X.prog X.w) X.A (subscriptTail e (.Slice none none (some (.UnaryOp .USub (.Constant (.int 1) k p1) p2)) p3) (.ref a) (.ref s4.heap.objs.size)) (EP X pins σ Q) X.xe { s4 with heap := s4.heap.push { cls := .type "slice", data := .fields #[vl, vu, vs] } }
  refine tail_any (ops := [.ref a, .ref s4.heap.objs.size]) ht.typeIs (PyProof.Rows.slot_tuple_getitem.lookup) ?_ (by with_unfolding_all rfl)
  refine getItem_tuple_rev ht (Heap.IsSliceOf.new _ vl vu vs) pl pu ps ?_ (by rw [List.size_toArray]; omega)
  refine ⟨.ref _, _, I5.laid (t' := s4.toks) (o := .tup xs.reverse) (fun b ob q => Heap.get?_push_of_some _ q) (Nat.le_refl _) ?_, rfl, q _ (I5.hok.fresh (Nat.le_refl _))⟩
  exact ⟨by rw [List.length_reverse]; exact hz, _, r.reverse, IsTup.new _ _⟩
/-- e[::-1] -/
def gRev : D → Option D
  | .list xs => some (.list xs.reverse)
  | .tuple xs => some (.tuple xs.reverse)
  | _ => none
theorem pe_rev2 {X : Cx} {e : Expr} {te : TE} {k : Nat} {p1 p2 p3 pos : Pos} (he : PE X e te) : PE X (.Subscript e (.Slice none none (some (.UnaryOp .USub (.Constant (.int 1) k p1) p2)) p3) pos)
    (fun σ H Q => te σ H fun x H1 => (∃ a xs, x = .ref a ∧ SqL X.K H1 a xs ∧ ∀ p, H1 p = none → Q (.ref p) (upd H1 p (.lst xs.reverse))) ∨ ∃ a xs, x = .ref a ∧ SqT X.K H1 a xs ∧ ∀ p, H1 p = none → Q (.ref p) (upd H1 p (.tup xs.reverse))) := by
  refine ⟨fun pins s σ H Q I h => ?_⟩
  refine Subscript_ (thn (he.run pins s σ H _ I h) fun v s1 ⟨x, H1, I1, r1, q1⟩ => ?_)
  have hst : PO X (some (.UnaryOp .USub (.Constant (.int 1) k p1) p2)) (tPart (tUn (rU fun i => .int (-i)) (tC (.int 1)))) := po_some (pe_un un_neg pe_int)
  refine wpAny_Slice (thn (po_none.run pins s1 σ H1 (fun o H2 => o = none ∧ H2 = H1) I1 ⟨rfl, rfl⟩) fun vl s2 ⟨l, H2, I2, pl, el, e2⟩ => ?_)
  subst el e2
  refine thn (po_none.run pins s2 σ H2 (fun o H3 => o = none ∧ H3 = H2) I2 ⟨rfl, rfl⟩) fun vu s3 ⟨u, H3, I3, pu, eu, e3⟩ => ?_
  subst eu e3
  refine thn (hst.run pins s3 σ H3 (fun o H4 => o = some (-1) ∧ H4 = H3) I3 ⟨1, rfl, -1, rfl, rfl, rfl⟩) fun vs s4 ⟨o, H4, I4, ps, eo, e4⟩ => ?_
  subst eo e4
  have I5 : Inv X pins σ H4 { s4 with heap := s4.heap.push { cls := .type "slice", data := .fields #[vl, vu, vs] } } := I4.kept (t' := s4.toks) fun b ob q => Heap.get?_push_of_some _ q
  rcases q1 with ⟨a, xs, rfl, hx, q⟩ | ⟨a, xs, rfl, hx, q⟩
  · cases r1
    obtain ⟨its, r, ht, hz⟩ := I5.list hx
    have hlen := r.length
    show wpAny (model X.prog X.w) X.A (subscriptTail e (.Slice none none (some (.UnaryOp .USub (.Constant (.int 1) k p1) p2)) p3) (.ref a) (.ref s4.heap.objs.size)) (EP X pins σ Q) X.xe { s4 with heap := s4.heap.push { cls := .type "slice", data := .fields #[vl, vu, vs] } }
    refine tail_any (ops := [.ref a, .ref s4.heap.objs.size]) ht.isList.typeIs (PySem.slot_list_getitem.lookup) ?_ (by with_unfolding_all rfl)
    refine wpAny_getItem_list_slice ht.isList (Heap.IsSliceOf.new _ vl vu vs) pl pu ps (by decide) ?_ (by rw [List.size_toArray]; omega)
    rw [PySem.W.krv_pick]
    refine ⟨.ref _, _, I5.laid (t' := s4.toks) (o := .lst xs.reverse) (fun b ob q => Heap.get?_push_of_some _ q) (Nat.le_refl _) ?_, rfl, q _ (I5.hok.fresh (Nat.le_refl _))⟩
    exact ⟨by rw [List.length_reverse]; exact hz, _, 0, r.reverse, Heap.get?_push_size _ rfl⟩
  · cases r1
    obtain ⟨its, r, ht, hz⟩ := I5.tuple hx
    have hlen := r.length
    show wpAny (model X.prog X.w) X.A (subscriptTail e (.Slice none none (some (.UnaryOp .USub (.Constant (.int 1) k p1) p2)) p3) (.ref a) (.ref s4.heap.objs.size)) (EP X pins σ Q) X.xe { s4 with heap := s4.heap.push { cls := .type "slice", data := .fields #[vl, vu, vs] } }
    refine tail_any (ops := [.ref a, .ref s4.heap.objs.size]) ht.typeIs (PyProof.Rows.slot_tuple_getitem.lookup) ?_ (by with_unfolding_all rfl)
    refine getItem_tuple_rev ht (Heap.IsSliceOf.new _ vl vu vs) pl pu ps ?_ (by rw [List.size_toArray]; omega)
    refine ⟨.ref _, _, I5.laid (t' := s4.toks) (o := .tup xs.reverse) (fun b ob q => Heap.get?_push_of_some _ q) (Nat.le_refl _) ?_, rfl, q _ (I5.hok.fresh (Nat.le_refl _))⟩
    exact ⟨by rw [List.length_reverse]; exact hz, _, r.reverse, IsTup.new _ _⟩
theorem de_rev {X : Cx} {E : XK} {C : Addr} {e : Expr} {k : Nat} {p1 p2 p3 pos : Pos} {f : Ev D} (h : DK X E C e f) : DE X E C (.Subscript e (.Slice none none (some (.UnaryOp .USub (.Constant (.int 1) k p1) p2)) p3) pos) (ev1 gRev f) := by
  obtain ⟨t, p, r⟩ := h
  refine ⟨_, pe_rev2 p, fun ad da Hc H σ env s Q er q => r ad da Hc H σ env s _ er (Post.bind q fun d s1 _ v Hc1 H1 n1 e1 pp q1 => ?_)⟩
  have pk := PkV.pk pp e1
  cases d with
  | list ds =>
    obtain ⟨a, ws, rfl, w1, w2⟩ := pk.list e1.sub
    exact .inl ⟨a, ws, rfl, SqL.of w1, fun p hp => q1 _ _ _ (Al.new e1.sub hp).nx (e1.new hp) (.lst upd_same ((Sub.upd (e1.sub.none hp)).dvAll w2).reverse)⟩
  | tuple ds =>
    obtain ⟨a, ws, rfl, w1, w2⟩ := pk.tuple e1.sub
    exact .inr ⟨a, ws, rfl, w1, fun p hp => q1 _ _ _ (Al.new e1.sub hp).nx (e1.new hp) (.tup (SqT.of upd_same) ((Sub.upd (e1.sub.none hp)).dvAll w2).reverse)⟩
  | none => exact q1.elim
  | bool _ => exact q1.elim
  | int _ => exact q1.elim
  | str _ => exact q1.elim
  | dict _ => exact q1.elim
end L2.DL

set_option Elab.async false
set_option linter.all false
set_option maxRecDepth 100000
set_option maxHeartbeats 2000000
/-! D layer 14f: more that changes a list of one's own. -/
namespace L2.DL
open PySem PySem.Spec PyProof.Rows
variable [TabL]
/-- with a list's items behind its own -/
def fExt (d : D) (xs : List D) : Option (List D) := match d with
  | .list ys => if fitB (xs.length + ys.length) then some (xs ++ ys) else none
  | _ => none
/-- the item at a place, and the others -/
def popD (ys : List D) : D → Option (D × List D)
  | .int n => (ixN ys.length n).bind fun q => if decide (-(2 ^ 63) ≤ n) && decide (n < 2 ^ 63) then (ys[q]?).map fun d => (d, ys.eraseIdx q) else none
  | _ => none
section
variable {X : Cx} {E : XK} {C : Addr} {e a b c o : Expr} {es : List Expr} {pos apos cpos p0 apos2 cpos2 p2 : Pos} {st : Stmt} {rest : List Stmt} {i j : Nat} {x y : Str}
theorem ds_extend {fe : Ev DL.D} (hN : X.N[i]? = some x) (hv : Vis X.env.scope x) (hd : (x == ("__debug__" : Str)) = false) (hcd : (x == ("__classdict__" : Str)) = false) (he : DE X E C a fe) (ok : MethOk X a [] (.Name x p0) "extend" apos cpos)
    (hsw : swapsWith (.Call (.Attribute (.Name x p0) "extend" apos) [a] [] cpos) none pos.line X.env = pure false) : DS X E C (.Expr (.Call (.Attribute (.Name x p0) "extend" apos) [a] [] cpos) pos) (sMeth1 fExt i fe) :=
  ds_meth1 F.slot_list_extend F.type_list_extend mt_extend (fun Hc H l vs y xs ys d Q h1 h2 h3 h4 h5 q => by
    unfold fExt at h5
    split at h5
    · rename_i zs
      split at h5
      · rename_i hf
        cases h5
        have := fitB_le hf
        obtain ⟨p, ws, rfl, e1, e2⟩ := (show Pk X.K Hc H y (.list zs) from .inl h4).list h3
        exact ⟨l, p, vs, ws, rfl, rfl, h1, e1, by rw [h2.length, e2.length]; omega, q _ (h2.append e2)⟩
      · cases h5
    · cases h5) hN hv hd hcd he ok hsw
/-- xs.append(ys.pop(e)) -/
def sAppPop (i j : Nat) (fe : Ev D) : Sf := fun k _ _ env s => onLst i env fun xs => onLst j env fun ys => if i = j then .stuck else (fe env s).bind fun p => (R.ofO (popD ys p.1)).bind fun q => (R.ofO (fApp q.1 xs)).bind fun zs => k ((env.set j (.lst false q.2)).set i (.lst false zs)) p.2
theorem ds_appPop {fe : Ev DL.D} (hN : X.N[i]? = some x) (hv : Vis X.env.scope x) (hd : (x == ("__debug__" : Str)) = false) (hcd : (x == ("__classdict__" : Str)) = false)
    (hN2 : X.N[j]? = some y) (hv2 : Vis X.env.scope y) (hd2 : (y == ("__debug__" : Str)) = false) (hcd2 : (y == ("__classdict__" : Str)) = false) (he : DE X E C a fe)
    (ok : MethOk X (.Call (.Attribute (.Name y p2) "pop" apos2) [a] [] cpos2) [] (.Name x p0) "append" apos cpos) (ok2 : MethOk X a [] (.Name y p2) "pop" apos2 cpos2)
    (hsw : swapsWith (.Call (.Attribute (.Name x p0) "append" apos) [.Call (.Attribute (.Name y p2) "pop" apos2) [a] [] cpos2] [] cpos) none pos.line X.env = pure false) :
    DS X E C (.Expr (.Call (.Attribute (.Name x p0) "append" apos) [.Call (.Attribute (.Name y p2) "pop" apos2) [a] [] cpos2] [] cpos) pos) (sAppPop i j fe) := by
  obtain ⟨te, pe, re⟩ := he
  have pp := pe_bm F.plainAttrs_list F.slot_list_pop F.type_list_pop mt_popAt (pe_var (pos := p2) hN2 hv2 hd2 hcd2) (pa_cons pe pa_nil ok2.hs) ok2.hbase ok2.hfew ok2.hline ok2.hs ok2.hplain
  refine ⟨_, ps_expr (pe_bm F.plainAttrs_list F.slot_list_append F.type_list_append mt_append (pe_var hN hv hd hcd) (pa_cons pp pa_nil ok.hs) ok.hbase ok.hfew ok.hline ok.hs ok.hplain) hsw, fun en Lk k kb kc rr D σ H env s sr e G => ?_⟩
  obtain ⟨ad, Hc, x0⟩ := sr
  unfold sAppPop at e
  rcases onLst_or i env (fun xs => onLst j env fun ys => if i = j then .stuck else (fe env s).bind fun p => (R.ofO (popD ys p.1)).bind fun q => (R.ofO (fApp q.1 xs)).bind fun zs => k ((env.set j (.lst false q.2)).set i (.lst false zs)) p.2) with ⟨xs, hx, e2⟩ | e2
  · rcases onLst_or j env (fun ys => if i = j then .stuck else (fe env s).bind fun p => (R.ofO (popD ys p.1)).bind fun q => (R.ofO (fApp q.1 xs)).bind fun zs => k ((env.set j (.lst false q.2)).set i (.lst false zs)) p.2) with ⟨ys, hy, e3⟩ | e3
    · have e' := (e3.symm.trans (e2.symm.trans e))
      have hij : i ≠ j := fun z => by
        rw [if_pos z] at e'
        exact G.ns e'.symm
      rw [if_neg hij] at e'
      obtain ⟨ws, q1, q2, q3, q4⟩ := x0.er.slot i _ hx
      refine ⟨_, q1, .inl ⟨rfl, ws, SqL.of q2⟩, ?_⟩
      obtain ⟨us, r1, r2, r3, r4⟩ := x0.er.slot j _ hy
      refine ⟨_, r1, .inl ⟨rfl, us, SqL.of r2⟩, ?_⟩
      refine G.ev (t := te) re x0 e' fun d s1 v Hc1 H1 x1 n1 p1 h => ?_
      obtain ⟨us1, r5, r6, r7, r8⟩ := x1.er.slot j _ hy
      have h' : (R.ofO (popD ys d)).bind (fun q => (R.ofO (fApp q.1 xs)).bind fun zs => k ((env.set j (.lst false q.2)).set i (.lst false zs)) s1) = rr := h
      cases ho : popD ys d with
      | none => rw [ho] at h'; exact (G.ns h'.symm).elim
      | some q =>
        rw [ho] at h'
        have h2 : (R.ofO (fApp q.1 xs)).bind (fun zs => k ((env.set j (.lst false q.2)).set i (.lst false zs)) s1) = rr := h'
        cases hz : fApp q.1 xs with
        | none => rw [hz] at h2; exact (G.ns h2.symm).elim
        | some zs =>
          rw [hz] at h2
          unfold popD at ho
          split at ho
          · rename_i n
            cases hq : ixN ys.length n with
            | none => rw [hq] at ho; cases ho
            | some qq =>
              rw [hq] at ho
              have ho : (if decide (-(2 ^ 63) ≤ n) && decide (n < 2 ^ 63) then (ys[qq]?).map fun d => (d, ys.eraseIdx qq) else none) = some q := ho
              split at ho
              · rename_i hb
                simp only [Bool.and_eq_true, decide_eq_true_eq] at hb
                cases hg : ys[qq]? with
                | none => rw [hg] at ho; cases ho
                | some dd =>
                  rw [hg] at ho
                  cases ho
                  cases p1
                  obtain ⟨vv, g1, g2⟩ := r7.get hg
                  have hl := r7.length
                  refine ⟨_, us1, n, qq, vv, rfl, rfl, r6, hb.1, hb.2, by rw [hl]; exact (ixN_seq hq).1, g1, ?_⟩
                  have x2 := x1.relst hy (r7.eraseIdx qq)
                  have hx2 : (env.set j (.lst false (ys.eraseIdx qq)))[i]? = some (.lst false xs) := by rw [List.getElem?_set_ne (Ne.symm hij)]; exact hx
                  obtain ⟨ws2, t1, t2, t3, t4⟩ := x2.er.slot i _ hx2
                  unfold fApp at hz
                  split at hz
                  · rename_i hf
                    cases hz
                    have := fitB_le hf
                    exact ⟨_, ws2, vv, rfl, rfl, t2, by rw [t3.length]; omega, G.nx _ s1 σ _ ⟨_, _, x2.relst hx2 (t3.append (.cons g2 .nil))⟩ h2⟩
                  · cases hz
              · cases ho
          · cases ho
    · exact (G.ns (e.symm.trans (e2.trans e3))).elim
  · exact (G.ns (e.symm.trans e2)).elim
/-- xs[i], a list's item by values -/
def rGetL : V → V → Hp → VK → Prop := fun o i H Q => ∃ p xs k v, o = .ref p ∧ i = .int k ∧ H p = some (.lst xs) ∧ 0 ≤ k ∧ k < 2 ^ 63 ∧ xs[k.toNat]? = some v ∧ Q v H
theorem get_list : PGet X rGetL := by
  intro pins s σ H o i ov iv Q I ro ri h
  obtain ⟨p, xs, k, v, rfl, rfl, hp, h0, h1, hv, q⟩ := h
  cases ro
  obtain ⟨t, rfl⟩ := ri
  obtain ⟨its, r, pl, hz⟩ := I.list (SqL.of hp)
  obtain ⟨w, ew, rw'⟩ := r.get hv
  exact wpAny_getItem_list pl.isList h0 h1 (by simpa using ew) ⟨v, H, I, rw', q⟩
/-- xs[a] op= e, ints -/
def sAugIx (g : DL.D → DL.D → Option DL.D) (i : Nat) (fa fe : Ev DL.D) : Sf := fun k _ _ env s => onLst i env fun xs => (fa env s).bind fun p => match p.1 with
  | .int n => if decide (0 ≤ n) && decide (n < 2 ^ 63) then (R.ofO xs[n.toNat]?).bind fun old => (fe env p.2).bind fun q => (R.ofO (g old q.1)).bind fun z => (R.ofO (fSet (.int n) z xs)).bind fun ys => k (env.set i (.lst false ys)) q.2 else .stuck
  | _ => .stuck
theorem ds_augIx {op : Operator} {r : R2} {g : DL.D → DL.D → Option DL.D} {fa fe : Ev DL.D} {pos' : Pos} (ho : PIp X op r) (hr : OpD X.K r g) (hN : X.N[i]? = some x) (hv : Vis X.env.scope x) (hd : (x == ("__debug__" : Str)) = false) (hcd : (x == ("__classdict__" : Str)) = false)
    (ha : DE X E C a fa) (he : DE X E C e fe) (hst : ∀ ov iv new, augStore a ov iv new = (do holding [new, ov, iv] (setItem ov iv new); release [new, ov, iv] []; pure .next)) :
    DS X E C (.AugAssign (.Subscript (.Name x p0) a pos') op e pos) (sAugIx g i fa fe) := by
  obtain ⟨ta, pa, ra⟩ := ha
  obtain ⟨te, pe, re⟩ := he
  refine ⟨_, ps_augS (pe_var hN hv hd hcd) pa get_list pe ho set_list hst, fun en Lk k kb kc rr D σ H env s sr e G => ?_⟩
  obtain ⟨ad, Hc, x0⟩ := sr
  rcases onLst_or i env (fun xs => (fa env s).bind fun p => match p.1 with
    | .int n => if decide (0 ≤ n) && decide (n < 2 ^ 63) then (R.ofO xs[n.toNat]?).bind fun old => (fe env p.2).bind fun q => (R.ofO (g old q.1)).bind fun z => (R.ofO (fSet (.int n) z xs)).bind fun ys => k (env.set i (.lst false ys)) q.2 else .stuck
    | _ => .stuck) with ⟨xs, hx, e2⟩ | e2
  · have e' := e2.symm.trans e
    obtain ⟨ws, q1, q2, q3, q4⟩ := x0.er.slot i _ hx
    refine ⟨_, q1, ?_⟩
    refine G.ev ra x0 e' fun d s1 v Hc1 H1 x1 n1 p1 h => ?_
    dsimp only at h
    split at h
    · rename_i n
      split at h
      · rename_i hb
        simp only [Bool.and_eq_true, decide_eq_true_eq] at hb
        cases p1
        obtain ⟨ws1, q5, q6, q7, q8⟩ := x1.er.slot i _ hx
        cases hg : xs[n.toNat]? with
        | none => rw [hg] at h; exact (G.ns h.symm).elim
        | some old =>
          rw [hg] at h
          have h : (fe env s1).bind (fun q => (R.ofO (g old q.1)).bind fun z => (R.ofO (fSet (.int n) z xs)).bind fun ys => k (env.set i (.lst false ys)) q.2) = rr := h
          obtain ⟨vv, g1, g2⟩ := q7.get hg
          refine ⟨_, ws1, n, vv, rfl, rfl, q6, hb.1, hb.2, g1, ?_⟩
          refine G.ev re x1 h fun d2 s2 v2 Hc2 H2 x2 n2 p2 h2 => ?_
          have h2 : (R.ofO (g old d2)).bind (fun z => (R.ofO (fSet (.int n) z xs)).bind fun ys => k (env.set i (.lst false ys)) s2) = rr := h2
          cases hz : g old d2 with
          | none => rw [hz] at h2; exact (G.ns h2.symm).elim
          | some z =>
            rw [hz] at h2
            have h2 : (R.ofO (fSet (.int n) z xs)).bind (fun ys => k (env.set i (.lst false ys)) s2) = rr := h2
            cases hs : fSet (.int n) z xs with
            | none => rw [hs] at h2; exact (G.ns h2.symm).elim
            | some ys =>
              rw [hs] at h2
              have h2 : k (env.set i (.lst false ys)) s2 = rr := h2
              refine hr Hc2 H2 vv v2 old d2 z _ x2.er.sub (.inl (n2.sub.dv g2)) (.inl p2) hz fun w Hc' H' al hd => ?_
              have e3 := al.er x2.er
              have x3 := x2.ev al.nx e3
              obtain ⟨ws3, t5, t6, t7, t8⟩ := x3.er.slot i _ hx
              have hs : (ixN xs.length n).map (fun j => xs.set j z) = some ys := hs
              cases hj : ixN xs.length n with
              | none => rw [hj] at hs; cases hs
              | some j =>
                rw [hj] at hs
                cases hs
                exact ⟨_, ws3, n, j, rfl, rfl, t6, by rw [t7.length]; exact hj, G.nx _ s2 σ _ ⟨_, _, x3.relst hx (t7.set j hd)⟩ h2⟩
      · exact (G.ns h.symm).elim
    · exact (G.ns h.symm).elim
  · exact (G.ns (e.symm.trans e2)).elim
end
end L2.DL

set_option Elab.async false
set_option linter.all false
set_option maxRecDepth 100000
set_option maxHeartbeats 2000000
/-! D layer 14g: sorted(xs) of a list of data. -/
namespace L2.DL
open PySem PySem.Spec PyProof.Rows
variable [TabL]
def tup1 : D → Bool
  | .tuple (_ :: _) => true
  | _ => false
def noTup : D → Bool
  | .none => false
  | .tuple _ => false
  | _ => true
/-- can they be sorted -/
def sortB (ds : List D) : Bool := ds.all (fun d => ds.all fun e => PySem.W.alike d e) && (ds.all tup1 || ds.all noTup) && ds.all (dep 40) && fitB ds.length
/-- the order of data -/
def leD (d e : D) : Bool := PySem.W.dataLe false (fun d : D => d) d e
def gSorted : List D → Option D
  | [.list ds] => if sortB ds then some (.list (ds.mergeSort leD)) else none
  | [.tuple ds] => if sortB ds then some (.list (ds.mergeSort leD)) else none
  | _ => none
def rSortedD (K : PySem.W.Frag) : List V → Hp → VK → Prop := fun vs H Q => ∃ (a : Addr) (ws : List V) (ds : List D), vs = [V.ref a] ∧ (SqL K H a ws ∨ SqT K H a ws) ∧ DpAll K H ws ds ∧ sortB ds = true ∧
  ∀ (p : Addr), H p = none → Q (.ref p) (upd H p (.lst (((ws.zip ds).mergeSort (PySem.W.dataLe false fun q : V × D => q.2)).map (·.1))))
theorem each_of {σ : St} {pins : List (Addr × Obj)} {X : Cx} {H : Hp} {s : Shared} (I : Inv X pins σ H s) : ∀ {ws : List V} {ds : List D} {us : List Value}, Vals ws us → DpAll X.K H ws ds → PySem.W.EachIs (fun (v : Value) (q : V × D) => RelV q.1 v) us (ws.zip ds) ∧ PySem.W.EachIs (fun (v : Value) (q : V × D) => ∃ as, Reads s.heap v q.2 as) us (ws.zip ds)
  | _, _, _, .nil, h => by cases h; exact ⟨.nil, .nil⟩
  | _, _, _, .cons r rs, h => by
    cases h with
    | cons h1 h2 =>
      obtain ⟨a, b⟩ := each_of I rs h2
      exact ⟨.cons r a, .cons (Dp.reads I _ _ _ h1 r) b⟩
theorem vals_of {zs : List (V × D)} : ∀ {us : List Value}, PySem.W.EachIs (fun (v : Value) (q : V × D) => RelV q.1 v) us zs → Vals (zs.map (·.1)) us := by
  induction zs with
  | nil => intro us h; cases h; exact .nil
  | cons z zs ih => intro us h; cases h with | cons a b => exact .cons a (ih b)
theorem dpLen {K : PySem.W.Frag} {H : Hp} : ∀ {ws : List V} {ds : List D}, DpAll K H ws ds → ws.length = ds.length
  | _, _, .nil => rfl
  | _, _, .cons _ h => by rw [List.length_cons, List.length_cons, dpLen h]
theorem zip_snd {α β : Type} : ∀ {xs : List α} {ys : List β}, xs.length = ys.length → (xs.zip ys).map (·.2) = ys
  | [], [], _ => rfl
  | x :: xs, y :: ys, h => by
    rw [List.zip_cons_cons, List.map_cons, zip_snd (by simpa using h)]
  | [], _ :: _, h => by cases h
  | _ :: _, [], h => by cases h
theorem dvAll_pairs {K : PySem.W.Frag} {H : Hp} : ∀ {zs : List (V × D)}, (∀ z ∈ zs, Dv K H z.1 z.2) → DvAll K H (zs.map (·.1)) (zs.map (·.2))
  | [], _ => .nil
  | z :: zs, h => .cons (h z (List.mem_cons_self ..)) (dvAll_pairs fun y hy => h y (List.mem_cons_of_mem _ hy))
theorem dvAll_zip {K : PySem.W.Frag} {H : Hp} : ∀ {ws : List V} {ds : List D}, DvAll K H ws ds → ∀ z ∈ ws.zip ds, Dv K H z.1 z.2
  | _, _, .nil => fun _ h => nomatch h
  | _, _, .cons a b => fun z hz => by
    rcases List.mem_cons.mp hz with rfl | hz
    · exact a
    · exact dvAll_zip b z hz
theorem sorted_pairs {K : PySem.W.Frag} {H : Hp} {ws : List V} {ds : List D} (h : DvAll K H ws ds) : DvAll K H (((ws.zip ds).mergeSort (PySem.W.dataLe false fun q : V × D => q.2)).map (·.1)) (ds.mergeSort leD) := by
  have e : ((ws.zip ds).mergeSort (PySem.W.dataLe false fun q : V × D => q.2)).map (·.2) = ds.mergeSort leD := by
    refine (List.map_mergeSort (r := PySem.W.dataLe false fun q : V × D => q.2) (s := leD) (f := fun q : V × D => q.2) (l := ws.zip ds) fun a _ b _ => rfl).trans ?_
    rw [zip_snd h.length]
  rw [← e]
  refine dvAll_pairs fun z hz => dvAll_zip h z ?_
  exact (List.mergeSort_perm _ _).mem_iff.mp hz
theorem d_sorted {K : PySem.W.Frag} : CallD K (rSortedD K) gSorted := by
  intro Hc H vs ds z Q s hx hz q
  unfold gSorted at hz
  split at hz
  · split at hz
    · rename_i hb
      cases hz
      obtain ⟨v, rfl, hp⟩ := hx.one
      obtain ⟨a, ws, rfl, h1, h2⟩ := hp.list s
      exact ⟨a, ws, _, rfl, .inl (SqL.of h1), (s.dvAll h2).dp, hb, fun p hp => q _ _ _ (.new s hp) (.lst upd_same ((Sub.upd (s.none hp)).dvAll (sorted_pairs h2)))⟩
    · cases hz
  · split at hz
    · rename_i hb
      cases hz
      obtain ⟨v, rfl, hp⟩ := hx.one
      obtain ⟨a, ws, rfl, h1, h2⟩ := hp.tuple s
      exact ⟨a, ws, _, rfl, .inr h1, (s.dvAll h2).dp, hb, fun p hp => q _ _ _ (.new s hp) (.lst upd_same ((Sub.upd (s.none hp)).dvAll (sorted_pairs h2)))⟩
    · cases hz
  · cases hz
/-- .. kept by its maker -/
theorem f_sorted {K : PySem.W.Frag} : CallF K (rSortedD K) gSorted := by
  intro Hc H vs ds zs Q s hx hz q
  unfold gSorted at hz
  split at hz
  · split at hz
    · rename_i hb
      cases hz
      obtain ⟨v, rfl, hp⟩ := hx.one
      obtain ⟨a, ws, rfl, h1, h2⟩ := hp.list s
      exact ⟨a, ws, _, rfl, .inl (SqL.of h1), (s.dvAll h2).dp, hb, fun p hp => q p _ hp (sorted_pairs h2)⟩
    · cases hz
  · split at hz
    · rename_i hb
      cases hz
      obtain ⟨v, rfl, hp⟩ := hx.one
      obtain ⟨a, ws, rfl, h1, h2⟩ := hp.tuple s
      exact ⟨a, ws, _, rfl, .inr h1, (s.dvAll h2).dp, hb, fun p hp => q p _ hp (sorted_pairs h2)⟩
    · cases hz
  · cases hz
end L2.DL

set_option Elab.async false
set_option linter.all false
set_option maxRecDepth 100000
set_option maxHeartbeats 2000000
/-! D layer 14h: sorted(xs) of a list or a tuple of data. -/
namespace L2.DL
open PySem PySem.Spec PyProof.Rows PySem.Calls
variable [TabL]
section
variable {prog : Program} {w : World} {A : Around} {E : Value → Shared → Prop} {s : Shared}
/-- collecting a list's or a tuple's items: the heap behind -/
theorem collect_at {P : List Value → Shared → Prop} {q : Addr} {T : String} {ob : Obj} {xs : Array Value} {m : Nat} (hT : T = "list" ∨ T = "tuple") (h1 : s.heap.get? q = some ob) (h2 : ob.cls = .type T) (h3 : ob.data = .seq xs m) (h4 : xs.size ≤ sizeLine)
    (hP : P xs.toList { s with heap := (s.heap.push { cls := .type "list", data := .seq ([] : List Value).toArray }).update s.heap.objs.size (Obj.mapSeq (· ++ xs)) }) : wpAny (model prog w) A (collect (.ref q)) P E s := by
  have at0 : (s.heap.push { cls := .type "list", data := .seq ([] : List Value).toArray }).get? s.heap.objs.size = some (seqObj "list" #[] 0) := Heap.get?_push_size _ rfl
  have at1 := Heap.get?_update_self (Obj.mapSeq (· ++ xs)) at0 rfl
  have last : wpAny (model prog w) A (match Value.ref s.heap.objs.size with
      | Value.ref a => do
        match (← load a).data with
          | Data.seq ys _ => pure ys.toList
          | _ => unsupported "internal:collect"
      | _ => unsupported "internal:collect") P E { s with heap := (s.heap.push { cls := .type "list", data := .seq ([] : List Value).toArray }).update s.heap.objs.size (Obj.mapSeq (· ++ xs)) } :=
    wpAny_bind (wpAny_load at1 (wpAny_pure (by
      show P ((#[] : Array Value) ++ xs).toList _
      rw [show ((#[] : Array Value) ++ xs).toList = xs.toList by simp]
      exact hP)))
  unfold collect
  refine wpAny_bind (wpAny_runValue (codeAny_builtin F.entry_proto_collect ?_)); rw [Around.under_plainId F.plain_proto_collect _]
  show wpAny _ A.in1 (newList [] >>= fun v => again (.builtin "list.__iadd__" ⟨[v, .ref q], []⟩)) _ _ s
  refine wpAny_bind (wpAny_newObj_type (wpAny_pure ⟨plainId_quiet F.plain_list_iadd _, codeAny_builtin F.entry_list_iadd ?_⟩))
  rw [Around.under_plainId F.plain_list_iadd _]
  refine wpAny_mono (wpAny_extend_seq (hsz := h4) (A := A) (R := fun r s' => r = .ok (.ret (.ref s.heap.objs.size)) ∧ s' = { s with heap := (s.heap.push { cls := .type "list", data := .seq ([] : List Value).toArray }).update s.heap.objs.size (Obj.mapSeq (· ++ xs)) }) (s := { s with heap := s.heap.push { cls := .type "list", data := .seq ([] : List Value).toArray } }) _ q _ 0 hT at0 (Heap.get?_push_of_some _ h1) h2 h3 ⟨rfl, rfl⟩) (fun fin s' z => ?_) fun _ _ z => absurd z.1 (by simp)
  cases fin with
  | done f => obtain ⟨y, rfl⟩ := z; cases y; exact last
  | again c => exact ⟨z.1, codeAny_mono z.2 fun r s'' y => by obtain ⟨rfl, rfl⟩ := y; exact last⟩
theorem sorted_any {β : Type} {R : Value → β → Prop} {enc : β → PyData} {l : Addr} {T : String} {o : Obj} {its : List Value} {bs : List β} {n : Nat} {Q : Value → Shared → Prop} (hT : T = "list" ∨ T = "tuple") (ho : s.heap.get? l = some o) (hc : o.cls = .type T) (hd : o.data = .seq its.toArray n)
    (e : PySem.W.EachIs R its bs) (er : PySem.W.EachIs (fun v b => ∃ as, Reads s.heap v (enc b) as) its bs) (hal : PySem.W.AllAlike (bs.map enc)) (hk : PySem.W.Sortable (bs.map enc)) (hL : its.length ≤ sizeLine) (hu : ∀ b, b ∈ bs → A.units + 2 + (enc b).depth < cLine)
    (h : ∀ (out : List Value) (h' : Heap) (a : Addr) (ep : Nat), out.length = its.length → PySem.W.EachIs R out (bs.mergeSort (PySem.W.dataLe false enc)) → (∀ b ob, s.heap.get? b = some ob → h'.get? b = some ob) → s.heap.objs.size ≤ a → h'.get? a = some { cls := .type "list", data := .seq out.toArray ep } → Q (.ref a) { s with heap := h' }) :
    wpAny (model prog w) A (call (.builtin "sorted") [.ref l]) Q E s := by
  refine call_function_entry PyProof.Rows.kind_sorted PyProof.Rows.plain_sorted PyProof.Rows.entry_sorted (PyProof.Rows.args_sorted1 _) ?_
  unfold Builtin.«sorted»
  refine wpAny_bind (m := checkCount "sorted" 1 1 _) (wpAny_pure ?_)
  refine wpAny_bind (collect_at hT ho hc hd (by rw [List.size_toArray]; exact hL) ?_)
  obtain ⟨h1, hh1⟩ : ∃ h1, h1 = (s.heap.push { cls := .type "list", data := .seq ([] : List Value).toArray }).update s.heap.objs.size (Obj.mapSeq (· ++ its.toArray)) := ⟨_, rfl⟩
  have hz : s.heap.objs.size ≤ h1.objs.size := by rw [hh1, Heap.size_update, size_push']; omega
  have k1 : ∀ b ob, s.heap.get? b = some ob → h1.get? b = some ob := fun b ob q => by
    rw [hh1, Heap.get?_update_other _ _ (Nat.ne_of_gt (Heap.lt_size q))]
    exact Heap.get?_push_of_some _ q
  rw [← hh1]
  refine wpAny_bind (wpAny_newList ?_ (by simpa using hL))
  have at1 : (h1.push { cls := .type "list", data := .seq its.toArray }).get? h1.objs.size = some (seqObj "list" its.toArray 0) := Heap.get?_push_size _ rfl
  have k2 : ∀ b ob, s.heap.get? b = some ob → (h1.push { cls := .type "list", data := .seq its.toArray }).get? b = some ob := fun b ob q => Heap.get?_push_of_some _ (k1 b ob q)
  have er2 : PySem.W.EachIs (fun v b => ∃ as, Reads (PySem.W.sortingHeap (h1.push { cls := .type "list", data := .seq its.toArray }) h1.objs.size its) v (enc b) as) its bs := er.mono fun _ _ ⟨as, r⟩ => ⟨as, PyProof.Rows.Reads.keeps (fun b ob q => PySem.W.sortingHeap_old (fun z => by subst z; exact (Nat.lt_irrefl _ (Heap.lt_size (k1 _ _ q))).elim) (k2 b ob q)) r⟩
  have S : PySem.W.SortsAt prog w A.in1.in1 { heap := PySem.W.sortingHeap (h1.push { cls := .type "list", data := .seq its.toArray }) h1.objs.size its, gens := s.gens, drawn := s.drawn, toks := s.toks, os := s.os } (PySem.W.dataKind (PySem.W.sortingHeap (h1.push { cls := .type "list", data := .seq its.toArray }) h1.objs.size its) (bs.map enc)) its :=
    PySem.W.SortsAt.data (PySem.W.each_map (R := fun v d => ∃ as, Reads (PySem.W.sortingHeap (h1.push { cls := .type "list", data := .seq its.toArray }) h1.objs.size its) v d as) enc er2) hal hk (PySem.W.bound_map hu)
  have hs := PySem.W.sortVals_data false e er2 hal
  have hsl := (PySem.W.sortVals_length (κ := PySem.W.dataKind (PySem.W.sortingHeap (h1.push { cls := .type "list", data := .seq its.toArray }) h1.objs.size its) (bs.map enc)) (ks := its) (vs := its) false rfl)
  refine wpAny_bind (wpAny_holding (PyProof.Rows.wpAny_call_entry_kw PyProof.Rows.slot_list_sort ⟨_, at1, rfl⟩ PyProof.Rows.entry_list_sort ?srt (PyProof.Rows.args_list_sort _)))
  case srt =>
    refine PySem.W.list_sort_vals at1 S hL ?_
    obtain ⟨ep, hat⟩ := PyProof.Rows.sortedHeap_at (out := (PySem.W.sortVals (PySem.W.dataKind (PySem.W.sortingHeap (h1.push { cls := .type "list", data := .seq its.toArray }) h1.objs.size its) (bs.map enc)) false its its).toArray) at1
    refine ⟨_, rfl, wpAny_pure ⟨_, rfl, ?_⟩⟩
    refine h _ _ _ ep hsl hs (fun b ob q => ?_) hz hat
    rw [PyProof.Rows.sortedHeap_old (fun z => by subst z; exact (Nat.lt_irrefl _ (Heap.lt_size (k1 _ _ q))).elim) (Heap.lt_size (k2 b ob q))]
    exact k2 b ob q
end
theorem cr_sortedD {X : Cx} (hu : X.A.units + 64 < cLine) : CallR X (.builtin "sorted") (rSortedD X.K) := by
  intro pins s σ H vs us Q I r h
  obtain ⟨a, ws, ds, rfl, hs, hd, hb, q⟩ := h
  rw [Vals.ref1 r]
  unfold sortB at hb
  simp only [Bool.and_eq_true, Bool.or_eq_true, List.all_eq_true] at hb
  obtain ⟨⟨⟨h1, h2⟩, h3⟩, h4⟩ := hb
  have hmap : (ws.zip ds).map (fun q : V × D => q.2) = ds := zip_snd (dpLen hd)
  have hlen : (ws.zip ds).length = ws.length := by rw [List.length_zip, ← (dpLen hd), Nat.min_self]
  have key : ∀ (T : String) (ob : Obj) (its : List Value) (n : Nat), (T = "list" ∨ T = "tuple") → s.heap.get? a = some ob → ob.cls = .type T → ob.data = .seq its.toArray n → Vals ws its → ws.length ≤ sizeLine → wpAny (model X.prog X.w) X.A (call (.builtin "sorted") [.ref a]) (EP X pins σ Q) X.xe s := by
    intro T ob its n hT ho hc hdt rv hz
    obtain ⟨e1, e2⟩ := each_of I rv hd
    refine sorted_any (enc := fun q : V × D => q.2) hT ho hc hdt e1 e2 (by rw [hmap]; exact fun d hd d' hd' => h1 d hd d' hd') (by
      rw [hmap]
      rcases h2 with h2 | h2
      · refine .inl fun d hd => ?_
        have := h2 d hd
        unfold tup1 at this
        split at this
        · exact ⟨_, _, rfl⟩
        · cases this
      · refine .inr fun d hd => ?_
        have := h2 d hd
        constructor
        · rintro rfl; cases this
        · rintro xs rfl; cases this) (by rw [← rv.length]; exact hz) (fun b hb => by
        have hm : b.2 ∈ ds := (List.of_mem_zip (show (b.1, b.2) ∈ ws.zip ds from hb)).2
        have := (dep_ok _ _ (h3 _ hm)).2
        show X.A.units + 2 + b.2.depth < cLine
        omega) fun out h' p ep hlo ho hk hp hat => ?_
    have rv' := vals_of ho
    have hl2 : (((ws.zip ds).mergeSort (PySem.W.dataLe false fun q : V × D => q.2)).map (·.1)).length ≤ sizeLine := by
      rw [List.length_map, List.length_mergeSort, hlen]; exact hz
    exact ⟨.ref _, upd H p (.lst (((ws.zip ds).mergeSort (PySem.W.dataLe false fun q : V × D => q.2)).map (·.1))), I.laid (t' := s.toks) hk hp ⟨hl2, out, ep, rv', hat⟩, rfl, q _ (I.hok.fresh hp)⟩
  rcases hs with hs | hs
  · obtain ⟨its, rv, pl, hz⟩ := I.list hs
    obtain ⟨ob, ho, hc, n, hdt⟩ := pl.isList
    exact key "list" ob its n (.inl rfl) ho hc hdt rv hz
  · obtain ⟨its, rv, pl, hz⟩ := I.tuple hs
    obtain ⟨ob, ho, hc, n, hdt⟩ := pl
    exact key "tuple" ob its n (.inr rfl) ho hc hdt rv hz
end L2.DL

set_option Elab.async false
set_option linter.all false
set_option maxRecDepth 100000
set_option maxHeartbeats 3200000
/-! D layer 14i: sorted(set(xs)), xs a list of ints. -/
namespace L2.DL
open PySem PySem.Spec PyProof.Rows
/-- the first meetings of the first i items -/
def fmt (ns : List Int) (i : Nat) : List Int := firstMet (fun j => ns.getD j 0) i
section
variable {prog : Program} {w : World} {A : Around} {R : Result → Shared → Prop} {it : Addr} {fp wr : List Addr} {G : Array GenState → Array GenState → Prop} {m : Nat} {Pv : Nat → Value → Prop} {St : Nat → Shared → Prop}
def SAt (w : World) (ns : List Int) (i : Nat) (a : Addr) (h : Heap) : Prop := SetR w h a (fun z => (fmt ns i).any (· == z)) (fmt ns i).length
theorem sLoop (W : WalksS prog w A.in1 it fp wr G m Pv St) (b : Addr) (hb : b ∉ fp) (ns : List Int) (hv : ∀ i v, Pv i v → ∃ t, v = .int (ns.getD i 0) t) (hr : m + 1 < scanBound) (fin : Shared → Prop) (hf : ∀ z, fin z → R (.ok (.ret .none)) z) (z0 : Shared)
    (hfin : ∀ z, Moved (b :: wr) G z0 z → SAt w ns m b z.heap → fin z) : ∀ (k i : Nat) (z : Shared), m - i = k → i ≤ m → St i z → SAt w ns i b z.heap → (z = z0 ∨ Moved (b :: wr) G z0 z) → codeAny (model prog w) A (.builtin "set.update.loop" ⟨[.ref b, .ref it], []⟩) R z := by
  have hbw : b ∉ wr := fun q => hb (W.sub _ q)
  have mono : ∀ c ∈ wr, c ∈ b :: wr := fun c q => List.mem_cons_of_mem _ q
  have keep : ∀ {i : Nat} {z z' : Shared}, SAt w ns i b z.heap → Moved wr G z z' → SAt w ns i b z'.heap := fun r q => SetR.at r fun o e => q.heap b o hbw e
  have chain : ∀ {z z' : Shared}, (z = z0 ∨ Moved (b :: wr) G z0 z) → Moved (b :: wr) G z z' → Moved (b :: wr) G z0 z' := fun q q2 => by
    rcases q with rfl | q
    · exact q2
    · exact Moved.trans W.gtrans q q2
  intro k
  induction k with
  | zero =>
    intro i z e hi st r mv
    obtain rfl : i = m := by omega
    refine codeAny_builtin PyProof.Rows.F.entry_set_update_loop ?_
    rw [Around.under_plainId PyProof.Rows.F.plain_set_update_loop _]
    show wpAny _ A.in1 (pyNext (.ref it) >>= _) _ _ z
    exact wpAny_bind (W.done z _ _ st fun z' q => wpAny_pure (hf _ (hfin z' (chain mv (q.mono mono)) (keep r q))))
  | succ k ih =>
    intro i z e hi st r mv
    have lt : i < m := by omega
    refine codeAny_builtin PyProof.Rows.F.entry_set_update_loop ?_
    rw [Around.under_plainId PyProof.Rows.F.plain_set_update_loop _]
    show wpAny _ A.in1 (pyNext (.ref it) >>= _) _ _ z
    refine wpAny_bind (W.item i z _ _ lt st fun v z1 hp st1 q => ?_)
    obtain ⟨t, rfl⟩ := hv i v hp
    have r1 := keep r q
    show wpAny _ A.in1 (holding [Value.int (ns.getD i 0) t] (setAdd b (.int (ns.getD i 0) t)) >>= _) _ _ z1
    refine wpAny_bind (wpAny_holding ?_)
    unfold setAdd
    refine wpAny_holding ?_
    refine wpAny_bind ((intKind prog w).pyHash (k := ns.getD i 0) (intKind_is _ _ _ _) ?_)
    have le := firstMet_length_le (fun j => ns.getD j 0) i
    refine setR_add_hashed (s := { z1 with toks := z1.toks + 1 }) (a := b) (n := (fmt ns i).length) r1 (by unfold fmt; omega) fun h2 sb r2 => ?_
    have r3 : SAt w ns (i + 1) b h2 := by
      unfold SAt fmt
      rw [firstMet_succ, step_length]
      refine SetR.congr r2 fun z => ?_
      rw [step_any]
      rfl
    have m1 : Moved (b :: wr) G z1 { z1 with heap := h2, toks := z1.toks + 1 } := ⟨fun c o nc ec => by
      show h2.get? c = _
      rw [sb.2 c (fun q => nc (by rw [q]; exact List.mem_cons_self ..))]
      exact ec, W.grefl _, rfl, rfl, Nat.le_succ _⟩
    refine wpAny_pure ⟨plainId_quiet PyProof.Rows.F.plain_set_update_loop _, ih (i + 1) _ (by omega) lt (W.frame _ z1 _ _ st1 (Nat.le_succ _) fun c hc o ec => ?_) r3 (.inr (Moved.trans W.gtrans (chain mv (q.mono mono)) m1))⟩
    rw [sb.2 c (fun q => hb (by rw [← q]; exact hc))]
    exact ec
end
section
variable {P : Program} {w : World} {A : Around} {E : Value → Shared → Prop} {s : Shared}
/-- the empty set that set() begins with -/
def noSet (w : World) : Obj := { cls := .type "set", dict := none, data := .set #[] 0 (.fresh 0 0 (!w.params.followText "set-order")) }
theorem newS1 (v : Value) {Z : Value → Shared → Prop} (hz : Z (.ref s.heap.objs.size) { s with heap := s.heap.push (noSet w) }) : codeAny (model P w) A (.call (.builtin "set.__new__") ⟨[.type "set", v], []⟩) (wants Z E) s := by
  refine codeAny_of_tree ?_
  show wpAny _ A.in1 (checkBuiltinCall "set.__new__" ⟨[.type "set", v], []⟩ >>= fun _ => again (.builtin "set.__new__" ⟨[.type "set", v], []⟩)) _ _ s
  refine wpAny_bind (wpAny_of_eq (PySem.F.newCall_set_1 v) (wpAny_pure ⟨plainId_quiet PySem.F.plain_set_new _, codeAny_builtin PySem.F.entry_set_new ?_⟩))
  rw [Around.under_plainId PySem.F.plain_set_new _]
  unfold Builtin.«set.__new__» Builtin.Frozenset.newClass
  have sb := sub_set_self
  obtain ⟨hp, g, dr, tk, os⟩ := s
  dsimp only
  wp_walk
  refine wpAny_askSetting (wpAny_pure ?_)
  dsimp only
  simp only [newObj]
  exact wpAny_bind (wpAny_alloc (wpAny_pure (wpAny_pure hz)))
theorem setList {l : Addr} {items : Array Value} {ns : List Int} {Q : Value → Shared → Prop} (hh : A.handled = none) (hl : s.heap.IsList l items) (hi : IntsAre items.toList ns) (hb : items.size + 1 < scanBound)
    (hq : ∀ (h2 : Heap) (tk : Nat), SAt w ns items.size s.heap.objs.size h2 → (∀ c o, s.heap.get? c = some o → h2.get? c = some o) → Q (.ref s.heap.objs.size) { s with heap := h2, toks := tk }) : wpAny (model P w) A (call (.type "set") [.ref l]) Q E s := by
  obtain ⟨c, tl, x1⟩ := PySem.F.called_set.mro
  have x2 := PySem.F.called_set.made
  have x3 := PySem.F.called_set.sub
  have x4 := PySem.F.called_set.notType
  have x5 := PySem.F.called_set.canCreate
  have x6 := PySem.F.typeCall_set_1 (.ref l)
  refine wpAny_call (codeAny_of_tree ?_)
  show wpAny _ _ (callAny (.type "set") _) _ _ _
  refine wpAny_pure ⟨Code.quiet_builtin _ (by decide +kernel), codeAny_builtin PySem.F.entry_type_call ?_⟩
  rw [Around.under_plain (weight_type_call_type "set" [.ref l] []) rfl]
  repeat (any_goals (first | assumption | wp_step))
  refine codeAny_mono (newS1 (.ref l) (E := E) (Z := fun v z => v = .ref s.heap.objs.size ∧ z = { s with heap := s.heap.push (noSet w) }) ⟨rfl, rfl⟩) fun r z hr => ?_
  cases r with
  | error e => exact hr
  | ok fl =>
    cases fl with
    | ret v =>
      obtain ⟨rfl, rfl⟩ := hr
      have at0 : (s.heap.push (noSet w)).get? s.heap.objs.size = some (noSet w) := Heap.get?_push_size _ rfl
      have ty : Shared.TypeIs { s with heap := s.heap.push (noSet w) } (.ref s.heap.objs.size) "set" := ⟨_, at0, rfl⟩
      have y1 := PySem.F.called_set.init.lookup
      have y2 := PySem.F.called_set.init.bind (.ref s.heap.objs.size)
      repeat (any_goals (first | assumption | wp_step))
      refine codeAny_mono (codeAny_call_builtin (R := wants (fun r z => r = .none ∧ ∃ h2 tk, z = { s with heap := h2, toks := tk } ∧ SAt w ns items.size s.heap.objs.size h2 ∧ ∀ c o, s.heap.get? c = some o → h2.get? c = some o) E) PySem.F.called_set.init.plain PySem.F.entry_set_init (check_set_init_1 ty ?_)) fun r2 z2 hr2 => ?_
      · have hd := hl
        obtain ⟨⟨oc, od, ot, os⟩, ho, q1, nl, q2⟩ := hl
        simp only at q1 q2
        subst q1
        subst q2
        have ho2 : (s.heap.push (noSet w)).get? l = some { cls := .type "list", dict := od, data := .seq items nl, slots := os } := Heap.get?_push_of_some _ ho
        have y3 := PySem.F.sub_list_set
        have y4 := PySem.F.sub_list_frozenset
        have y5 : (Value.type "list" == Value.type "dict") = false := by decide
        have isl : (s.heap.push (noSet w)).IsList l items := ⟨_, ho2, rfl, nl, rfl⟩
        unfold Builtin.«set.__init__» noKeywords Builtin.Frozenset.updateFrom
        generalize hIt : pyIter = IT
        wp_walk
        subst hIt
        refine wpAny_pyIter_list isl (wpAny_bind (wpAny_runValue ?_))
        have ls : l < s.heap.objs.size := Heap.lt_size ho
        have sz : (s.heap.push (noSet w)).objs.size = s.heap.objs.size + 1 := Heap.size_push ..
        have hne : l ≠ (s.heap.push (noSet w)).objs.size := by
          rw [sz]
          exact Nat.ne_of_lt (Nat.lt_trans ls (Nat.lt_succ_self _))
        have hnf : s.heap.objs.size ∉ [(s.heap.push (noSet w)).objs.size, l] := by
          rw [sz]
          simp only [List.mem_cons, List.not_mem_nil, or_false, not_or]
          exact ⟨Nat.ne_of_lt (Nat.lt_succ_self _), Nat.ne_of_gt ls⟩
        refine sLoop ((Walks.list (by simp [hh]) _ l hne items).toS) s.heap.objs.size hnf ns (fun i v hv => IntsAre.int_at hi i v (by rw [Array.getElem?_toList]; exact hv)) hb
          (fun z => ∃ h2 tk, z = { s with heap := h2, toks := tk } ∧ SAt w ns items.size s.heap.objs.size h2 ∧ ∀ c o, s.heap.get? c = some o → h2.get? c = some o) (fun z hz => ?_) _ (fun z hm hS => ?_) (items.size - 0) 0 _ rfl (Nat.zero_le _) ⟨⟨_, Heap.get?_push_size _ rfl, rfl, rfl⟩, isl.push _⟩ ?_ (.inl rfl)
        · obtain ⟨h2, tk, rfl, a1, a2⟩ := hz
          show wpAny _ _ _ _ _ _
          refine wpAny_pure ?_
          show wpAny _ _ (ret Value.none) _ _ _
          exact wpAny_pure ⟨rfl, h2, tk, rfl, a1, a2⟩
        · obtain ⟨h2, g2, d2, tk, o2⟩ := z
          obtain rfl : g2 = s.gens := hm.gens
          obtain rfl : d2 = s.drawn := hm.drawn
          obtain rfl : o2 = s.os := hm.os
          refine ⟨h2, tk, rfl, hS, fun c o e => hm.heap c o ?_ (Heap.get?_push_of_some _ (Heap.get?_push_of_some _ e))⟩
          have := Heap.lt_size e
          rw [sz]
          simp only [List.mem_cons, List.not_mem_nil, or_false, not_or]
          exact ⟨Nat.ne_of_lt this, Nat.ne_of_lt (Nat.lt_trans this (Nat.lt_succ_self _))⟩
        · exact SetR.at (setR_fresh (h := s.heap) w) fun o e => Heap.get?_push_of_some _ e
      · cases r2 with
        | error e => exact hr2
        | ok fl2 =>
          cases fl2 with
          | ret r =>
            obtain ⟨rfl, h2, tk, rfl, hS, hk⟩ := hr2
            repeat (any_goals (first | assumption | wp_step))
            exact hq _ _ hS hk
          | _ => exact hr2.elim
    | _ => exact hr.elim
end
end L2.DL

set_option Elab.async false
set_option linter.all false
set_option maxRecDepth 100000
set_option maxHeartbeats 2000000
/-! D layer 14j: sorted(set(xs)) in the D layer. -/
namespace L2.DL
open PySem PySem.Spec PyProof.Rows
variable [TabL]
def insU (x : Int) : List Int → List Int
  | [] => [x]
  | y :: l => if x < y then x :: y :: l else if x = y then y :: l else y :: insU x l
/-- the ints that stand in a list, each once, rising -/
def sortU (ns : List Int) : List Int := ns.foldr insU []
theorem mem_insU {x k : Int} : ∀ {l : List Int}, k ∈ insU x l ↔ k = x ∨ k ∈ l
  | [] => by simp [insU]
  | y :: l => by
    rw [insU]
    split
    · simp
    · split
      · rename_i h; subst h; simp
      · rw [List.mem_cons, mem_insU, List.mem_cons]
        constructor
        · rintro (h | h | h)
          · exact .inr (.inl h)
          · exact .inl h
          · exact .inr (.inr h)
        · rintro (h | h | h)
          · exact .inr (.inl h)
          · exact .inl h
          · exact .inr (.inr h)
theorem pw_insU {x : Int} : ∀ {l : List Int}, l.Pairwise (· < ·) → (insU x l).Pairwise (· < ·)
  | [], _ => List.pairwise_singleton ..
  | y :: l, h => by
    obtain ⟨h1, h2⟩ := List.pairwise_cons.mp h
    rw [insU]
    split
    · rename_i hlt
      refine List.pairwise_cons.mpr ⟨fun z hz => ?_, h⟩
      rcases List.mem_cons.mp hz with rfl | hz
      · exact hlt
      · exact Int.lt_trans hlt (h1 z hz)
    · split
      · exact h
      · rename_i n1 n2
        refine List.pairwise_cons.mpr ⟨fun z hz => ?_, pw_insU h2⟩
        rcases mem_insU.mp hz with rfl | hz
        · omega
        · exact h1 z hz
theorem mem_sortU {k : Int} : ∀ {ns : List Int}, k ∈ sortU ns ↔ k ∈ ns
  | [] => Iff.rfl
  | n :: ns => by
    show k ∈ insU n (sortU ns) ↔ _
    rw [mem_insU, mem_sortU, List.mem_cons]
theorem pw_sortU : ∀ {ns : List Int}, (sortU ns).Pairwise (· < ·)
  | [] => List.Pairwise.nil
  | n :: ns => pw_insU (pw_sortU (ns := ns))
theorem pw_eq : ∀ {l m : List Int}, l.Pairwise (· < ·) → m.Pairwise (· < ·) → (∀ k, k ∈ l ↔ k ∈ m) → l = m
  | [], [], _, _, _ => rfl
  | [], b :: m, _, _, h => absurd ((h b).mpr (List.mem_cons_self ..)) (fun z => nomatch z)
  | a :: l, [], _, _, h => absurd ((h a).mp (List.mem_cons_self ..)) (fun z => nomatch z)
  | a :: l, b :: m, h1, h2, h => by
    obtain ⟨p1, p2⟩ := List.pairwise_cons.mp h1
    obtain ⟨q1, q2⟩ := List.pairwise_cons.mp h2
    have e : a = b := by
      have x := (h a).mp (List.mem_cons_self ..)
      have y := (h b).mpr (List.mem_cons_self ..)
      rcases List.mem_cons.mp x with x | x
      · exact x
      · rcases List.mem_cons.mp y with y | y
        · exact y.symm
        · have := q1 a x
          have := p1 b y
          omega
    subst e
    rw [pw_eq p2 q2 fun k => ?_]
    have hk := h k
    rw [List.mem_cons, List.mem_cons] at hk
    constructor
    · intro z
      rcases hk.mp (.inr z) with e | e
      · have := p1 k z
        omega
      · exact e
    · intro z
      rcases hk.mpr (.inr z) with e | e
      · have := q1 k z
        omega
      · exact e
theorem sortU_len {ns : List Int} : (sortU ns).length ≤ ns.length := by
  induction ns with
  | nil => exact Nat.le_refl _
  | cons n ns ih =>
    have : ∀ l : List Int, (insU n l).length ≤ l.length + 1 := fun l => by
      induction l with
      | nil => exact Nat.le_refl _
      | cons y l ih =>
        rw [insU]
        split
        · exact Nat.le_refl _
        · split
          · exact Nat.le_succ _
          · rw [List.length_cons, List.length_cons]; omega
    exact Nat.le_trans (this _) (Nat.succ_le_succ ih)
def gSSet : List D → Option D
  | [.list ds] => (asI ds).bind fun ns => if ns.length < 64 then some (.list ((sortU ns).map .int)) else none
  | [.tuple ds] => (asI ds).bind fun ns => if ns.length < 64 then some (.list ((sortU ns).map .int)) else none
  | _ => none
def rSSet (K : PySem.W.Frag) : List V → Hp → VK → Prop := fun vs H Q => ∃ (a : Addr) (ns : List Int), vs = [V.ref a] ∧ (SqL K H a (ns.map V.int) ∨ SqT K H a (ns.map V.int)) ∧ ns.length < 64 ∧ ∀ p : Addr, H p = none → Q (.ref p) (upd H p (.lst ((sortU ns).map V.int)))
section
variable {X : Cx} {b : Expr} {t : TA} {p p2 q pos : Pos}
theorem sset_end {pins : List (Addr × Obj)} {σ : St} {H : Hp} {s : Shared} {a : Addr} {ns : List Int} {n : Nat} {Q : VK} (hc : X.calm = true) (I : Inv X pins σ H s) (R : SetR X.w s.heap a (fun j => decide (j ∈ ns)) n) (h64 : n < 64)
    (hq : ∀ p : Addr, H p = none → Q (.ref p) (upd H p (.lst ((sortU ns).map V.int)))) : wpAny (model X.prog X.w) X.A (call (.builtin "sorted") [.ref a]) (EP X pins σ Q) X.xe s := by
  refine sorted_set R (I.ok.hd hc) h64 fun z p out c ms k g o hp hg hi hs hm hl => ?_
  have e : ms = sortU ns := pw_eq hs pw_sortU fun k => by rw [hm, mem_sortU, decide_eq_true_eq]
  subst e
  have hn : H p = none := I.hok.fresh hp
  have sz : ((sortU ns).map V.int).length ≤ sizeLine := by
    rw [List.length_map, hl, sizeLine_eq]; omega
  obtain ⟨zh, zg, zd, zt, zo⟩ := z
  obtain rfl : zo = s.os := o
  obtain rfl : zg = s.gens := g
  have J2 : Inv X pins σ (upd H p (.lst ((sortU ns).map V.int))) { s with heap := zh, drawn := zd, toks := zt } := I.call (ch := []) (Un.laid k hp hn) (I.hok.laid k hp ⟨sz, out.toList, c, vals_of_ints hi, hg⟩) I.bare fun _ z => nomatch z
  exact ⟨.ref p, _, J2, rfl, hq p hn⟩
theorem fmt_any {ns : List Int} {k : Int} : ((fmt ns ns.length).any (· == k)) = decide (k ∈ ns) := by
  unfold fmt
  rw [firstMet_any]
  have e : (List.range ns.length).map (fun j => ns.getD j 0) = ns := by
    refine List.ext_getElem (by simp) fun i h1 h2 => ?_
    simp [List.getD, h2]
  rw [e, Bool.eq_iff_iff, List.any_eq_true, decide_eq_true_eq]
  constructor
  · rintro ⟨x, hx, e⟩
    rw [← beq_iff_eq.mp e]; exact hx
  · exact fun h => ⟨k, h, beq_iff_eq.mpr rfl⟩
/-- sorted(set(e)) -/
theorem pe_sset (hc : X.calm = true) (hg : Gl X "sorted") (hm : X.mg "sorted" = none) (hg2 : Gl X "set") (hm2 : X.mg "set" = none) (ha : PA X [b] t) (hs : starEach [b] X.env = [(false, eval b X.env)]) (hs2 : starEach [.Call (.Name "set" p2) [b] [] q] X.env = [(false, eval (.Call (.Name "set" p2) [b] [] q) X.env)]) :
    PE X (.Call (.Name "sorted" p) [.Call (.Name "set" p2) [b] [] q] [] pos) (fun σ H Q => t σ H fun vs H1 => rSSet X.K vs H1 Q) := by
  refine ⟨fun pins s σ H Q I h => ?_⟩
  refine Call_ (ld_blt I hg hm PyProof.Rows.boot_sorted (PyProof.Rows.callWith_builtin1 (PyProof.Rows.args_cons ?_ hs2) hs2 rfl))
  refine Call_ (ld_blt I hg2 hm2 PyProof.Rows.boot_set (PyProof.Rows.callWith_type1 (thn (ha.run q pins s σ H _ I h) fun us s1 ⟨vs, H1, I1, r1, q1⟩ => ?_) hs rfl))
  obtain ⟨a, ns, rfl, hq, hl, q1⟩ := q1
  cases r1 with
  | cons r rr =>
    cases rr
    cases r
    have fin : ∀ (h2 : Heap) (tk n : Nat), SetR X.w h2 s1.heap.objs.size (fun j => decide (j ∈ ns)) n → n < 64 → (∀ c o, s1.heap.get? c = some o → h2.get? c = some o) → wpAny (model X.prog X.w) X.A (call (.builtin "sorted") [.ref s1.heap.objs.size]) (EP X pins σ Q) X.xe { s1 with heap := h2, toks := tk } := fun h2 tk n R hn k =>
      sset_end hc (I1.kept (h' := h2) (t' := tk) fun c o e => k c o e) R hn q1
    rcases hq with hq | hq
    · obtain ⟨its, rv, pl, hz⟩ := I1.list hq
      have hi : IntsAre its ns := ints_of_vals rv
      have hlen : its.toArray.size = ns.length := by rw [List.size_toArray]; exact IntsAre.length hi
      refine setList (I1.ok.hd hc) pl.isList (ns := ns) (by simpa using hi) (by rw [hlen]; unfold scanBound; omega) fun h2 tk hS k => PyProof.Rows.args_nil ?_
      rw [hlen] at hS
      have R : SetR X.w h2 s1.heap.objs.size (fun j => decide (j ∈ ns)) (fmt ns ns.length).length := SetR.congr hS fun z => fmt_any.symm
      have le : (fmt ns ns.length).length ≤ ns.length := firstMet_length_le _ _
      exact fin h2 tk _ R (by omega) k
    · obtain ⟨its, rv, pt, hz⟩ := I1.tuple hq
      have hi : IntsAre its.toArray.toList ns := ints_of_vals rv
      exact call_set_tupI ns (I1.ok.hd hc) (show s1.heap.IsTuple a its.toArray from pt) hi (by unfold scanBound; omega) fun h2 tk c R hcn k => PyProof.Rows.args_nil (fin h2 tk c R (by omega) k)
variable {E : XK} {C : Addr}
theorem d_sset {K : PySem.W.Frag} : CallD K (rSSet K) gSSet := by
  intro Hc H vs ds z Q s hx hz q
  unfold gSSet at hz
  split at hz
  · obtain ⟨v, rfl, hp⟩ := hx.one
    rename_i xs
    obtain ⟨ns, hb, hz⟩ := Option.bind_eq_some_iff.mp hz
    split at hz
    · rename_i hl
      cases hz
      obtain ⟨a, ws, rfl, h1, h2⟩ := hp.list s
      rw [asI_ok hb] at h2
      rw [h2.map_int] at h1
      exact ⟨a, ns, rfl, .inl (SqL.of h1), hl, fun p hp => q _ _ _ (.new s hp) (.lst upd_same (DvAll.ints _))⟩
    · cases hz
  · obtain ⟨v, rfl, hp⟩ := hx.one
    rename_i xs
    obtain ⟨ns, hb, hz⟩ := Option.bind_eq_some_iff.mp hz
    split at hz
    · rename_i hl
      cases hz
      obtain ⟨a, ws, rfl, h1, h2⟩ := hp.tuple s
      rw [asI_ok hb] at h2
      rw [h2.map_int] at h1
      exact ⟨a, ns, rfl, .inr h1, hl, fun p hp => q _ _ _ (.new s hp) (.lst upd_same (DvAll.ints _))⟩
    · cases hz
  · cases hz
theorem de_sset {f : Ev (List D)} (hc : X.calm = true) (hg : Gl X "sorted") (hm : X.mg "sorted" = none) (hg2 : Gl X "set") (hm2 : X.mg "set" = none) (ha : DAK X E C [b] f) (hs : starEach [b] X.env = [(false, eval b X.env)]) (hs2 : starEach [.Call (.Name "set" p2) [b] [] q] X.env = [(false, eval (.Call (.Name "set" p2) [b] [] q) X.env)]) :
    DE X E C (.Call (.Name "sorted" p) [.Call (.Name "set" p2) [b] [] q] [] pos) (evB1 gSSet f) := by
  obtain ⟨t, pa, ra⟩ := ha
  exact ⟨_, pe_sset hc hg hm hg2 hm2 pa hs hs2, CallD.read d_sset ra⟩
end
end L2.DL

set_option Elab.async false
set_option linter.all false
set_option maxRecDepth 100000
set_option maxHeartbeats 2000000
/-! D layer 15: expressions as data, their meaning, their making from the tree. -/
namespace L2.DL
open PySem PySem.Spec PyProof.Rows
variable [TabL]

/-! ### expressions as data -/
inductive O2 | add | sub | mul | pow | div | mod | xor | and | or | eq | ne | lt | le | gt | ge | in_ | nin | is | isn
  deriving DecidableEq
def O2.g : O2 → D → D → Option D
  | .add => gAdd | .sub => gSub | .mul => gMul | .pow => gPow | .div => gDiv | .mod => gMod | .xor => gXor | .and => gAnd | .or => gOr
  | .eq => gEq | .ne => gNe | .lt => gI fun i j => decide (i < j) | .le => gI fun i j => decide (i ≤ j) | .gt => gI fun i j => decide (j < i) | .ge => gI fun i j => decide (j ≤ i)
  | .in_ => gIn false | .nin => gIn true | .is => gIs false | .isn => gIs true
inductive Bi | len | any | all | sum | max | min | abs | int | list | tuple | sorted | sset
  deriving DecidableEq
def Bi.g : Bi → List D → Option D
  | .len => gLen | .any => gAny | .all => gAll | .sum => gSum | .max => gMax | .min => gMin | .abs => gAbs | .int => gInt | .list => gList | .tuple => gTuple | .sorted => gSorted | .sset => gSSet
inductive IX where
  | var (i : Nat) | pk (i : Nat) | c (d : D) | none
  | b2 (g : O2) (a b : IX) | ch (g g' : O2) (a b c : IX)
  | andV (a b : IX) | orV (a b : IX) | notV (a : IX) | neg (a : IX) | ife (c a b : IX) | ix (a b : IX) | sl (a lo hi : IX)
  | tup (as : IX) | lst (as : IX) | nil | cons (a as : IX) | bi (f : Bi) (as : IX)
  | call (f n : Nat) (as : IX) | argC (a as : IX) | argV (i : Nat) (as : IX)
  | lc (it : IX) (t : Tg) (own : List Nat) (q e : IX)
  | tru (a : IX) | tev (a : IX) | tnot (a : IX) | tif (c a b : IX) | tt | ff
  | seq (a : IX) | enum (as : IX) | zip2 (as : IX) | zip3 (as : IX) | rng1 (as : IX) | rng2 (as : IX)
  | listRg (as : IX) | tupRg (as : IX) | fl (a : IX)
  | dr (i : Nat) (k : Int) | scL (i : Nat) | scI (i : Nat) | told (a : IX) | idx (i : Nat) (a : IX) | rng3 (as : IX) | rev (a : IX)
def evStuck {α : Type} : Ev α := fun _ _ => .stuck
def evNil {α : Type} : Ev (List α) := fun _ s => .ok ([], s)
mutual
/-- a value -/
def evE (F : Nat → Fn) : IX → Ev D
  | .var i => evVar i
  | .pk i => evPk i
  | .c d => evC d
  | .b2 g a b => ev2 g.g (evE F a) (evE F b)
  | .ch g g' a b c => evCh g.g g'.g (evE F a) (evE F b) (evE F c)
  | .andV a b => evAndV (evE F a) (evE F b)
  | .orV a b => evOrV (evE F a) (evE F b)
  | .notV a => evNotV (evE F a)
  | .neg a => ev1 gNeg (evE F a)
  | .ife c a b => evIf (evT F c) (evE F a) (evE F b)
  | .ix a b => ev2 gIx (evE F a) (evE F b)
  | .sl a lo hi => evSl (evE F a) (evO F lo) (evO F hi)
  | .tup as => evTup (evA F as)
  | .lst as => evLst (evA F as)
  | .bi f as => evB1 f.g (evA F as)
  | .call f n as => evCall n (F f) (evS F as)
  | .lc it t own q e => evLc (evI F it) t own (evT F q) (evE F e)
  | .listRg as => evRgL (evRgA (evA F as))
  | .tupRg as => evRgT (evRgA (evA F as))
  | .fl a => evL (evE F a)
  | .dr i k => evDr i k
  | .scL i => evScL i
  | .told a => evTold (evE F a)
  | .idx i a => evIdx i (evE F a)
  | .rev a => ev1 gRev (evE F a)
  | _ => evStuck
/-- a test -/
def evT (F : Nat → Fn) : IX → Ev Bool
  | .tru a => evTru (evE F a)
  | .tev a => evB (evE F a)
  | .tnot a => evNot (evT F a)
  | .tif c a b => evIf (evT F c) (evT F a) (evT F b)
  | .tt => evTT
  | .ff => evFF
  | _ => evStuck
/-- values -/
def evA (F : Nat → Fn) : IX → Ev (List D)
  | .nil => evNil
  | .cons a as => evCons (evE F a) (evA F as)
  | _ => evStuck
/-- a call's arguments -/
def evS (F : Nat → Fn) : IX → Ev (List Sl)
  | .nil => evArgs0
  | .argC a as => evArgC (evE F a) (evS F as)
  | .argV i as => evArgV i (evS F as)
  | _ => evStuck
/-- what is walked -/
def evI (F : Nat → Fn) : IX → Ev (List D)
  | .seq a => evSeq (evE F a)
  | .enum as => evEnum (evA F as)
  | .zip2 as => evZip2 (evA F as)
  | .zip3 as => evZip3 (evA F as)
  | .rng1 as => evRng1 (evA F as)
  | .rng2 as => evRng2 (evA F as)
  | .scI i => evScI i
  | .rng3 as => evRng3 (evA F as)
  | _ => evStuck
/-- a slice's part -/
def evO (F : Nat → Fn) : IX → Ev (Option Int)
  | .none => evNoP
  | .tru a => evP (evE F a)
  | _ => evStuck
end

/-! ### the tree's side conditions -/
def star : Expr → Bool
  | .Starred .. => true
  | _ => false
theorem star_cons {e : Expr} {es : List Expr} {env : Env} (h : star e = false) : starEach (e :: es) env = (false, eval e env) :: starEach es env := by
  cases e <;> first | rfl | cases h
theorem star_none {pos : Pos} {env : Env} : ∀ {es : List Expr}, es.all (fun e => !star e) = true → (backTo pos (starEach es env)).any (·.1) = false
  | [], _ => rfl
  | e :: es, h => by
    rw [List.all_cons, Bool.and_eq_true] at h
    have h1 : star e = false := by simpa using h.1
    rw [star_cons h1]
    show (false || (backTo pos (starEach es env)).any (·.1)) = false
    rw [star_none h.2]
    rfl
/-- read as a truth value by truthy -/
def truOk : Expr → Bool
  | .Name .. => true
  | .Call .. => true
  | .Subscript .. => true
  | .BinOp .. => true
  | .Constant .. => true
  | .List .. => true
  | .Tuple .. => true
  | .ListComp .. => true
  | _ => false
theorem truOk_is {e : Expr} {env : Env} (h : truOk e = true) : ∀ whole, isTrue e env whole = (do let v ← whole; standAt e.pos; holding [v] (truthy v)) := by
  intro whole
  cases e <;> first | rfl | cases h
def ixOk : Expr → Bool
  | .Slice .. => false
  | _ => true
theorem ixOk_is {b : Expr} (h : ixOk b = true) : PlainIx b := by
  intro o i
  cases b <;> first | rfl | cases h
/-- not walked as a folded set -/
def foldOk : Expr → Bool
  | .Set .. => false
  | _ => true
theorem foldOk_is {e : Expr} {env : Env} (h : foldOk e = true) : ∀ x, foldedSetIterable e env x = pure x := by
  intro x
  cases e <;> first | rfl | cases h
def markOk : Expr → Bool
  | .Set .. => false
  | _ => true
theorem markOk_is {op : CmpOp} {e : Expr} (h : markOk e = true) : behindInMarks op e = false := by
  cases e <;> first | rfl | cases h
theorem markOk_last {op op' : CmpOp} {b c : Expr} (h : markOk c = true) : lastMarks [op, op'] [b, c] = false := markOk_is h

/-! ### where a def's code stands -/
structure CC where
  N : List Str
  sc : Scope
  raw : Scope
  fns : List (Str × Nat × Nat)
  cst : List (Str × D)
  drn : List Str
  scn : List Str
  nm : Str
  tld : Bool
  rse : Bool
  dp : Nat
def bNames : List Str := ["len", "any", "all", "sum", "max", "min", "abs", "int", "list", "tuple", "range", "enumerate", "zip", "sorted", "set"]
def relabS (scope sc : Scope) : Scope := { scope with names := scope.names.map fun (n, k) => if (k == .free && sc.kind == .function && sc.names.lookup n == some .cell) then (n, .cell) else (n, k) }
theorem relab_is (scope : Scope) (env : Env) : relabel scope env = relabS scope env.scope := rfl
structure COk (c : CC) (F : Nat → Fn) (X : Cx) (E : XK) (C : Addr) : Prop where
  hN : X.N = c.N
  nd : c.N.Nodup
  sc : X.env.scope = c.sc
  calm : X.calm = true
  hu : X.A.units + 64 < cLine
  blt : ∀ x ∈ bNames, X.mg x = none
  pass : Passes (L2.CX X.prog X.w) X E
  lev : ∃ k, Room (k + c.dp) X.A ∧ (c.tld = true → ToldOk X C c.nm k) ∧ ∀ x id n, c.fns.lookup x = some (id, n) → ∃ f fd ps, FnOk X.prog X.w X.K X.mg X.base (L2.CX X.prog X.w) k f fd ps (spF X.K C n (F id)) ∧ X.mg x = some (.ref f) ∧ PySem.W.keepIn X.K (.ref f) = true ∧ Binds X.K fd ps []
  rse : c.rse = true → RaiseOk X E C
  fnc : ∀ x, c.raw.names.lookup x = some .cell → X.fn x = true
  cst : ∀ x d, c.cst.lookup x = some d → ∃ u v, X.mg x = some u ∧ RelV v u ∧ ∀ H, Dv X.K H v d
theorem pass_EF {X : Cx} : Passes (L2.CX X.prog X.w) X EF := fun _ _ _ _ _ _ _ h => by
  obtain ⟨_, _, _, _, _, _, _, _, _, _, _, _, h⟩ := h
  exact h.elim
theorem COk.blk {c : CC} {F : Nat → Fn} {X : Cx} {E : XK} {C : Addr} (h : COk c F X E C) (s : Shared) (H : Hp) (scope : Scope) (cl : List (Str × Addr)) (C' : Addr) (fp : List Addr) :
    COk { c with sc := relabS scope c.sc, raw := scope, tld := false, rse := false } F (X.blk s H scope (compEnvC scope cl C' X.env) fp) EF C where
  hN := h.hN
  nd := h.nd
  sc := by
    show relabel scope X.env = _
    rw [relab_is, h.sc]
  calm := h.calm
  hu := h.hu
  blt := h.blt
  pass := pass_EF
  lev := by
    obtain ⟨k, h1, _, h3⟩ := h.lev
    exact ⟨k, h1, (fun z => nomatch z), h3⟩
  rse := fun z => nomatch z
  fnc := fun x hx => by
    show (scope.names.lookup x == some .cell) = true
    rw [beq_iff_eq]
    exact hx
  cst := h.cst

/-- a lambda's body -/
def CC.lam (c : CC) (scope : Scope) : CC := { c with sc := scope, raw := scope, tld := false, rse := false, dp := 0 }
theorem COk.lam {c : CC} {F : Nat → Fn} {X : Cx} {E E' : XK} {C : Addr} {scope : Scope} {A : Around} {outer : List Env} {s : Shared} {H : Hp} {f c' : Addr} {k : Nat} (h : COk c F X E C) (L : LamX.LamS X.env.scope scope) (hr : Room k (A.deeper (LamX.lamEnv X scope s.heap.objs.size f c')))
    (hf : ∀ x id n, c.fns.lookup x = some (id, n) → ∃ f fd ps, FnOk X.prog X.w X.K X.mg X.base (L2.CX X.prog X.w) k f fd ps (spF X.K C n (F id)) ∧ X.mg x = some (.ref f) ∧ PySem.W.keepIn X.K (.ref f) = true ∧ Binds X.K fd ps []) :
    COk (c.lam scope) F (LamX.lamCx X A outer s H E' scope f c') E' C where
  hN := h.hN
  nd := h.nd
  sc := rfl
  calm := rfl
  hu := hr.units
  blt := h.blt
  pass := passes_call (takes_of rfl rfl rfl rfl) fun _ _ _ _ h => h
  lev := ⟨k, hr, (fun z => nomatch z), hf⟩
  rse := fun z => nomatch z
  fnc := fun x hx => ((L.own _ (PySem.mem_of_lookup (show scope.names.lookup x = some .cell from hx))).2 rfl).elim
  cst := h.cst

/-! ### making -/
def visB (sc : Scope) (x : Str) : Bool := sc.names.lookup x == some .local || sc.names.lookup x == some .cell || sc.names.lookup x == some .free
def glB (sc : Scope) (x : Str) : Bool := sc.names.lookup x == some .globalImplicit
def nameOk (x : Str) : Bool := !(x == ("__debug__" : Str)) && !(x == ("__classdict__" : Str))
/-- a name's slot -/
def slotOf (c : CC) (x : Str) : Option Nat := if visB c.sc x && nameOk x then c.N.idxOf? x else none
def opOf : Operator → Option O2
  | .Add => some .add | .Sub => some .sub | .Mult => some .mul | .Pow => some .pow | .FloorDiv => some .div | .Mod => some .mod | .BitXor => some .xor | .BitAnd => some .and | .BitOr => some .or
  | _ => none
def cmpOf : CmpOp → Option O2
  | .Eq => some .eq | .NotEq => some .ne | .Lt => some .lt | .LtE => some .le | .Gt => some .gt | .GtE => some .ge | .Is => some .is | .IsNot => some .isn | .In => some .in_ | .NotIn => some .nin
def bltOf (x : Str) : Option Bi :=
  if x == ("len" : Str) then some .len else if x == ("any" : Str) then some .any else if x == ("all" : Str) then some .all else if x == ("sum" : Str) then some .sum
  else if x == ("max" : Str) then some .max else if x == ("min" : Str) then some .min else if x == ("abs" : Str) then some .abs else if x == ("int" : Str) then some .int
  else if x == ("list" : Str) then some .list else if x == ("tuple" : Str) then some .tuple else if x == ("sorted" : Str) then some .sorted else none
def constOf : Const → Option D
  | .none => some .none | .bool b => some (.bool b) | .int i => some (.int i) | .str s => some (.str s)
  | _ => none
def lE (f : Expr → Option IX) : List Expr → Option IX
  | [] => some .nil
  | e :: es => if star e then none else (f e).bind fun i => (lE f es).bind fun r => some (.cons i r)
/-- with the slots that are peeked at -/
def lKs (f : Expr → Option (List Nat × IX)) : List Expr → Option (List Nat × IX)
  | [] => some ([], .nil)
  | e :: es => if star e then none else (f e).bind fun i => (lKs f es).bind fun r => some (i.1 ++ r.1, .cons i.2 r.2)
def lS (c : CC) (f : Expr → Option IX) : List Expr → Option IX
  | [] => some .nil
  | e :: es => if star e then none else match e with
    | .Name x _ => match slotOf c x with
      | some i => (lS c f es).bind fun r => some (.argV i r)
      | none => (f e).bind fun i => (lS c f es).bind fun r => some (.argC i r)
    | _ => (f e).bind fun i => (lS c f es).bind fun r => some (.argC i r)
def tgs (f : Expr → Option Tg) : List Expr → Option Tg
  | [] => some .tnil
  | e :: es => if star e then none else (f e).bind fun a => (tgs f es).bind fun r => some (.tcons a r)
def tgOf (c : CC) : Nat → Expr → Option Tg
  | 0, _ => none
  | n + 1, e => match e with
    | .Name x _ => if c.sc.names.lookup x == some .local || (c.sc.names.lookup x == some .cell && c.raw.names.lookup x == some .cell) then (c.N.idxOf? x).map .nm else none
    | .Tuple es _ _ => (tgs (tgOf c n) es).map .tup
    | _ => none
end L2.DL

set_option Elab.async false
set_option linter.all false
set_option maxRecDepth 100000
set_option maxHeartbeats 4000000
/-! D layer 16: expressions from the tree. -/
namespace L2.DL
open PySem PySem.Spec PyProof.Rows
variable [TabL]

structure Cs where
  e : CC → Expr → Option IX
  k : CC → Expr → Option IX
  t : CC → Expr → Option IX
  i : CC → Expr → Expr → Option (List Nat × IX)
/-- a comprehension's own names with their slots -/
def ownOf (c : CC) (scope : Scope) : List (Str × Nat) := (scope.names.filter fun y => (y.2 == .local || y.2 == .cell) && c.N.contains y.1).map fun y => (y.1, c.N.idxOf y.1)
def BlkC (N : List Str) (sc scope : Scope) (own : List (Str × Nat)) : Prop :=
  scope.kind = .function ∧ (∀ y ∈ scope.names, scope.names.lookup y.1 = some y.2) ∧ (∀ p ∈ own, N[p.2]? = some p.1) ∧ (∀ y ∈ scope.names, y.2 = .free → sc.names.lookup y.1 = some .cell ∨ sc.names.lookup y.1 = some .free) ∧
  ∀ y ∈ scope.names, y.2 = .local ∨ y.2 = .cell → y.1 ∈ own.map (·.1) ∨ y.1 ∉ N
instance {N sc scope own} : Decidable (BlkC N sc scope own) := by unfold BlkC; infer_instance
theorem BlkC.ok {N sc scope own} (h : BlkC N sc scope own) : BlkOk N sc scope own := ⟨h.1, h.2.1, h.2.2.1, h.2.2.2.1, h.2.2.2.2⟩
/-- a range's call -/
def rgArgs (c : CC) : Expr → Option (List Expr)
  | .Call (.Name x _) [a] [] _ => if x == ("range" : Str) && glB c.sc x && !star a then some [a] else none
  | .Call (.Name x _) [a, b] [] _ => if x == ("range" : Str) && glB c.sc x && !star a && !star b then some [a, b] else none
  | _ => none
/-- a comprehension -/
def sLc (r : Cs) (c : CC) (elt tg iter : Expr) (ifs : List Expr) (scope : Scope) : Option IX :=
  if BlkC c.N c.sc scope (ownOf c scope) ∧ foldOk iter = true then
    (r.i c tg iter).bind fun (it : List Nat × IX) =>
    (tgOf { c with sc := relabS scope c.sc, raw := scope, tld := false, rse := false } 8 tg).bind fun t =>
    if t.slots.all (fun i => ((ownOf c scope).map (·.2)).contains i) then
      (match ifs with
        | [] => some IX.tt
        | [q] => r.t { c with sc := relabS scope c.sc, raw := scope, tld := false, rse := false } q
        | _ => none : Option IX).bind fun (q : IX) =>
      (r.e { c with sc := relabS scope c.sc, raw := scope, tld := false, rse := false } elt).bind fun e => some (IX.lc it.2 t ((ownOf c scope).map (·.2)) q e)
    else none
  else none
/-- a cell of the draws -/
def drOf (c : CC) (a b : Expr) : Option (Nat × Int) := match a, b with
  | .Name x _, .Constant (.int k) _ _ => if c.drn.contains x then (slotOf c x).bind fun i => some (i, k) else none
  | _, _ => none
/-- the script -/
def scOf (c : CC) (e : Expr) : Option Nat := match e with
  | .Name y _ => if c.scn.contains y then slotOf c y else none
  | _ => none
/-- set(b) -/
def setOf (c : CC) : Expr → Option Expr
  | .Call (.Name y _) [b] [] _ => if y == ("set" : Str) && glB c.sc y && !star b then some b else none
  | _ => none
def stepE (r : Cs) (c : CC) (e : Expr) : Option IX := match e with
  | .Name x _ => match slotOf c x with
    | some i => some (.var i)
    | none => if glB c.sc x && nameOk x then (c.cst.lookup x).map .c else none
  | .Constant k _ _ => (constOf k).map .c
  | .BinOp a op b _ => (opOf op).bind fun g => (r.k c a).bind fun ia => (r.k c b).bind fun ib => some (.b2 g ia ib)
  | .Compare a [op] [b] _ => if markOk b then (cmpOf op).bind fun g => (r.k c a).bind fun ia => (r.k c b).bind fun ib => some (.b2 g ia ib) else none
  | .Compare a [op, op'] [b, d] _ => if markOk d then (cmpOf op).bind fun g => (cmpOf op').bind fun g' => (r.k c a).bind fun ia => (r.k c b).bind fun ib => (r.k c d).bind fun id => some (.ch g g' ia ib id) else none
  | .BoolOp op [a] _ => r.e c a
  | .BoolOp .And (a :: b :: es) p => (r.e c a).bind fun ia => (r.e c (.BoolOp .And (b :: es) p)).bind fun ib => some (.andV ia ib)
  | .BoolOp .Or (a :: b :: es) p => (r.e c a).bind fun ia => (r.e c (.BoolOp .Or (b :: es) p)).bind fun ib => some (.orV ia ib)
  | .UnaryOp .Not a _ => (r.k c a).bind fun ia => some (.notV ia)
  | .UnaryOp .USub a _ => (r.e c a).bind fun ia => some (.neg ia)
  | .IfExp q a b _ => (r.t c q).bind fun iq => (r.e c a).bind fun ia => (r.e c b).bind fun ib => some (.ife iq ia ib)
  | .Subscript a (.Slice lo hi none _) _ => (r.k c a).bind fun ia => (match lo with
    | none => some IX.none
    | some l => (r.e c l).map .tru).bind fun il => (match hi with
    | none => some IX.none
    | some l => (r.e c l).map .tru).bind fun ih => some (.sl ia il ih)
  | .Subscript a (.Slice none none (some (.UnaryOp .USub (.Constant (.int n) _ _) _)) _) _ => if n = 1 then (r.k c a).bind fun ia => some (.rev ia) else none
  | .Subscript a b _ => match drOf c a b with
    | some d => some (.dr d.1 d.2)
    | none => if ixOk b then (r.k c a).bind fun ia => (r.k c b).bind fun ib => some (.ix ia ib) else none
  | .Tuple es _ _ => (lE (r.e c) es).bind fun as => some (.tup as)
  | .List es _ => (lE (r.e c) es).bind fun as => some (.lst as)
  | .ListComp elt [⟨tg, iter, ifs, 0⟩] scope _ => sLc r c elt tg iter ifs scope
  | .Call (.Name x _) [.Lambda ⟨[], [], none, [], [], none, []⟩ body scope _] [] _ => if x == ("_law_told" : Str) && glB c.sc x && c.tld && LamX.lamSB c.sc scope then (r.e (c.lam scope) body).bind fun i => some (.told i) else none
  | .Call (.Name x _) as [] _ => if glB c.sc x && nameOk x then
      match c.fns.lookup x with
      | some (f, n) => if as.length = n then (lS c (r.e c) as).bind fun is => some (.call f n is) else none
      | none => match as with
        | [] => none
        | a :: es =>
          match (if es.isEmpty && x == ("list" : Str) then scOf c a else none) with
          | some i => some (.scL i)
          | none =>
          match (if es.isEmpty then rgArgs c a else none) with
          | some ra => if x == ("list" : Str) then (lE (r.e c) ra).bind fun is => some (.listRg is) else if x == ("tuple" : Str) then (lE (r.e c) ra).bind fun is => some (.tupRg is) else none
          | none =>
          match (if es.isEmpty && x == ("sorted" : Str) then setOf c a else none) with
          | some b => (lE (r.k c) [b]).bind fun is => some (.bi .sset is)
          | none => (bltOf x).bind fun f => (lE (r.k c) (a :: es)).bind fun is => some (.bi f is)
    else none
  | .Call (.Attribute (.Name x _) m apos) [a] [] cpos => if m == ("index" : Str) && !star a && apos.endLine == cpos.line then (slotOf c x).bind fun i => (r.e c a).bind fun ia => some (.idx i ia) else none
  | _ => none
def stepK (r : Cs) (c : CC) (e : Expr) : Option IX := match e with
  | .Name x _ => match slotOf c x with
    | some i => some (.pk i)
    | none => r.e c e
  | _ => r.e c e
def stepT (r : Cs) (c : CC) (e : Expr) : Option IX := match e with
  | .Compare a [op] [b] _ => if markOk b then (cmpOf op).bind fun g => (r.k c a).bind fun ia => (r.k c b).bind fun ib => some (.tev (.b2 g ia ib)) else none
  | .Compare a [op, op'] [b, d] _ => if markOk d then (cmpOf op).bind fun g => (cmpOf op').bind fun g' => (r.k c a).bind fun ia => (r.k c b).bind fun ib => (r.k c d).bind fun id => some (.tev (.ch g g' ia ib id)) else none
  | .BoolOp _ [a] _ => r.t c a
  | .BoolOp .And (a :: b :: es) p => (r.t c a).bind fun ia => (r.t c (.BoolOp .And (b :: es) p)).bind fun ib => some (.tif ia ib .ff)
  | .BoolOp .Or (a :: b :: es) p => (r.t c a).bind fun ia => (r.t c (.BoolOp .Or (b :: es) p)).bind fun ib => some (.tif ia .tt ib)
  | .UnaryOp .Not a _ => (r.t c a).bind fun ia => some (.tnot ia)
  | _ => if truOk e then (r.k c e).bind fun i => some (.tru i) else none
/-- what a walk peeks at -/
def srcK (r : Cs) (c : CC) (e : Expr) : Option (List Nat × IX) := match e with
  | .Name x _ => match slotOf c x with
    | some i => some ([i], .pk i)
    | none => (r.e c e).bind fun i => some ([], i)
  | _ => (r.e c e).bind fun i => some ([], i)
def rg3 (c : CC) : Expr → Option (List Expr)
  | .Call (.Name x _) [a, b, d] [] _ => if x == ("range" : Str) && glB c.sc x && !star a && !star b && !star d then some [a, b, d] else none
  | _ => none
def stepI (r : Cs) (c : CC) (tg e : Expr) : Option (List Nat × IX) := match rg3 c e with
  | some as => (lE (r.e c) as).bind fun is => some ([], .rng3 is)
  | none => match rgArgs c e with
  | some [a] => (lE (r.e c) [a]).bind fun is => some ([], .rng1 is)
  | some as => (lE (r.e c) as).bind fun is => some ([], .rng2 is)
  | none => match scOf c e with
    | some i => some ([], .scI i)
    | none => match tg, e with
    | .Tuple .., .Call (.Name x _) as [] _ =>
      if x == ("enumerate" : Str) && glB c.sc x && decide (as.length = 1) then (lKs (srcK r c) as).bind fun is => some (is.1, .enum is.2)
      else if x == ("zip" : Str) && glB c.sc x && decide (as.length = 2) then (lKs (srcK r c) as).bind fun is => some (is.1, .zip2 is.2)
      else if x == ("zip" : Str) && glB c.sc x && decide (as.length = 3) then (lKs (srcK r c) as).bind fun is => some (is.1, .zip3 is.2)
      else (srcK r c e).bind fun i => some (i.1, .seq i.2)
    | _, _ => (srcK r c e).bind fun i => some (i.1, .seq i.2)
def cs : Nat → Cs
  | 0 => ⟨fun _ _ => none, fun _ _ => none, fun _ _ => none, fun _ _ _ => none⟩
  | n + 1 => ⟨stepE (cs n), stepK (cs n), stepT (cs n), stepI (cs n)⟩

/-! ### it is right -/
structure Snd (r : Cs) : Prop where
  e : ∀ c e i, r.e c e = some i → ∀ F X E C, COk c F X E C → DE X E C e (evE F i)
  k : ∀ c e i, r.k c e = some i → ∀ F X E C, COk c F X E C → DK X E C e (evE F i)
  t : ∀ c e i, r.t c e = some i → ∀ F X E C, COk c F X E C → DT X E C e (evT F i)
  w : ∀ c op es p i, r.t c (.BoolOp op es p) = some i → ∀ F X E C, COk c F X E C → DW X E C (.BoolOp op es p) (evT F i)
  i : ∀ c tg e i, r.i c tg e = some i → ∀ F X E C, COk c F X E C → DI X E C tg e i.1 (evI F i.2)

section
variable {r : Cs} {c : CC} {F : Nat → Fn} {X : Cx} {E : XK} {C : Addr} {e a b : Expr} {es : List Expr} {i : IX}
theorem visB_ok {sc : Scope} {x : Str} (h : visB sc x = true) : Vis sc x := by
  unfold visB at h
  simp only [Bool.or_eq_true, beq_iff_eq] at h
  rcases h with (h | h) | h
  · exact .inl h
  · exact .inr (.inl h)
  · exact .inr (.inr h)
theorem nameOk_ok {x : Str} (h : nameOk x = true) : (x == ("__debug__" : Str)) = false ∧ (x == ("__classdict__" : Str)) = false := by
  unfold nameOk at h
  simpa using h
theorem idx_ok {N : List Str} {x : Str} {j : Nat} (h : N.idxOf? x = some j) : N[j]? = some x := by
  obtain ⟨h1, h2, _⟩ := List.findIdx?_eq_some_iff_getElem.mp h
  rw [List.getElem?_eq_getElem h1]
  rw [beq_iff_eq.mp h2]
theorem slotOf_ok {x : Str} {j : Nat} (h : slotOf c x = some j) (o : COk c F X E C) : X.N[j]? = some x ∧ Vis X.env.scope x ∧ (x == ("__debug__" : Str)) = false ∧ (x == ("__classdict__" : Str)) = false := by
  unfold slotOf at h
  split at h
  · rename_i hv
    rw [Bool.and_eq_true] at hv
    exact ⟨by rw [o.hN]; exact idx_ok h, by rw [o.sc]; exact visB_ok hv.1, nameOk_ok hv.2⟩
  · cases h
theorem glB_ok {x : Str} (h : glB c.sc x = true) (o : COk c F X E C) : Gl X x := by
  unfold glB at h
  show X.env.scope.names.lookup x = _
  rw [o.sc]
  exact beq_iff_eq.mp h
theorem lE_dae (h : ∀ e i, r.e c e = some i → DE X E C e (evE F i)) : ∀ {es : List Expr} {i : IX}, lE (r.e c) es = some i → DAE X E C es (evA F i)
  | [], i, hi => by
    cases hi
    exact dae_nil
  | e :: es, i, hi => by
    unfold lE at hi
    split at hi
    · cases hi
    · rename_i hs
      simp only [Option.bind_eq_some_iff] at hi
      obtain ⟨i1, h1, i2, h2, h3⟩ := hi
      cases h3
      exact dae_cons (h e i1 h1) (lE_dae h h2) (star_cons (by simpa using hs))
theorem lE_star {f : Expr → Option IX} : ∀ {es : List Expr} {i : IX}, lE f es = some i → es.all (fun e => !star e) = true
  | [], i, hi => rfl
  | e :: es, i, hi => by
    unfold lE at hi
    split at hi
    · cases hi
    · rename_i hs
      simp only [Option.bind_eq_some_iff] at hi
      obtain ⟨i1, h1, i2, h2, h3⟩ := hi
      rw [List.all_cons, lE_star h2]
      simpa using hs
theorem lE_dak (h : ∀ e i, r.k c e = some i → DK X E C e (evE F i)) : ∀ {es : List Expr} {i : IX}, lE (r.k c) es = some i → DAK X E C es (evA F i)
  | [], i, hi => by
    cases hi
    exact dak_nil
  | e :: es, i, hi => by
    unfold lE at hi
    split at hi
    · cases hi
    · rename_i hs
      simp only [Option.bind_eq_some_iff] at hi
      obtain ⟨i1, h1, i2, h2, h3⟩ := hi
      cases h3
      exact dak_cons (h e i1 h1) (lE_dak h h2) (star_cons (by simpa using hs))
theorem lKs_ok {f : Expr → Option (List Nat × IX)} (h : ∀ e i, f e = some i → DKs X E C e i.1 (evE F i.2)) : ∀ {es : List Expr} {i : List Nat × IX}, lKs f es = some i → DAKs X E C es i.1 (evA F i.2)
  | [], i, hi => by
    cases hi
    exact daks_nil
  | e :: es, i, hi => by
    unfold lKs at hi
    split at hi
    · cases hi
    · rename_i hs
      simp only [Option.bind_eq_some_iff] at hi
      obtain ⟨i1, h1, i2, h2, h3⟩ := hi
      cases h3
      exact daks_cons (h e i1 h1) (lKs_ok h h2) (star_cons (by simpa using hs))
theorem lKs_star {f : Expr → Option (List Nat × IX)} : ∀ {es : List Expr} {i : List Nat × IX}, lKs f es = some i → es.all (fun e => !star e) = true
  | [], i, hi => rfl
  | e :: es, i, hi => by
    unfold lKs at hi
    split at hi
    · cases hi
    · rename_i hs
      simp only [Option.bind_eq_some_iff] at hi
      obtain ⟨i1, h1, i2, h2, h3⟩ := hi
      rw [List.all_cons, lKs_star h2]
      simpa using hs
theorem lS_ok (o : COk c F X E C) (h : ∀ e i, r.e c e = some i → DE X E C e (evE F i)) : ∀ {es : List Expr} {i : IX}, lS c (r.e c) es = some i → DAA X E C es (evS F i)
  | [], i, hi => by
    cases hi
    exact daa_nil
  | e :: es, i, hi => by
    have other : ∀ i, ((r.e c e).bind fun i => (lS c (r.e c) es).bind fun r => some (.argC i r)) = some i → star e = false → DAA X E C (e :: es) (evS F i) := fun i hi hs => by
      simp only [Option.bind_eq_some_iff] at hi
      obtain ⟨i1, h1, i2, h2, h3⟩ := hi
      cases h3
      exact daa_cons (h e i1 h1) (lS_ok o h h2) (star_cons hs)
    unfold lS at hi
    split at hi
    · cases hi
    · rename_i hs
      have hs' : star e = false := by simpa using hs
      split at hi
      · rename_i x p
        split at hi
        · rename_i j hj
          simp only [Option.bind_eq_some_iff] at hi
          obtain ⟨i2, h2, h3⟩ := hi
          cases h3
          obtain ⟨k1, k2, k3, k4⟩ := slotOf_ok hj o
          exact daa_var k1 k2 k3 k4 (lS_ok o h h2) (star_cons rfl)
        · exact other i hi hs'
      · exact other i hi hs'
theorem lS_star {f : Expr → Option IX} : ∀ {es : List Expr} {i : IX}, lS c f es = some i → es.all (fun e => !star e) = true
  | [], i, hi => rfl
  | e :: es, i, hi => by
    unfold lS at hi
    split at hi
    · cases hi
    · rename_i hs
      rw [List.all_cons]
      have hs' : star e = false := by simpa using hs
      rw [hs']
      have rest : ∃ i2, lS c f es = some i2 := by
        split at hi
        · split at hi
          · simp only [Option.bind_eq_some_iff] at hi
            obtain ⟨i2, h2, h3⟩ := hi
            exact ⟨i2, h2⟩
          · simp only [Option.bind_eq_some_iff] at hi
            obtain ⟨i1, h1, i2, h2, h3⟩ := hi
            exact ⟨i2, h2⟩
        · simp only [Option.bind_eq_some_iff] at hi
          obtain ⟨i1, h1, i2, h2, h3⟩ := hi
          exact ⟨i2, h2⟩
      obtain ⟨i2, h2⟩ := rest
      rw [lS_star h2]
      rfl
theorem tgs_ok {f : Expr → Option Tg} (h : ∀ e t, f e = some t → DG X e t) : ∀ {es : List Expr} {t : Tg}, tgs f es = some t → DGs X es t ∧ (assignEach es X.env).length = t.len ∧ (assignEach es X.env).findIdx? (·.1) = none
  | [], t, hi => by
    cases hi
    exact ⟨dgs_nil, rfl, rfl⟩
  | e :: es, t, hi => by
    unfold tgs at hi
    split at hi
    · cases hi
    · rename_i hs
      have hs' : star e = false := by simpa using hs
      simp only [Option.bind_eq_some_iff] at hi
      obtain ⟨i1, h1, i2, h2, h3⟩ := hi
      cases h3
      obtain ⟨q1, q2, q3⟩ := tgs_ok h h2
      have ha : assignEach (e :: es) X.env = (false, assign e X.env) :: assignEach es X.env := by
        cases e <;> first | rfl | cases hs'
      refine ⟨dgs_cons (h e i1 h1) q1 (by rw [ha]; rfl), by rw [ha, List.length_cons, q2]; rfl, ?_⟩
      rw [ha, List.findIdx?_cons, q3]
      rfl
theorem tgOf_ok (o : COk c F X E C) : ∀ {n : Nat} {e : Expr} {t : Tg}, tgOf c n e = some t → DG X e t
  | 0, _, _, h => by cases h
  | n + 1, e, t, h => by
    unfold tgOf at h
    split at h
    · rename_i x p
      split at h
      · rename_i hv
        simp only [Bool.or_eq_true, Bool.and_eq_true, beq_iff_eq] at hv
        cases hj : c.N.idxOf? x with
        | none => rw [hj] at h; cases h
        | some j =>
          rw [hj] at h
          cases h
          have hl : Loc X.env.scope x := by unfold Loc; rw [o.sc]; exact hv.imp id fun z => z.1
          exact dg_name (by rw [o.hN]; exact o.nd) (by rw [o.hN]; exact idx_ok hj) hl (by rw [o.sc]; exact hv.elim .inr fun z => .inl (o.fnc x z.2))
      · cases h
    · rename_i es _ _
      cases hj : tgs (tgOf c n) es with
      | none => rw [hj] at h; cases h
      | some ts =>
        rw [hj] at h
        cases h
        obtain ⟨q1, q2, q3⟩ := tgs_ok (fun e t h => tgOf_ok o h) hj
        exact dg_tup o.calm q1 q2 q3
    · cases h
end
end L2.DL

set_option Elab.async false
set_option linter.all false
set_option maxRecDepth 100000
set_option maxHeartbeats 4000000
/-! D layer 17: the making of expressions is right. -/
namespace L2.DL
open PySem PySem.Spec PyProof.Rows
variable [TabL]

section
variable {r : Cs} {c : CC} {F : Nat → Fn} {X : Cx} {E : XK} {C : Addr} {e a b : Expr} {es : List Expr} {i : IX}
theorem op_ok {op : Operator} {g : O2} (h : opOf op = some g) : ∃ r, OpR X (binaryOp op) r ∧ OpD X.K r g.g := by
  cases op <;> cases h
  · exact ⟨_, op_add4, d_add⟩
  · exact ⟨_, op_sub, d_sub⟩
  · exact ⟨_, op_mul3, d_mul⟩
  · exact ⟨_, op_mod, d_mod⟩
  · exact ⟨_, op_pow, d_pow⟩
  · exact ⟨_, op_or, d_or⟩
  · exact ⟨_, op_xor, d_xor⟩
  · exact ⟨_, op_and, d_and⟩
  · exact ⟨_, op_fdivW, d_div⟩
theorem cmp_ok (hu : X.A.units + 64 < cLine) {op : CmpOp} {g : O2} (h : cmpOf op = some g) : ∃ r, OpR X (compareOp op) r ∧ OpD X.K r g.g := by
  cases op <;> cases h
  · exact ⟨_, op_eqP hu, d_eq⟩
  · exact ⟨_, op_neP hu, d_ne⟩
  · exact ⟨_, op_lt, d_bl0⟩
  · exact ⟨_, op_le, d_bl0⟩
  · exact ⟨_, op_gt, d_bl0⟩
  · exact ⟨_, op_ge, d_bl0⟩
  · exact ⟨_, op_is2, d_is⟩
  · exact ⟨_, op_isnot2, d_is⟩
  · exact ⟨_, op_in2 hu, d_in⟩
  · exact ⟨_, op_notIn2 hu, d_in⟩
theorem blt_ok (hc : X.calm = true) (hu : X.A.units + 64 < cLine) {x : Str} {f : Bi} (h : bltOf x = some f) : x ∈ bNames ∧ x ≠ "__name__" ∧
    ((∃ T r, bootBuiltins x = some (.type T) ∧ CallR X (.type T) r ∧ CallD X.K r f.g) ∨ ∃ id r, bootBuiltins x = some (.builtin id) ∧ CallR X (.builtin id) r ∧ CallD X.K r f.g) := by
  unfold bltOf at h
  split at h
  · rename_i hx; cases h; rw [beq_iff_eq] at hx; subst hx
    exact ⟨by decide +kernel, by decide +kernel, .inr ⟨_, _, by kernel_rfl, call_len, d_len⟩⟩
  split at h
  · rename_i hx; cases h; rw [beq_iff_eq] at hx; subst hx
    exact ⟨by decide +kernel, by decide +kernel, .inr ⟨_, _, by kernel_rfl, cr_anyT hc, d_any⟩⟩
  split at h
  · rename_i hx; cases h; rw [beq_iff_eq] at hx; subst hx
    exact ⟨by decide +kernel, by decide +kernel, .inr ⟨_, _, by kernel_rfl, cr_allT hc, d_all⟩⟩
  split at h
  · rename_i hx; cases h; rw [beq_iff_eq] at hx; subst hx
    exact ⟨by decide +kernel, by decide +kernel, .inr ⟨_, _, by kernel_rfl, cr_sumA hc, d_sum⟩⟩
  split at h
  · rename_i hx; cases h; rw [beq_iff_eq] at hx; subst hx
    exact ⟨by decide +kernel, by decide +kernel, .inr ⟨_, _, by kernel_rfl, cr_max2 hc hu, d_max⟩⟩
  split at h
  · rename_i hx; cases h; rw [beq_iff_eq] at hx; subst hx
    exact ⟨by decide +kernel, by decide +kernel, .inr ⟨_, _, by kernel_rfl, cr_min2 hc hu, d_min⟩⟩
  split at h
  · rename_i hx; cases h; rw [beq_iff_eq] at hx; subst hx
    exact ⟨by decide +kernel, by decide +kernel, .inr ⟨_, _, by kernel_rfl, call_abs, d_abs⟩⟩
  split at h
  · rename_i hx; cases h; rw [beq_iff_eq] at hx; subst hx
    exact ⟨by decide +kernel, by decide +kernel, .inl ⟨_, _, by kernel_rfl, call_int1, d_int⟩⟩
  split at h
  · rename_i hx; cases h; rw [beq_iff_eq] at hx; subst hx
    exact ⟨by decide +kernel, by decide +kernel, .inl ⟨_, _, by kernel_rfl, call_list_of, d_list⟩⟩
  split at h
  · rename_i hx; cases h; rw [beq_iff_eq] at hx; subst hx
    exact ⟨by decide +kernel, by decide +kernel, .inl ⟨_, _, by kernel_rfl, call_tuple_of, d_tuple⟩⟩
  split at h
  · rename_i hx; cases h; rw [beq_iff_eq] at hx; subst hx
    exact ⟨by decide +kernel, by decide +kernel, .inr ⟨_, _, by kernel_rfl, cr_sortedD hu, d_sorted⟩⟩
  · cases h
theorem const_ok {k : Const} {d : DL.D} {j pos} (h : constOf k = some d) : DE X E C (.Constant k j pos) (evC d) := by
  cases k <;> cases h
  · exact de_c pe_non fun _ => .non
  · exact de_c pe_bl fun _ => .bl _
  · exact de_c pe_int fun _ => .int _
  · exact de_c pe_str fun _ => .str _
theorem setOf_ok {b : Expr} (h : setOf c e = some b) (o : COk c F X E C) : ∃ p pos, e = .Call (.Name "set" p) [b] [] pos ∧ Gl X "set" ∧ star b = false := by
  unfold setOf at h
  split at h
  · split at h
    · rename_i hb
      cases h
      simp only [Bool.and_eq_true, beq_iff_eq, Bool.not_eq_true'] at hb
      obtain ⟨⟨h1, h2⟩, h3⟩ := hb
      subst h1
      exact ⟨_, _, rfl, glB_ok h2 o, h3⟩
    · cases h
  · cases h
/-- a range's arguments -/
theorem rgArgs_ok {ra : List Expr} (h : rgArgs c e = some ra) (o : COk c F X E C) : ∃ p pos, e = .Call (.Name "range" p) ra [] pos ∧ Gl X "range" ∧ ((∃ a, ra = [a] ∧ star a = false) ∨ ∃ a b, ra = [a, b] ∧ star a = false ∧ star b = false) := by
  unfold rgArgs at h
  split at h
  · split at h
    · rename_i hb
      cases h
      simp only [Bool.and_eq_true, beq_iff_eq] at hb
      obtain ⟨⟨h1, h2⟩, h3⟩ := hb
      subst h1
      exact ⟨_, _, rfl, glB_ok h2 o, .inl ⟨_, rfl, by simpa using h3⟩⟩
    · cases h
  · split at h
    · rename_i hb
      cases h
      simp only [Bool.and_eq_true, beq_iff_eq] at hb
      obtain ⟨⟨⟨h1, h2⟩, h3⟩, h4⟩ := hb
      subst h1
      exact ⟨_, _, rfl, glB_ok h2 o, .inr ⟨_, _, rfl, by simpa using h3, by simpa using h4⟩⟩
    · cases h
  · cases h
theorem rg_ok (s : Snd r) {ra : List Expr} {is : IX} (o : COk c F X E C) (h : rgArgs c e = some ra) (hl : lE (r.e c) ra = some is) : DRg X E C e (evRgA (evA F is)) := by
  obtain ⟨p, pos, rfl, hg, hh⟩ := rgArgs_ok h o
  have hm := o.blt "range" (by decide +kernel)
  rcases hh with ⟨a, rfl, sa⟩ | ⟨a, b, rfl, sa, sb⟩
  · simp only [lE, sa, Bool.false_eq_true, if_false, Option.bind_eq_some_iff] at hl
    obtain ⟨i1, h1, i2, h2, h3⟩ := hl
    cases h2; cases h3
    exact drg_1 hg hm (s.e c a i1 h1 F X E C o) (star_cons sa)
  · simp only [lE, sa, sb, Bool.false_eq_true, if_false, Option.bind_eq_some_iff] at hl
    obtain ⟨i1, h1, i2, ⟨i3, h4, i4, h5, h6⟩, h3⟩ := hl
    cases h5; cases h6; cases h3
    exact drg_2 (star_none (by simp [sb])) hg hm (s.e c a i1 h1 F X E C o) (s.e c b i3 h4 F X E C o) (star_cons sa) (star_cons sb)
theorem part_ok (s : Snd r) (o : COk c F X E C) {lo : Option Expr} {il : IX} (h : (match lo with
    | none => some IX.none
    | some l => (r.e c l).map .tru) = some il) : DO X E C lo (evO F il) := by
  split at h
  · cases h; exact do_none
  · rename_i l
    cases hl : r.e c l with
    | none => rw [hl] at h; cases h
    | some j =>
      rw [hl] at h
      cases h
      exact do_some (s.e c l j hl F X E C o)
theorem sLc_ok (s : Snd r) {elt tg iter : Expr} {ifs : List Expr} {scope : Scope} (o : COk c F X E C) (h : sLc r c elt tg iter ifs scope = some i) : ∃ vs fi t ft fe, evE F i = evLc fi t ((ownOf c scope).map (·.2)) ft fe ∧ DI X E C tg iter vs fi ∧ BlkOk X.N X.env.scope scope (ownOf c scope) ∧
    (∀ (s : Shared) (H : Hp) (C' : Addr) (cl : List (Str × Addr)) (fp : List Addr), DG (X.blk s H scope (compEnvC scope cl C' X.env) fp) tg t) ∧
    (∀ (s : Shared) (H : Hp) (C' : Addr) (cl : List (Str × Addr)) (fp : List Addr), DTs (X.blk s H scope (compEnvC scope cl C' X.env) fp) EF C ifs ft) ∧
    (∀ (s : Shared) (H : Hp) (C' : Addr) (cl : List (Str × Addr)) (fp : List Addr), DE (X.blk s H scope (compEnvC scope cl C' X.env) fp) EF C elt fe) ∧
    (∀ x, foldedSetIterable iter X.env x = pure x) ∧ ∀ i ∈ t.slots, i ∈ (ownOf c scope).map (·.2) := by
  unfold sLc at h
  split at h
  · rename_i hb
    simp only [Option.bind_eq_some_iff] at h
    obtain ⟨it, h1, t, h2, h⟩ := h
    split at h
    · rename_i ht
      simp only [Option.bind_eq_some_iff] at h
      obtain ⟨q, h3, ie, h4, h5⟩ := h
      cases h5
      refine ⟨it.1, evI F it.2, t, evT F q, evE F ie, by rw [evE], s.i c tg iter it h1 F X E C o, by rw [o.hN, o.sc]; exact hb.1.ok, fun s H C' cl fp => tgOf_ok (o.blk s H scope cl C' fp) h2, fun s2 H C' cl fp => ?_, fun s2 H C' cl fp => s.e _ elt ie h4 F _ EF C (o.blk s2 H scope cl C' fp), foldOk_is hb.2, fun j hj => ?_⟩
      · have ob := o.blk s2 H scope cl C' fp
        split at h3
        · cases h3
          exact (by rw [evT]; exact dts_nil)
        · exact dts_one (s.t _ _ q h3 F _ EF C ob)
        · cases h3
      · have := List.all_eq_true.mp ht j hj
        exact List.contains_iff_mem.mp this
    · cases h
  · cases h
theorem drOf_ok {d : Nat × Int} {pos : Pos} (h : drOf c a b = some d) (o : COk c F X E C) : DE X E C (.Subscript a b pos) (evE F (.dr d.1 d.2)) := by
  unfold drOf at h
  split at h
  · split at h
    · simp only [Option.bind_eq_some_iff] at h
      obtain ⟨i, h1, h2⟩ := h
      cases h2
      obtain ⟨k1, k2, k3, k4⟩ := slotOf_ok h1 o
      rw [evE]
      exact de_dr k1 k2 k3 k4
    · cases h
  · cases h
theorem scOf_ok {j : Nat} (h : scOf c e = some j) (o : COk c F X E C) : ∃ y p, e = .Name y p ∧ X.N[j]? = some y ∧ Vis X.env.scope y ∧ (y == ("__debug__" : Str)) = false ∧ (y == ("__classdict__" : Str)) = false := by
  unfold scOf at h
  split at h
  · split at h
    · exact ⟨_, _, rfl, slotOf_ok h o⟩
    · cases h
  · cases h
theorem stepK_ok (s : Snd r) (h : stepK r c e = some i) (o : COk c F X E C) : DK X E C e (evE F i) := by
  unfold stepK at h
  split at h
  · split at h
    · rename_i j hj
      cases h
      obtain ⟨k1, k2, k3, k4⟩ := slotOf_ok hj o
      rw [evE]
      exact dk_var k1 k2 k3 k4
    · exact (s.e c _ i h F X E C o).dk
  · exact (s.e c _ i h F X E C o).dk
theorem stepE_ok (s : Snd r) (h : stepE r c e = some i) (o : COk c F X E C) : DE X E C e (evE F i) := by
  unfold stepE at h
  split at h
  · -- a name
    split at h
    · rename_i j hj
      cases h
      obtain ⟨k1, k2, k3, k4⟩ := slotOf_ok hj o
      rw [evE]
      exact de_var k1 k2 k3 k4
    · split at h
      · rename_i x p _ _ hb
        rw [Bool.and_eq_true] at hb
        cases hd : c.cst.lookup x with
        | none => rw [hd] at h; cases h
        | some d =>
          rw [hd] at h
          cases h
          obtain ⟨u, v, h1, h2, h3⟩ := o.cst x d hd
          rw [evE]
          exact de_c (pe_glob (glB_ok hb.1 o) h1 h2 (nameOk_ok hb.2).1) h3
      · cases h
  · -- a constant
    rename_i k _ _
    cases hk : constOf k with
    | none => rw [hk] at h; cases h
    | some d =>
      rw [hk] at h
      cases h
      rw [evE]
      exact const_ok hk
  · simp only [Option.bind_eq_some_iff] at h
    obtain ⟨g, h1, ia, h2, ib, h3, h4⟩ := h
    cases h4
    obtain ⟨r0, q1, q2⟩ := op_ok (X := X) h1
    rw [evE]
    exact de_bin q1 q2 (s.k c _ ia h2 F X E C o) (s.k c _ ib h3 F X E C o)
  · split at h
    · rename_i hm
      simp only [Option.bind_eq_some_iff] at h
      obtain ⟨g, h1, ia, h2, ib, h3, h4⟩ := h
      cases h4
      obtain ⟨r0, q1, q2⟩ := cmp_ok (X := X) o.hu h1
      rw [evE]
      exact de_cmp q1 q2 (markOk_is hm) (s.k c _ ia h2 F X E C o) (s.k c _ ib h3 F X E C o)
    · cases h
  · split at h
    · rename_i hm
      simp only [Option.bind_eq_some_iff] at h
      obtain ⟨g, h1, g', h1', ia, h2, ib, h3, id, h5, h4⟩ := h
      cases h4
      obtain ⟨r0, q1, q2⟩ := cmp_ok (X := X) o.hu h1
      obtain ⟨r1, q3, q4⟩ := cmp_ok (X := X) o.hu h1'
      rw [evE]
      exact de_chain q1 q3 q2 q4 (markOk_last hm) (s.k c _ ia h2 F X E C o) (s.k c _ ib h3 F X E C o) (s.k c _ id h5 F X E C o)
    · cases h
  · exact de_one (s.e c _ i h F X E C o)
  · simp only [Option.bind_eq_some_iff] at h
    obtain ⟨ia, h2, ib, h3, h4⟩ := h
    cases h4
    rw [evE]
    exact de_and (s.e c _ ia h2 F X E C o) (s.e c _ ib h3 F X E C o)
  · simp only [Option.bind_eq_some_iff] at h
    obtain ⟨ia, h2, ib, h3, h4⟩ := h
    cases h4
    rw [evE]
    exact de_or (s.e c _ ia h2 F X E C o) (s.e c _ ib h3 F X E C o)
  · simp only [Option.bind_eq_some_iff] at h
    obtain ⟨ia, h2, h4⟩ := h
    cases h4
    rw [evE]
    exact de_not (s.k c _ ia h2 F X E C o)
  · simp only [Option.bind_eq_some_iff] at h
    obtain ⟨ia, h2, h4⟩ := h
    cases h4
    rw [evE]
    exact de_neg (s.e c _ ia h2 F X E C o)
  · simp only [Option.bind_eq_some_iff] at h
    obtain ⟨iq, h1, ia, h2, ib, h3, h4⟩ := h
    cases h4
    rw [evE]
    exact de_if (s.t c _ iq h1 F X E C o) (s.e c _ ia h2 F X E C o) (s.e c _ ib h3 F X E C o)
  · simp only [Option.bind_eq_some_iff] at h
    obtain ⟨ia, h2, il, h3, ih, h5, h4⟩ := h
    cases h4
    rw [evE]
    exact de_slice (s.k c _ ia h2 F X E C o) (part_ok s o h3) (part_ok s o h5)
  · split at h
    · rename_i hn
      subst hn
      simp only [Option.bind_eq_some_iff] at h
      obtain ⟨ia, h2, h4⟩ := h
      cases h4
      rw [evE]
      exact de_rev (s.k c _ ia h2 F X E C o)
    · cases h
  · split at h
    · rename_i d hd
      cases h
      exact drOf_ok hd o
    split at h
    · rename_i hb
      simp only [Option.bind_eq_some_iff] at h
      obtain ⟨ia, h2, ib, h3, h4⟩ := h
      cases h4
      rw [evE]
      exact de_ix (s.k c _ ia h2 F X E C o) (s.k c _ ib h3 F X E C o) (ixOk_is hb)
    · cases h
  · simp only [Option.bind_eq_some_iff] at h
    obtain ⟨as, h2, h4⟩ := h
    cases h4
    rw [evE]
    exact de_tup (lE_dae (fun e i h => s.e c e i h F X E C o) h2)
  · simp only [Option.bind_eq_some_iff] at h
    obtain ⟨as, h2, h4⟩ := h
    cases h4
    rw [evE]
    exact de_lst (lE_dae (fun e i h => s.e c e i h F X E C o) h2)
  · obtain ⟨vs, fi, t, ft, fe, q0, q1, q2, q3, q4, q5, q6, q7⟩ := sLc_ok s o h
    rw [q0]
    exact de_lc o.calm (by rw [o.hN]; exact o.nd) q1 q2 q3 q4 q5 q6 q7
  · split at h
    · rename_i hb
      simp only [Bool.and_eq_true, beq_iff_eq] at hb
      obtain ⟨⟨⟨h1, h2⟩, h3⟩, h4⟩ := hb
      subst h1
      simp only [Option.bind_eq_some_iff] at h
      obtain ⟨ib, h5, h6⟩ := h
      cases h6
      rw [evE]
      obtain ⟨k, hr, ht, hfs⟩ := o.lev
      have L := LamX.lamS_by (sc := X.env.scope) (by rw [o.sc]; exact h4)
      exact de_told (ht h3) (glB_ok h2 o) L rfl (fun _ _ _ _ _ => rfl) fun A outer s2 H E2 f c' hr2 => s.e _ _ ib h5 F _ E2 C (o.lam L hr2 hfs)
    · cases h
  · split at h
    · rename_i x p as pos _ hb
      rw [Bool.and_eq_true] at hb
      have hg := glB_ok hb.1 o
      have hd := (nameOk_ok hb.2).1
      split at h
      · rename_i f n hf
        split at h
        case isFalse => cases h
        rename_i hlen
        simp only [Option.bind_eq_some_iff] at h
        obtain ⟨is, h2, h4⟩ := h
        cases h4
        rw [evE]
        obtain ⟨k, hr, _, hfs⟩ := o.lev
        obtain ⟨fa, fd, ps, FO, hm, hk, hbd⟩ := hfs x f n hf
        have hr : Room k X.A := hr.mono (Nat.le_add_right _ _)
        have ha := lS_ok o (fun e i h => s.e c e i h F X E C o) h2
        have hst := lS_star h2
        cases as with
        | nil =>
          have e1 : is = .nil := by cases h2; rfl
          subst e1
          rw [evS]
          subst hlen
          exact de_call0 FO hr hg hm hk hbd o.pass hd
        | cons a es =>
          rw [List.all_cons, Bool.and_eq_true] at hst
          exact de_call FO hr hg hm hk hbd o.pass ha hd (star_cons (by simpa using hst.1)) (star_none hst.2)
      · split at h
        · cases h
        · rename_i a es _
          split at h
          · rename_i j hj
            cases h
            split at hj
            · rename_i hb2
              simp only [Bool.and_eq_true, beq_iff_eq] at hb2
              obtain ⟨hes, hx⟩ := hb2
              subst hx
              have hes' : es = [] := by simpa using hes
              subst hes'
              obtain ⟨y, p, rfl, k1, k2, k3, k4⟩ := scOf_ok hj o
              rw [evE]
              exact de_listScr (y := y) k1 k2 k3 k4 hg (o.blt _ (by decide +kernel))
            · cases hj
          split at h
          · rename_i ra hra
            have hes : es = [] ∧ rgArgs c a = some ra := by
              split at hra
              · rename_i he; exact ⟨by simpa using he, hra⟩
              · cases hra
            obtain ⟨rfl, hra⟩ := hes
            have sa : star a = false := by
              obtain ⟨_, _, rfl, _⟩ := rgArgs_ok hra o
              rfl
            split at h
            · rename_i hx
              rw [beq_iff_eq] at hx
              subst hx
              simp only [Option.bind_eq_some_iff] at h
              obtain ⟨is, h2, h4⟩ := h
              cases h4
              rw [evE]
              exact (df_listRg o.calm hg (o.blt _ (by decide +kernel)) (rg_ok s o hra h2) (star_cons sa)).de
            · split at h
              · rename_i hx
                rw [beq_iff_eq] at hx
                subst hx
                simp only [Option.bind_eq_some_iff] at h
                obtain ⟨is, h2, h4⟩ := h
                cases h4
                rw [evE]
                exact de_tupRg o.calm hg (o.blt _ (by decide +kernel)) (rg_ok s o hra h2) (star_cons sa)
              · cases h
          split at h
          · rename_i b hb2
            split at hb2
            · rename_i hb3
              simp only [Bool.and_eq_true, beq_iff_eq] at hb3
              obtain ⟨hes, hx⟩ := hb3
              subst hx
              have hes' : es = [] := by simpa using hes
              subst hes'
              obtain ⟨p2, q, rfl, hg2, sb⟩ := setOf_ok hb2 o
              simp only [Option.bind_eq_some_iff] at h
              obtain ⟨is, h2, h4⟩ := h
              cases h4
              rw [evE]
              exact de_sset o.calm hg (o.blt _ (by decide +kernel)) hg2 (o.blt _ (by decide +kernel)) (lE_dak (fun e i h => s.k c e i h F X E C o) h2) (star_cons sb) rfl
            · cases hb2
          · simp only [Option.bind_eq_some_iff] at h
            obtain ⟨f, h1, is, h2, h4⟩ := h
            cases h4
            rw [evE]
            have ha := lE_dak (fun e i h => s.k c e i h F X E C o) h2
            have hst := lE_star h2
            rw [List.all_cons, Bool.and_eq_true] at hst
            obtain ⟨m1, m2, m3⟩ := blt_ok (X := X) o.calm o.hu h1
            rcases m3 with ⟨T, r0, q1, q2, q3⟩ | ⟨id, r0, q1, q2, q3⟩
            · exact de_callTy q3 q2 hg (o.blt x m1) q1 ha m2 hd (star_cons (by simpa using hst.1)) (star_none hst.2)
            · exact de_callB q3 q2 hg (o.blt x m1) q1 ha m2 hd (star_cons (by simpa using hst.1)) (star_none hst.2)
    · cases h
  · split at h
    · rename_i hb
      simp only [Bool.and_eq_true, beq_iff_eq] at hb
      obtain ⟨⟨h1, h2⟩, h3⟩ := hb
      subst h1
      simp only [Option.bind_eq_some_iff] at h
      obtain ⟨i, h4, ia, h5, h6⟩ := h
      cases h6
      obtain ⟨k1, k2, k3, k4⟩ := slotOf_ok h4 o
      have sa := Bool.not_eq_true' _ |>.mp h2
      obtain ⟨k, hr, _, _⟩ := o.lev
      have hu : X.A.units + 65 < cLine := by have := hr.un; omega
      rw [evE]
      exact de_index hu k1 k2 k3 k4 (s.e c _ ia h5 F X E C o) ⟨rfl, by rw [beq_iff_eq]; exact h3, star_cons sa⟩
    · cases h
  · cases h
theorem stepW_ok (s : Snd r) {op : BoolOp} {p : Pos} (h : stepT r c (.BoolOp op es p) = some i) (o : COk c F X E C) : DW X E C (.BoolOp op es p) (evT F i) := by
  unfold stepT at h
  split at h
  · rename_i he; cases he
  · rename_i he; cases he
  · rename_i op a _ he
    cases he
    have hd := s.t c _ i h F X E C o
    cases op
    · exact dw_one_and hd
    · exact dw_one_or hd
  · rename_i he
    cases he
    simp only [Option.bind_eq_some_iff] at h
    obtain ⟨i1, h1, i2, h2, h3⟩ := h
    cases h3
    rw [evT]
    exact dw_and (s.t c _ i1 h1 F X E C o) (s.w c _ _ _ i2 h2 F X E C o)
  · rename_i he
    cases he
    simp only [Option.bind_eq_some_iff] at h
    obtain ⟨i1, h1, i2, h2, h3⟩ := h
    cases h3
    rw [evT]
    exact dw_or (s.t c _ i1 h1 F X E C o) (s.w c _ _ _ i2 h2 F X E C o)
  · rename_i he; cases he
  · split at h
    · rename_i ht; cases ht
    · cases h
theorem stepT_ok (s : Snd r) (h : stepT r c e = some i) (o : COk c F X E C) : DT X E C e (evT F i) := by
  have h0 := h
  unfold stepT at h
  split at h
  · split at h
    · rename_i hm
      simp only [Option.bind_eq_some_iff] at h
      obtain ⟨g, h1, ia, h2, ib, h3, h4⟩ := h
      cases h4
      obtain ⟨r0, q1, q2⟩ := cmp_ok (X := X) o.hu h1
      rw [evT, evE]
      exact dt_cmp q1 q2 (markOk_is hm) (s.k c _ ia h2 F X E C o) (s.k c _ ib h3 F X E C o)
    · cases h
  · split at h
    · rename_i hm
      simp only [Option.bind_eq_some_iff] at h
      obtain ⟨g, h1, g', h1', ia, h2, ib, h3, id, h5, h4⟩ := h
      cases h4
      obtain ⟨r0, q1, q2⟩ := cmp_ok (X := X) o.hu h1
      obtain ⟨r1, q3, q4⟩ := cmp_ok (X := X) o.hu h1'
      rw [evT, evE]
      exact dt_chain q1 q3 q2 q4 (markOk_last hm) (s.k c _ ia h2 F X E C o) (s.k c _ ib h3 F X E C o) (s.k c _ id h5 F X E C o)
    · cases h
  · exact (stepW_ok s h0 o).dt
  · exact (stepW_ok s h0 o).dt
  · exact (stepW_ok s h0 o).dt
  · simp only [Option.bind_eq_some_iff] at h
    obtain ⟨i1, h1, h2⟩ := h
    cases h2
    rw [evT]
    exact dt_not (s.t c _ i1 h1 F X E C o)
  · split at h
    · rename_i ht
      simp only [Option.bind_eq_some_iff] at h
      obtain ⟨i1, h1, h2⟩ := h
      cases h2
      rw [evT]
      exact dt_tru (s.k c _ i1 h1 F X E C o) (truOk_is ht)
    · cases h
theorem srcK_ok (s : Snd r) {i : List Nat × IX} (h : srcK r c e = some i) (o : COk c F X E C) : DKs X E C e i.1 (evE F i.2) := by
  unfold srcK at h
  split at h
  · split at h
    · rename_i j hj
      cases h
      obtain ⟨k1, k2, k3, k4⟩ := slotOf_ok hj o
      rw [evE]
      exact dks_var k1 k2 k3 k4
    · simp only [Option.bind_eq_some_iff] at h
      obtain ⟨i1, h1, h2⟩ := h
      cases h2
      exact (s.e c _ i1 h1 F X E C o).dks
  · simp only [Option.bind_eq_some_iff] at h
    obtain ⟨i1, h1, h2⟩ := h
    cases h2
    exact (s.e c _ i1 h1 F X E C o).dks
theorem stepI_ok (s : Snd r) {tg : Expr} {i : List Nat × IX} (h : stepI r c tg e = some i) (o : COk c F X E C) : DI X E C tg e i.1 (evI F i.2) := by
  have src : ∀ {i : List Nat × IX}, ((srcK r c e).bind fun i => some (i.1, .seq i.2)) = some i → DI X E C tg e i.1 (evI F i.2) := fun h => by
    simp only [Option.bind_eq_some_iff] at h
    obtain ⟨i1, h1, h2⟩ := h
    cases h2
    rw [evI]
    exact di_src (srcK_ok s h1 o)
  unfold stepI at h
  split at h
  · rename_i as hra
    simp only [Option.bind_eq_some_iff] at h
    obtain ⟨is, h1, h2⟩ := h
    cases h2
    unfold rg3 at hra
    split at hra
    · split at hra
      · rename_i hb
        cases hra
        simp only [Bool.and_eq_true, beq_iff_eq, Bool.not_eq_true'] at hb
        obtain ⟨⟨⟨⟨b1, b2⟩, b3⟩, b4⟩, b5⟩ := hb
        subst b1
        rw [evI]
        exact di_rng3 (glB_ok b2 o) (o.blt _ (by decide +kernel)) (lE_dae (fun e i h => s.e c e i h F X E C o) h1) (star_cons b3) (star_none (by simp [b4, b5]))
      · cases hra
    · cases hra
  split at h
  · rename_i a hra
    simp only [Option.bind_eq_some_iff] at h
    obtain ⟨is, h1, h2⟩ := h
    cases h2
    obtain ⟨p, pos, rfl, hg, hh⟩ := rgArgs_ok hra o
    have sa : star a = false := by
      rcases hh with ⟨a, e, z⟩ | ⟨a, b, e, _⟩
      · cases e; exact z
      · cases e
    rw [evI]
    exact di_rng1 hg (o.blt _ (by decide +kernel)) (lE_dae (fun e i h => s.e c e i h F X E C o) h1) (star_cons sa)
  · rename_i as hne hra
    simp only [Option.bind_eq_some_iff] at h
    obtain ⟨is, h1, h2⟩ := h
    cases h2
    obtain ⟨p, pos, rfl, hg, hh⟩ := rgArgs_ok hra o
    rw [evI]
    rcases hh with ⟨a, rfl, z⟩ | ⟨a, b, rfl, sa, sb⟩
    · exact (hne a rfl).elim
    · exact di_rng2 hg (o.blt _ (by decide +kernel)) (lE_dae (fun e i h => s.e c e i h F X E C o) h1) (by rw [star_cons sa, star_cons sb]; rfl) (star_cons sb)
  · split at h
    · rename_i j hj
      cases h
      obtain ⟨y, p, rfl, k1, k2, k3, k4⟩ := scOf_ok hj o
      rw [evI]
      exact di_scr k1 k2 k3 k4
    split at h
    · rename_i elts kk tpos x p as pos _ _ _
      split at h
      · rename_i hb
        simp only [Bool.and_eq_true, beq_iff_eq, decide_eq_true_eq] at hb
        obtain ⟨⟨h1, h2⟩, h3⟩ := hb
        subst h1
        simp only [Option.bind_eq_some_iff] at h
        obtain ⟨is, h4, h5⟩ := h
        cases h5
        rcases as with _ | ⟨a, _ | ⟨b, t⟩⟩
        · simp at h3
        · have hst := lKs_star h4
          rw [evI]
          exact di_enum (glB_ok h2 o) (o.blt _ (by decide +kernel)) (lKs_ok (fun e i h => srcK_ok s h o) h4) (star_cons (by simpa using hst))
        · simp at h3
      · split at h
        · rename_i hb
          simp only [Bool.and_eq_true, beq_iff_eq, decide_eq_true_eq] at hb
          obtain ⟨⟨h1, h2⟩, h3⟩ := hb
          subst h1
          simp only [Option.bind_eq_some_iff] at h
          obtain ⟨is, h4, h5⟩ := h
          cases h5
          rcases as with _ | ⟨a, _ | ⟨b, _ | ⟨d, t⟩⟩⟩
          · simp at h3
          · simp at h3
          · have hst := lKs_star h4
            simp at hst
            rw [evI]
            exact di_zip2 (glB_ok h2 o) (o.blt _ (by decide +kernel)) (lKs_ok (fun e i h => srcK_ok s h o) h4) (star_cons hst.1) (star_none (by simp [hst.2]))
          · simp at h3
        · split at h
          · rename_i hb
            simp only [Bool.and_eq_true, beq_iff_eq, decide_eq_true_eq] at hb
            obtain ⟨⟨h1, h2⟩, h3⟩ := hb
            subst h1
            simp only [Option.bind_eq_some_iff] at h
            obtain ⟨is, h4, h5⟩ := h
            cases h5
            rcases as with _ | ⟨a, _ | ⟨b, _ | ⟨d, _ | ⟨d2, t⟩⟩⟩⟩
            · simp at h3
            · simp at h3
            · simp at h3
            · have hst := lKs_star h4
              simp at hst
              rw [evI]
              exact di_zip3 (glB_ok h2 o) (o.blt _ (by decide +kernel)) (lKs_ok (fun e i h => srcK_ok s h o) h4) (star_cons hst.1) (star_none (by simp [hst.2]))
            · simp at h3
          · exact src h
    · exact src h
theorem cs_ok : ∀ n, Snd (cs n)
  | 0 => ⟨fun _ _ _ h => (nomatch h), fun _ _ _ h => (nomatch h), fun _ _ _ h => (nomatch h), fun _ _ _ _ _ h => (nomatch h), fun _ _ _ _ h => (nomatch h)⟩
  | n + 1 => ⟨fun c e i h F X E C o => stepE_ok (cs_ok n) h o, fun c e i h F X E C o => stepK_ok (cs_ok n) h o, fun c e i h F X E C o => stepT_ok (cs_ok n) h o, fun c op es p i h F X E C o => stepW_ok (cs_ok n) h o, fun c tg e i h F X E C o => stepI_ok (cs_ok n) h o⟩
end
end L2.DL

set_option Elab.async false
set_option linter.all false
set_option maxRecDepth 100000
set_option maxHeartbeats 4000000
/-! D layer 18: statements as data, and from the tree. -/
namespace L2.DL
open PySem PySem.Spec PyProof.Rows
variable [TabL]

inductive IS where
  | skip | brk | cnt | retN | never
  | ex (e : IX) | asg (t : Tg) (e : IX) | asgO (i : Nat) (e : IX) | ret (e : IX)
  | frz (i : Nat) (a : IS) | seq (a b : IS) | ite (c : IX) (a b : IS) | whl (n : Nat) (c : IX) (a : IS) | forS (vs : List Nat) (it : IX) (t : Tg) (a : IS)
  | app (i : Nat) (e : IX) | ins (i : Nat) (a b : IX) | setIx (i : Nat) (a e : IX) | aug (g : O2) (i : Nat) (e : IX) | par (i j : Nat) (a b : IX) | drSet (i : Nat) (k : Int) (e : IX) | raise (c : Str) | appPop (i j : Nat) (e : IX) | ext (i : Nat) (e : IX) | augIx (g : O2) (i : Nat) (a e : IX)
def sNever : Sf := fun _ _ _ _ _ => .stuck
def evS' (F : Nat → Fn) : IS → Sf
  | .skip => sSkip
  | .brk => sBrk
  | .cnt => sCnt
  | .retN => sRetN
  | .never => sNever
  | .ex e => sEx (evE F e)
  | .asg t e => sAsg t (evE F e)
  | .asgO i e => sAsgO i (evE F e)
  | .ret e => sRet (evE F e)
  | .frz i a => sFrz i (evS' F a)
  | .seq a b => sSeq (evS' F a) (evS' F b)
  | .ite c a b => sIf (evT F c) (evS' F a) (evS' F b)
  | .whl n c a => sWhile n (evT F c) (evS' F a)
  | .forS vs it t a => sFor vs (evI F it) t (evS' F a)
  | .app i e => sMeth1 fApp i (evE F e)
  | .ins i a b => sMeth2 fIns i (evE F a) (evE F b)
  | .setIx i a e => sSetIx i (evE F a) (evE F e)
  | .aug g i e => sAug (gInts g.g) i (evE F e)
  | .par i j a b => sPar i j (evE F a) (evE F b)
  | .drSet i k e => sDrSet i k (evE F e)
  | .raise c => sRaise c
  | .appPop i j e => sAppPop i j (evE F e)
  | .ext i e => sMeth1 fExt i (evE F e)
  | .augIx g i a e => sAugIx (gInts g.g) i (evE F a) (evE F e)

/-! ### the tree's side conditions -/
def compB : Expr → Bool
  | .ListComp .. => true
  | .SetComp .. => true
  | .DictComp .. => true
  | _ => false
theorem swaps_no {e : Expr} {t : Option Expr} {n : Nat} {env : Env} (h : compB e = false) : swapsWith e t n env = pure false := by
  cases e <;> first | rfl | cases h
theorem sole_no {e t : Expr} {n : Nat} {env : Env} (h : compB e = false) : swapsWithSole [t] e n env = pure false := swaps_no h
/-- y = [..]: are the stores swapped -/
def swLc (c : CC) (scope : Scope) (y : Str) (py pos : Pos) : Bool := c.sc.names.lookup y == some .local && py.line == pos.line && !(scope.names.any fun (n, k) => n == y && (k == .local || k == .cell))
theorem swLc_is {c : CC} {env : Env} {elt : Expr} {gens : List Comprehension} {scope : Scope} {pos py : Pos} {y : Str} {n : Nat} (hs : env.scope = c.sc) (hk : c.sc.kind = .function) :
    swapsWith (.ListComp elt gens scope pos) (some (.Name y py)) n env = pure (swLc c scope y py pos) := by
  show pure (env.blockKind == .function && env.kindOf y == some .local && py.line == pos.line && !(scope.names.any fun (n, k) => n == y && (k == .local || k == .cell))) = _
  have hb : (env.blockKind == ScopeKind.function) = true := by
    unfold Env.blockKind
    rw [hs, hk]
    rfl
  unfold swLc Env.kindOf
  rw [hb, hs, Bool.true_and]
/-- a, b = x, y: in which order it is stored -/
def swS (c : CC) (ts vs : List Expr) : Option (Option (List Str)) :=
  if !(ts.length == 2 || ts.length == 3) || vs.length != ts.length then some none
  else if vs.any star then some none
  else
    let line := (ts.head?.map (·.pos.line)).getD 0
    let names := ts.filterMap fun
      | .Name id pos => if c.sc.names.lookup id == some .local && pos.line == line then some id else none
      | _ => none
    if names.length != ts.length || names.eraseDups.length != names.length then some none
    else if vs.all (foldedForSure 8) then some none
    else if vs.all (constantsAlone 8) then none
    else some (some names)
theorem swS_is {c : CC} {env : Env} {ts vs : List Expr} {k k2 : Nat} {p p2 : Pos} {r : Option (List Str)} (hs : env.scope = c.sc) (hk : c.sc.kind = .function) (h : swS c ts vs = some r) : swappedStores [.Tuple ts k p] (.Tuple vs k2 p2) env = pure r := by
  have hb : (env.blockKind != ScopeKind.function) = false := by
    unfold Env.blockKind
    rw [hs, hk]
    rfl
  obtain ⟨esc, _⟩ : ∃ x, x = env := ⟨env, rfl⟩
  have hsw : swappedStores [.Tuple ts k p] (.Tuple vs k2 p2) env = (
      if !(ts.length == 2 || ts.length == 3) || vs.length != ts.length || env.blockKind != .function then pure none
      else if vs.any (fun | .Starred .. => true | _ => false) then pure none
      else
        let line := (ts.head?.map (·.pos.line)).getD 0
        let names := ts.filterMap fun
          | .Name id pos => if env.kindOf id == some .local && pos.line == line then some id else none
          | _ => none
        if names.length != ts.length || names.eraseDups.length != names.length then pure none
        else if vs.all (foldedForSure 8) then pure none
        else if vs.all (constantsAlone 8) then (do let _ ← (unsupported "assign.tuple-of-constant-expressions:order-of-the-stores" : Sem PUnit); pure (some names)) else pure (some names)) := rfl
  rw [hsw, hb, Bool.or_false]
  unfold Env.kindOf
  rw [hs]
  unfold swS at h
  have hst : (fun e : Expr => match e with | .Starred .. => true | _ => false) = star := by
    funext e; cases e <;> rfl
  split at h
  · rename_i h1; cases h; exact if_pos h1
  rename_i h1
  refine (if_neg h1).trans ?_
  split at h
  · rename_i h2; cases h
    exact if_pos ((congrArg (fun f => vs.any f) hst).trans h2)
  rename_i h2
  refine (if_neg (fun z => h2 ((congrArg (fun f => vs.any f) hst).symm.trans z))).trans ?_
  dsimp only at h
  split at h
  · rename_i h3; cases h; exact if_pos h3
  rename_i h3
  refine (if_neg h3).trans ?_
  split at h
  · rename_i h4; cases h; exact if_pos h4
  rename_i h4
  refine (if_neg h4).trans ?_
  split at h
  · cases h
  rename_i h5
  cases h
  exact if_neg h5
end L2.DL

set_option Elab.async false
set_option linter.all false
set_option maxRecDepth 100000
set_option maxHeartbeats 4000000
/-! D layer 19: statements from the tree. -/
namespace L2.DL
open PySem PySem.Spec PyProof.Rows
variable [TabL]

/-- the slots read as closed values -/
def IX.uses : IX → List Nat
  | .var i => [i]
  | .b2 _ a b => a.uses ++ b.uses
  | .ch _ _ a b q => a.uses ++ (b.uses ++ q.uses)
  | .andV a b => a.uses ++ b.uses
  | .orV a b => a.uses ++ b.uses
  | .notV a => a.uses
  | .neg a => a.uses
  | .ife q a b => q.uses ++ (a.uses ++ b.uses)
  | .ix a b => a.uses ++ b.uses
  | .sl a lo hi => a.uses ++ (lo.uses ++ hi.uses)
  | .tup a => a.uses
  | .lst a => a.uses
  | .cons a b => a.uses ++ b.uses
  | .bi _ a => a.uses
  | .call _ _ a => a.uses
  | .argC a b => a.uses ++ b.uses
  | .argV i a => i :: a.uses
  | .lc it _ _ q e => it.uses ++ (q.uses ++ e.uses)
  | .tru a => a.uses
  | .tev a => a.uses
  | .tnot a => a.uses
  | .tif q a b => q.uses ++ (a.uses ++ b.uses)
  | .seq a => a.uses
  | .enum a => a.uses
  | .zip2 a => a.uses
  | .zip3 a => a.uses
  | .rng1 a => a.uses
  | .rng2 a => a.uses
  | .listRg a => a.uses
  | .tupRg a => a.uses
  | .fl a => a.uses
  | .told a => a.uses
  | .idx _ a => a.uses
  | .rev a => a.uses
  | .rng3 a => a.uses
  | _ => []
def wrap (mu us : List Nat) (s : IS) : IS := ((us.filter fun i => mu.contains i).eraseDups).foldr (fun i a => .frz i a) s
def stepF (r : Cs) (c : CC) (e : Expr) : Option IX := match e with
  | .List es _ => (lE (r.e c) es).bind fun as => some (.lst as)
  | .BinOp a .Add b _ => (r.k c a).bind fun ia => (r.k c b).bind fun ib => some (.fl (.b2 .add ia ib))
  | .BinOp a .Mult b _ => (r.k c a).bind fun ia => (r.k c b).bind fun ib => some (.fl (.b2 .mul ia ib))
  | .Call (.Name x _) [a] [] _ => if x == ("list" : Str) && glB c.sc x && (c.fns.lookup x).isNone then
      match rgArgs c a with
      | some ra => (lE (r.e c) ra).bind fun is => some (.listRg is)
      | none => (lE (r.k c) [a]).bind fun is => some (.fl (.bi .list is))
    else none
  | _ => none
def stepN (r : Cs) (c : CC) (mu : List Nat) (y : Str) (py : Pos) (e : Expr) : Option IS := match e with
  | .ListComp elt [⟨tg, iter, ifs, 0⟩] scope p =>
    if swLc c scope y py p then (c.N.idxOf? y).bind fun i => (sLc r c elt tg iter ifs scope).bind fun ie => some (wrap mu ie.uses (if mu.contains i then .asgO i ie else .asg (.nm i) ie))
    else match tgOf c 1 (.Name y py) with
      | some (.nm i) => (sLc r c elt tg iter ifs scope).bind fun ie => some (wrap mu ie.uses (if mu.contains i then .asgO i ie else .asg (.nm i) ie))
      | _ => none
  | e => if compB e then none else match tgOf c 1 (.Name y py) with
    | some (.nm i) => match (if mu.contains i then stepF r c e else none) with
      | some ie => some (wrap mu ie.uses (.asgO i ie))
      | none => (r.e c e).bind fun ie => some (wrap mu ie.uses (.asg (.nm i) ie))
    | _ => none
def stepP (r : Cs) (c : CC) (mu : List Nat) (ts vs : List Expr) : Option IS := match ts, vs with
  | [.Name x _, .Name y _], [a, b] => (c.N.idxOf? x).bind fun i => (c.N.idxOf? y).bind fun j =>
    if i ≠ j ∧ c.sc.names.lookup x = some .local ∧ c.sc.names.lookup y = some .local ∧ star a = false ∧ star b = false ∧ swS c ts vs = some (some [x, y]) then
      (r.e c a).bind fun ia => (r.e c b).bind fun ib => some (wrap mu (ia.uses ++ ib.uses) (.par i j ia ib))
    else none
  | _, _ => none
def stepAs (r : Cs) (c : CC) (mu : List Nat) (tg e : Expr) : Option IS := match tg with
  | .Name y py => stepN r c mu y py e
  | .Tuple ts k p => if compB e then none else match e with
    | .Tuple vs _ _ => if swS c ts vs = some none then (tgOf c 8 (.Tuple ts k p)).bind fun t => (r.e c e).bind fun ie => some (wrap mu ie.uses (.asg t ie)) else stepP r c mu ts vs
    | _ => (tgOf c 8 (.Tuple ts k p)).bind fun t => (r.e c e).bind fun ie => some (wrap mu ie.uses (.asg t ie))
  | .Subscript (.Name x p0) a _ => if compB e then none else match drOf c (.Name x p0) a with
    | some d => (r.e c e).bind fun ie => some (wrap mu ie.uses (.drSet d.1 d.2 ie))
    | none => if ixOk a then (slotOf c x).bind fun i => (r.e c a).bind fun ia => (r.e c e).bind fun ie => some (wrap mu (ia.uses ++ ie.uses) (.setIx i ia ie)) else none
  | _ => none
def augOf : Operator → Option O2
  | .Add => some .add | .Sub => some .sub | .Mult => some .mul | .FloorDiv => some .div | .Mod => some .mod | .BitXor => some .xor
  | _ => none
def docB : Expr → Bool
  | .Constant (.str _) _ _ => true
  | _ => false
def stepX1 (r : Cs) (c : CC) (mu : List Nat) (e : Expr) : Option IS := match e with
  | .Call (.Attribute (.Name x _) m apos) [a] [] cpos => if m == ("append" : Str) && !star a && apos.endLine == cpos.line then (slotOf c x).bind fun i => (r.e c a).bind fun ia => some (wrap mu ia.uses (.app i ia)) else none
  | .Call (.Attribute (.Name x _) m apos) [a, b] [] cpos => if m == ("insert" : Str) && !star a && !star b && apos.endLine == cpos.line then (slotOf c x).bind fun i => (r.e c a).bind fun ia => (r.e c b).bind fun ib => some (wrap mu (ia.uses ++ ib.uses) (.ins i ia ib)) else none
  | e => if docB e then some .skip else if compB e then none else (r.e c e).bind fun ie => some (wrap mu ie.uses (.ex ie))
def stepX (r : Cs) (c : CC) (mu : List Nat) (e : Expr) : Option IS := match e with
  | .Call (.Attribute (.Name x _) m apos) [.Call (.Attribute (.Name y _) m2 apos2) [a] [] cpos2] [] cpos => if m == ("append" : Str) && m2 == ("pop" : Str) && !star a && apos.endLine == cpos.line && apos2.endLine == cpos2.line then (slotOf c x).bind fun i => (slotOf c y).bind fun j => (r.e c a).bind fun ia => some (wrap mu ia.uses (.appPop i j ia)) else stepX1 r c mu e
  | .Call (.Attribute (.Name x _) m apos) [a] [] cpos => if m == ("extend" : Str) && !star a && apos.endLine == cpos.line then (slotOf c x).bind fun i => (r.e c a).bind fun ia => some (wrap mu ia.uses (.ext i ia)) else stepX1 r c mu e
  | e => stepX1 r c mu e
def cB (f : Stmt → Option IS) : List Stmt → Option IS
  | [] => some .skip
  | s :: rest => match rest with
    | [] => f s
    | _ :: _ => (f s).bind fun a => (cB f rest).bind fun b => some (.seq a b)
def WN : Nat := 100000
def stepS (r : Cs) (c : CC) (mu : List Nat) (f : Stmt → Option IS) (st : Stmt) : Option IS := match st with
  | .Pass _ => some .skip
  | .Break _ => some .brk
  | .Continue _ => some .cnt
  | .Return none _ => some .retN
  | .Return (some e) _ => (r.e c e).bind fun ie => some (.ret ie)
  | .Raise (some (.Call (.Name x _) [.Constant (.str k) _ _] [] _)) none _ => if x == ("SecretError" : Str) && glB c.sc x && c.rse then some (.raise k) else some .never
  | .Raise .. => some .never
  | .Expr e _ => stepX r c mu e
  | .Assign [tg] e _ => stepAs r c mu tg e
  | .AugAssign (.Name x _) op e _ => (augOf op).bind fun g => match tgOf c 1 (.Name x ⟨0, 0, 0, 0⟩) with
    | some (.nm i) => (r.e c e).bind fun ie => some (wrap mu ie.uses (.aug g i ie))
    | _ => none
  | .AugAssign (.Subscript (.Name x _) a _) op e _ => if ixOk a then (augOf op).bind fun g => (slotOf c x).bind fun i => (r.e c a).bind fun ia => (r.e c e).bind fun ie => some (wrap mu (ia.uses ++ ie.uses) (.augIx g i ia ie)) else none
  | .If q a b _ => (r.t c q).bind fun iq => (cB f a).bind fun ia => (cB f b).bind fun ib => some (wrap mu iq.uses (.ite iq ia ib))
  | .While q a [] _ => (r.t c q).bind fun iq => (cB f a).bind fun ia => some (.whl WN iq ia)
  | .For tg iter a [] _ => if foldOk iter then (r.i c tg iter).bind fun it => (tgOf c 8 tg).bind fun t => (cB f a).bind fun ia => some (wrap mu it.2.uses (.forS it.1 it.2 t ia)) else none
  | _ => none
def cS (r : Cs) (c : CC) (mu : List Nat) : Nat → Stmt → Option IS
  | 0, _ => none
  | n + 1, st => stepS r c mu (cS r c mu n) st

/-! ### it is right -/
structure SOk (c : CC) (F : Nat → Fn) (X : Cx) (E : XK) (C : Addr) : Prop extends COk c F X E C where
  kind : c.sc.kind = .function
  own : PassesOwn (model X.prog X.w) X.A X.env X.xe
section
variable {r : Cs} {c : CC} {F : Nat → Fn} {X : Cx} {E : XK} {C : Addr} {e a b : Expr} {es : List Expr} {i : IX} {mu : List Nat} {st : Stmt} {s : IS}
theorem DS.frz {f : Sf} (h : DS X E C st f) (i : Nat) : DS X E C st (sFrz i f) := by
  obtain ⟨t, p, q⟩ := h
  exact ⟨t, p, q.frz i⟩
theorem wrap_ok {us : List Nat} (h : DS X E C st (evS' F s)) : DS X E C st (evS' F (wrap mu us s)) := by
  unfold wrap
  generalize (us.filter fun i => mu.contains i).eraseDups = l
  induction l with
  | nil => exact h
  | cons i l ih =>
    rw [List.foldr_cons, evS']
    exact ih.frz i
theorem rgArgs_star {ra : List Expr} (hra : rgArgs c e = some ra) (o : COk c F X E C) : star e = false := by
  obtain ⟨_, _, rfl, _⟩ := rgArgs_ok hra o
  rfl
theorem stepF_ok (sn : Snd r) (h : stepF r c e = some i) (o : COk c F X E C) : DF X E C e (evE F i) := by
  unfold stepF at h
  split at h
  · simp only [Option.bind_eq_some_iff] at h
    obtain ⟨as, h1, h2⟩ := h
    cases h2
    rw [evE]
    exact df_lst (lE_dae (fun e i h => sn.e c e i h F X E C o) h1)
  · simp only [Option.bind_eq_some_iff] at h
    obtain ⟨ia, h1, ib, h2, h3⟩ := h
    cases h3
    rw [evE, evE]
    exact df_bin op_add4 f_add (sn.k c _ ia h1 F X E C o) (sn.k c _ ib h2 F X E C o)
  · simp only [Option.bind_eq_some_iff] at h
    obtain ⟨ia, h1, ib, h2, h3⟩ := h
    cases h3
    rw [evE, evE]
    exact df_bin op_mul3 f_mul (sn.k c _ ia h1 F X E C o) (sn.k c _ ib h2 F X E C o)
  · split at h
    · rename_i hb
      simp only [Bool.and_eq_true, beq_iff_eq] at hb
      obtain ⟨⟨h1, h2⟩, h3⟩ := hb
      subst h1
      have hg := glB_ok h2 o
      split at h
      · rename_i ra hra
        simp only [Option.bind_eq_some_iff] at h
        obtain ⟨is, h4, h5⟩ := h
        cases h5
        have sa := rgArgs_star hra o
        rw [evE]
        exact df_listRg o.calm hg (o.blt _ (by decide +kernel)) (rg_ok sn o hra h4) (star_cons sa)
      · simp only [Option.bind_eq_some_iff] at h
        obtain ⟨is, h4, h5⟩ := h
        cases h5
        have hst := lE_star h4
        rw [List.all_cons, Bool.and_eq_true] at hst
        rw [evE, evE]
        exact df_callTy (T := "list") f_list call_list_of hg (o.blt _ (by decide +kernel)) (by kernel_rfl) (lE_dak (fun e i h => sn.k c e i h F X E C o) h4) (by decide +kernel) (by decide +kernel) (star_cons (by simpa using hst.1)) (star_none hst.2)
    · cases h
  · cases h
theorem nm_ok {x : Str} {p : Pos} {j : Nat} (h : tgOf c 1 (.Name x p) = some (.nm j)) (o : COk c F X E C) : X.N[j]? = some x ∧ Loc X.env.scope x ∧ (X.fn x = true ∨ X.env.scope.names.lookup x = some .local) := by
  unfold tgOf at h
  dsimp only at h
  split at h
  · rename_i hv
    simp only [Bool.or_eq_true, Bool.and_eq_true, beq_iff_eq] at hv
    cases hj : c.N.idxOf? x with
    | none => rw [hj] at h; cases h
    | some j =>
      rw [hj] at h
      cases h
      exact ⟨by rw [o.hN]; exact idx_ok hj, by unfold Loc; rw [o.sc]; exact hv.imp id fun z => z.1, by rw [o.sc]; exact hv.elim .inr fun z => .inl (o.fnc x z.2)⟩
  · cases h
theorem asgEach_one {tg : Expr} {env : Env} (h : star tg = false) : (assignEach [tg] env).map (·.2) = [assign tg env] := by
  cases tg <;> first | rfl | cases h
theorem stepN_ok (sn : Snd r) {y : Str} {py pos : Pos} (h : stepN r c mu y py e = some s) (o : SOk c F X E C) : DS X E C (.Assign [.Name y py] e pos) (evS' F s) := by
  have nd : X.N.Nodup := by rw [o.hN]; exact o.nd
  unfold stepN at h
  split at h
  · rename_i elt tg iter ifs scope p
    have hsw := swLc_is (c := c) (env := X.env) (elt := elt) (gens := [⟨tg, iter, ifs, 0⟩]) (scope := scope) (pos := p) (py := py) (y := y) (n := pos.line) o.sc o.kind
    split at h
    · rename_i hb
      simp only [Option.bind_eq_some_iff] at h
      obtain ⟨i, h1, ie, h2, h3⟩ := h
      cases h3
      apply wrap_ok
      obtain ⟨vs, fi, t, ft, fe, q0, q1, q2, q3, q4, q5, q6, q7⟩ := sLc_ok sn o.toCOk h2
      have hl : X.env.scope.names.lookup y = some .local := by
        unfold swLc at hb
        simp only [Bool.and_eq_true, beq_iff_eq] at hb
        rw [o.sc]
        exact hb.1.1
      have hi : X.N[i]? = some y := by rw [o.hN]; exact idx_ok h1
      rw [hb] at hsw
      split
      · rw [evS', q0]
        exact ds_asgOLc o.calm nd hi hl hsw q1 q2 q3 q4 q5 q6 q7
      · rw [evS', q0]
        exact ds_asgLc o.calm nd hi hl hsw q1 q2 q3 q4 q5 q6 q7
    · rename_i hb
      have hb' : swLc c scope y py p = false := by simpa using hb
      rw [hb'] at hsw
      split at h
      · rename_i i hi
        simp only [Option.bind_eq_some_iff] at h
        obtain ⟨ie, h2, h3⟩ := h
        cases h3
        apply wrap_ok
        obtain ⟨vs, fi, t, ft, fe, q0, q1, q2, q3, q4, q5, q6, q7⟩ := sLc_ok sn o.toCOk h2
        obtain ⟨k1, k2, k3⟩ := nm_ok hi o.toCOk
        split
        · rw [evS', q0]
          exact ds_asgO nd k1 k2 k3 (df_lc o.calm nd q1 q2 q3 q4 q5 q6 q7) hsw rfl rfl
        · rw [evS', q0]
          exact ds_asg (de_lc o.calm nd q1 q2 q3 q4 q5 q6 q7) (dg_name nd k1 k2 k3) hsw rfl rfl
      · cases h
  · split at h
    · cases h
    rename_i hc
    have hc' : compB e = false := by simpa using hc
    split at h
    · rename_i i hi
      obtain ⟨k1, k2, k3⟩ := nm_ok hi o.toCOk
      split at h
      · rename_i ie hie
        cases h
        have hF : stepF r c e = some ie := by
          split at hie
          · exact hie
          · cases hie
        apply wrap_ok
        rw [evS']
        exact ds_asgO nd k1 k2 k3 (stepF_ok sn hF o.toCOk) (sole_no hc') rfl rfl
      · simp only [Option.bind_eq_some_iff] at h
        obtain ⟨ie, h2, h3⟩ := h
        cases h3
        apply wrap_ok
        rw [evS']
        exact ds_asg (sn.e c _ ie h2 F X E C o.toCOk) (dg_name nd k1 k2 k3) (sole_no hc') rfl rfl
    · cases h
theorem stepP_ok (sn : Snd r) {ts vs : List Expr} {k k2 : Nat} {p p2 pos : Pos} (h : stepP r c mu ts vs = some s) (o : SOk c F X E C) : DS X E C (.Assign [.Tuple ts k p] (.Tuple vs k2 p2) pos) (evS' F s) := by
  have nd : X.N.Nodup := by rw [o.hN]; exact o.nd
  unfold stepP at h
  split at h
  · simp only [Option.bind_eq_some_iff] at h
    obtain ⟨i, h1, j, h2, h⟩ := h
    split at h
    · rename_i hb
      obtain ⟨b1, b2, b3, b4, b5, b6⟩ := hb
      simp only [Option.bind_eq_some_iff] at h
      obtain ⟨ia, h3, ib, h4, h5⟩ := h
      cases h5
      apply wrap_ok
      rw [evS']
      exact ds_par o.calm nd (by rw [o.hN]; exact idx_ok h1) (by rw [o.hN]; exact idx_ok h2) b1 (by rw [o.sc]; exact b2) (by rw [o.sc]; exact b3) (sn.e c _ ia h3 F X E C o.toCOk) (sn.e c _ ib h4 F X E C o.toCOk) (star_cons b4) (star_cons b5)
        (swS_is o.sc o.kind b6) rfl
    · cases h
  · cases h
theorem asgIx_is {x : Expr} {p : Pos} {env : Env} (h : ixOk a = true) : ∀ v, assign (.Subscript x a p) env v = (do
      let ov ← holding [v] (eval x env)
      let iv ← holding [v, ov] (eval a env)
      standAt p
      holding [v, ov, iv] (setItem ov iv v)
      release [v, ov, iv] []) := by
  intro v
  cases a <;> first | rfl | cases h
theorem drSet_ok {d : Nat × Int} {x : Str} {p0 p1 pos : Pos} {fe : Ev D} (h : drOf c (.Name x p0) a = some d) (o : COk c F X E C) (he : DE X E C e fe) (hc : compB e = false) : DS X E C (.Assign [.Subscript (.Name x p0) a p1] e pos) (sDrSet d.1 d.2 fe) := by
  unfold drOf at h
  split at h
  · rename_i heq
    cases heq
    split at h
    · simp only [Option.bind_eq_some_iff] at h
      obtain ⟨i, h1, h2⟩ := h
      cases h2
      obtain ⟨k1, k2, k3, k4⟩ := slotOf_ok h1 o
      exact ds_drSet k1 k2 k3 k4 he (sole_no hc) rfl
    · cases h
  · cases h
theorem stepAs_ok (sn : Snd r) {tg : Expr} {pos : Pos} (h : stepAs r c mu tg e = some s) (o : SOk c F X E C) : DS X E C (.Assign [tg] e pos) (evS' F s) := by
  unfold stepAs at h
  split at h
  · exact stepN_ok sn h o
  · split at h
    · cases h
    rename_i hc
    have hc' : compB e = false := by simpa using hc
    split at h
    · split at h
      · rename_i hs
        simp only [Option.bind_eq_some_iff] at h
        obtain ⟨t, h1, ie, h2, h3⟩ := h
        cases h3
        apply wrap_ok
        rw [evS']
        exact ds_asg (sn.e c _ ie h2 F X E C o.toCOk) (tgOf_ok o.toCOk h1) (sole_no hc') (swS_is o.sc o.kind hs) rfl
      · exact stepP_ok sn h o
    · rename_i hne
      simp only [Option.bind_eq_some_iff] at h
      obtain ⟨t, h1, ie, h2, h3⟩ := h
      cases h3
      apply wrap_ok
      rw [evS']
      refine ds_asg (sn.e c _ ie h2 F X E C o.toCOk) (tgOf_ok o.toCOk h1) (sole_no hc') ?_ rfl
      cases e <;> first | rfl | exact (hne _ _ _ rfl).elim
  · split at h
    · cases h
    rename_i hc
    have hc' : compB e = false := by simpa using hc
    split at h
    · rename_i d hd
      simp only [Option.bind_eq_some_iff] at h
      obtain ⟨ie, h3, h4⟩ := h
      cases h4
      apply wrap_ok
      rw [evS']
      exact drSet_ok hd o.toCOk (sn.e c _ ie h3 F X E C o.toCOk) hc'
    split at h
    · rename_i hix
      simp only [Option.bind_eq_some_iff] at h
      obtain ⟨i, h1, ia, h2, ie, h3, h4⟩ := h
      cases h4
      apply wrap_ok
      obtain ⟨k1, k2, k3, k4⟩ := slotOf_ok h1 o.toCOk
      rw [evS']
      exact ds_setIx k1 k2 k3 k4 (sn.e c _ ia h2 F X E C o.toCOk) (sn.e c _ ie h3 F X E C o.toCOk) (asgIx_is hix) (sole_no hc') rfl rfl
    · cases h
  · cases h
theorem augSt_is {a : Expr} {ov iv new : Value} (h : ixOk a = true) : augStore a ov iv new = (do holding [new, ov, iv] (setItem ov iv new); release [new, ov, iv] []; pure .next) := by
  cases a <;> first | rfl | cases h
theorem stepX1_ok (sn : Snd r) {pos : Pos} (h : stepX1 r c mu e = some s) (o : SOk c F X E C) : DS X E C (.Expr e pos) (evS' F s) := by
  unfold stepX1 at h
  split at h
  · split at h
    · rename_i hb
      simp only [Bool.and_eq_true, beq_iff_eq] at hb
      obtain ⟨⟨h1, h2⟩, h3⟩ := hb
      subst h1
      simp only [Option.bind_eq_some_iff] at h
      obtain ⟨i, h4, ia, h5, h6⟩ := h
      cases h6
      apply wrap_ok
      obtain ⟨k1, k2, k3, k4⟩ := slotOf_ok h4 o.toCOk
      have sa := Bool.not_eq_true' _ |>.mp h2
      rw [evS']
      exact ds_append k1 k2 k3 k4 (sn.e c _ ia h5 F X E C o.toCOk) ⟨rfl, by rw [star_cons sa]; rfl, by rw [beq_iff_eq]; exact h3, star_cons sa, rfl⟩ rfl
    · cases h
  · split at h
    · rename_i hb
      simp only [Bool.and_eq_true, beq_iff_eq] at hb
      obtain ⟨⟨⟨h1, h2⟩, h2'⟩, h3⟩ := hb
      subst h1
      simp only [Option.bind_eq_some_iff] at h
      obtain ⟨i, h4, ia, h5, ib, h5', h6⟩ := h
      cases h6
      apply wrap_ok
      obtain ⟨k1, k2, k3, k4⟩ := slotOf_ok h4 o.toCOk
      have sa := Bool.not_eq_true' _ |>.mp h2
      have sb := Bool.not_eq_true' _ |>.mp h2'
      rw [evS']
      exact ds_insert k1 k2 k3 k4 (sn.e c _ ia h5 F X E C o.toCOk) (sn.e c _ ib h5' F X E C o.toCOk) ⟨rfl, by rw [star_cons sa, star_cons sb]; rfl, by rw [beq_iff_eq]; exact h3, star_cons sa, star_none (by simp [sb])⟩ (star_cons sb) rfl
    · cases h
  · split at h
    · rename_i hd
      cases h
      rw [evS']
      unfold docB at hd
      split at hd
      · exact ds_doc
      · cases hd
    · split at h
      · cases h
      rename_i hc
      have hc' : compB e = false := by simpa using hc
      simp only [Option.bind_eq_some_iff] at h
      obtain ⟨ie, h2, h3⟩ := h
      cases h3
      apply wrap_ok
      rw [evS']
      exact ds_ex (sn.e c _ ie h2 F X E C o.toCOk) (swaps_no hc')
theorem stepX_ok (sn : Snd r) {pos : Pos} (h : stepX r c mu e = some s) (o : SOk c F X E C) : DS X E C (.Expr e pos) (evS' F s) := by
  unfold stepX at h
  split at h
  · split at h
    · rename_i hb
      simp only [Bool.and_eq_true, beq_iff_eq] at hb
      obtain ⟨⟨⟨⟨h1, h2⟩, h3⟩, h4⟩, h5⟩ := hb
      subst h1
      subst h2
      simp only [Option.bind_eq_some_iff] at h
      obtain ⟨i, h6, j, h7, ia, h8, h9⟩ := h
      cases h9
      apply wrap_ok
      obtain ⟨k1, k2, k3, k4⟩ := slotOf_ok h6 o.toCOk
      obtain ⟨l1, l2, l3, l4⟩ := slotOf_ok h7 o.toCOk
      have sa := Bool.not_eq_true' _ |>.mp h3
      rw [evS']
      exact ds_appPop k1 k2 k3 k4 l1 l2 l3 l4 (sn.e c _ ia h8 F X E C o.toCOk) ⟨rfl, rfl, by rw [beq_iff_eq]; exact h4, rfl, rfl⟩ ⟨rfl, by rw [star_cons sa]; rfl, by rw [beq_iff_eq]; exact h5, star_cons sa, rfl⟩ rfl
    · exact stepX1_ok sn h o
  · split at h
    · rename_i hb
      simp only [Bool.and_eq_true, beq_iff_eq] at hb
      obtain ⟨⟨h1, h2⟩, h3⟩ := hb
      subst h1
      simp only [Option.bind_eq_some_iff] at h
      obtain ⟨i, h4, ia, h5, h6⟩ := h
      cases h6
      apply wrap_ok
      obtain ⟨k1, k2, k3, k4⟩ := slotOf_ok h4 o.toCOk
      have sa := Bool.not_eq_true' _ |>.mp h2
      rw [evS']
      exact ds_extend k1 k2 k3 k4 (sn.e c _ ia h5 F X E C o.toCOk) ⟨rfl, by rw [star_cons sa]; rfl, by rw [beq_iff_eq]; exact h3, star_cons sa, rfl⟩ rfl
    · exact stepX1_ok sn h o
  · exact stepX1_ok sn h o
theorem aug_ok {op : Operator} {g : O2} (h : augOf op = some g) : ∃ r, PIp X op r ∧ OpD X.K r (gInts g.g) := by
  cases op <;> cases h
  · exact ⟨_, iop_add, da_add⟩
  · exact ⟨_, iop_sub, da_sub⟩
  · exact ⟨_, iop_mulW, da_mul⟩
  · exact ⟨_, iop_mod, da_mod⟩
  · exact ⟨_, iop_xor, da_xor⟩
  · exact ⟨_, iop_fdivW, da_div⟩
theorem cB_ok {f : Stmt → Option IS} (h : ∀ st s, f st = some s → DS X E C st (evS' F s)) : ∀ {sts : List Stmt} {s : IS}, cB f sts = some s → DSs X E C sts (evS' F s)
  | [], s, hs => by
    cases hs
    rw [evS']
    exact dss_nil
  | [st], s, hs => dss_one (h st s hs)
  | st :: st2 :: rest, s, hs => by
    unfold cB at hs
    simp only [Option.bind_eq_some_iff] at hs
    obtain ⟨a, h1, b, h2, h3⟩ := hs
    cases h3
    rw [evS']
    exact dss_cons (h st a h1) (cB_ok h h2)
theorem stepS_ok (sn : Snd r) {f : Stmt → Option IS} (hf : ∀ st s, f st = some s → DS X E C st (evS' F s)) (h : stepS r c mu f st = some s) (o : SOk c F X E C) : DS X E C st (evS' F s) := by
  have nd : X.N.Nodup := by rw [o.hN]; exact o.nd
  unfold stepS at h
  split at h
  · cases h; rw [evS']; exact ds_pass
  · cases h; rw [evS']; exact ds_brk
  · cases h; rw [evS']; exact ds_cnt
  · cases h; rw [evS']; exact ds_retN
  · simp only [Option.bind_eq_some_iff] at h
    obtain ⟨ie, h2, h3⟩ := h
    cases h3
    rw [evS']
    exact ds_ret (sn.e c _ ie h2 F X E C o.toCOk)
  · split at h
    · rename_i hb
      simp only [Bool.and_eq_true, beq_iff_eq] at hb
      obtain ⟨⟨h1, h2⟩, h3⟩ := hb
      subst h1
      cases h
      rw [evS']
      exact ds_raise o.calm (o.rse h3) (glB_ok h2 o.toCOk)
    · cases h
      rw [evS']
      exact ⟨_, ps_never, fun en Lk k kb kc r D σ H env s sr e G => (G.ns e.symm).elim⟩
  · cases h
    rw [evS']
    exact ⟨_, ps_never, fun en Lk k kb kc r D σ H env s sr e G => (G.ns e.symm).elim⟩
  · exact stepX_ok sn h o
  · exact stepAs_ok sn h o
  · simp only [Option.bind_eq_some_iff] at h
    obtain ⟨g, h1, h⟩ := h
    split at h
    · rename_i i hi
      simp only [Option.bind_eq_some_iff] at h
      obtain ⟨ie, h2, h3⟩ := h
      cases h3
      obtain ⟨k1, k2, k3⟩ := nm_ok hi o.toCOk
      obtain ⟨r0, q1, q2⟩ := aug_ok (X := X) h1
      apply wrap_ok
      rw [evS']
      exact ds_aug q1 q2 nd k1 k2 k3 (sn.e c _ ie h2 F X E C o.toCOk)
    · cases h
  · split at h
    · rename_i hix
      simp only [Option.bind_eq_some_iff] at h
      obtain ⟨g, h1, i, h2, ia, h3, ie, h4, h5⟩ := h
      cases h5
      obtain ⟨k1, k2, k3, k4⟩ := slotOf_ok h2 o.toCOk
      obtain ⟨r0, q1, q2⟩ := aug_ok (X := X) h1
      apply wrap_ok
      rw [evS']
      exact ds_augIx q1 q2 k1 k2 k3 k4 (sn.e c _ ia h3 F X E C o.toCOk) (sn.e c _ ie h4 F X E C o.toCOk) (fun ov iv new => augSt_is hix)
    · cases h
  · simp only [Option.bind_eq_some_iff] at h
    obtain ⟨iq, h1, ia, h2, ib, h3, h4⟩ := h
    cases h4
    apply wrap_ok
    rw [evS']
    exact ds_if (sn.t c _ iq h1 F X E C o.toCOk) (cB_ok hf h2) (cB_ok hf h3)
  · simp only [Option.bind_eq_some_iff] at h
    obtain ⟨iq, h1, ia, h2, h4⟩ := h
    cases h4
    rw [evS']
    exact ds_while o.own (sn.t c _ iq h1 F X E C o.toCOk) (cB_ok hf h2)
  · split at h
    · rename_i hfo
      simp only [Option.bind_eq_some_iff] at h
      obtain ⟨it, h1, t, h2, ia, h3, h4⟩ := h
      cases h4
      apply wrap_ok
      rw [evS']
      exact ds_for o.own o.calm (sn.i c _ _ it h1 F X E C o.toCOk) (tgOf_ok o.toCOk h2) (cB_ok hf h3) (foldOk_is hfo)
    · cases h
  · cases h
theorem cS_ok (sn : Snd r) (o : SOk c F X E C) : ∀ (n : Nat) (st : Stmt) (s : IS), cS r c mu n st = some s → DS X E C st (evS' F s)
  | 0, _, _, h => by cases h
  | n + 1, st, s, h => stepS_ok sn (cS_ok sn o n) h o
/-- a def's body -/
def cDef (c : CC) (mu : List Nat) (body : List Stmt) : Option IS := cB (cS (cs 40) c mu 12) body
theorem cDef_ok {body : List Stmt} (h : cDef c mu body = some s) (o : SOk c F X E C) : DSs X E C body (evS' F s) := cB_ok (cS_ok (cs_ok 40) o 12) h
end
end L2.DL

set_option Elab.async false
set_option linter.all false
set_option maxRecDepth 100000
set_option maxHeartbeats 4000000
/-! D layer 20: defs, by level. -/
namespace L2.DL
open PySem PySem.Spec PyProof.Rows
variable [TabL]

structure DefI where
  ps : List Str
  c : CC
  ir : IS
def startE (N : List Str) (args : List Sl) : En := args ++ List.replicate (N.length - args.length) .no
def run1 (Fk : Nat → Fn) (d : DefI) : Fn := fun args s => evS' Fk d.ir (fun _ s => .ok (.none, s)) (fun _ _ => .stuck) (fun _ _ => .stuck) (startE d.c.N args) s
def FF (tab : Nat → Option DefI) (sp : Nat → Option Fn) : Nat → Nat → Fn
  | 0, _ => fun _ _ => .stuck
  | k + 1, i => match sp i with
    | some f => f
    | none => match tab i with
      | some d => run1 (FF tab sp k) d
      | none => fun _ _ => .stuck

theorem start_get {N : List Str} {vs : List V} {i : Nat} {v : V} (h : vs[i]? = some v) : (L2.start N vs)[i]? = some (some v) := by
  unfold L2.start
  have hi : i < vs.length := (List.getElem?_eq_some_iff.mp h).1
  rw [List.getElem?_append_left (by simpa using hi), List.getElem?_map, h]
  rfl
theorem startE_get {N : List Str} {args : List Sl} {i : Nat} {x : Sl} (h : (startE N args)[i]? = some x) : args[i]? = some x ∨ x = .no := by
  unfold startE at h
  by_cases hi : i < args.length
  · rw [List.getElem?_append_left hi] at h
    exact .inl h
  · rw [List.getElem?_append_right (by omega), List.getElem?_replicate] at h
    split at h
    · cases h; exact .inr rfl
    · cases h
theorem All2.getB {α β : Type} {P : α → β → Prop} {as : List α} {bs : List β} {i : Nat} {b : β} (h : All2 P as bs) (e : bs[i]? = some b) : ∃ a, as[i]? = some a ∧ P a b := h.get e
/-- the state at a def's entry -/
theorem ER.start {K : PySem.W.Frag} {Hc H : Hp} {s : Dr} {da : Option Addr} {vs : List V} {args : List Sl} {N : List Str} (h : ArgsOk K Hc H s da vs args) : ER K (fun _ => da.getD 0) da Hc H (L2.start N vs) (startE N args) s := by
  have ow : ∀ i x, (startE N args)[i]? = some x → own x = true → False := fun i x hx ho => by
    rcases startE_get hx with hx | rfl
    · obtain ⟨v, _, hv⟩ := h.all.getB hx
      cases x with
      | lst _ _ => exact hv
      | no => cases ho
      | val _ => cases ho
      | drw => cases ho
      | scr _ => cases ho
    · cases ho
  refine ⟨h.sub, ?_, fun i x hx => ?_, fun i j x y hi _ ox _ _ => (ow i x hi ox).elim, fun i hi => ?_, h.dr, fun i x hx ho => (ow i x hx ho).elim, h.tabs, h.noT⟩
  · unfold L2.start startE
    rw [List.length_append, List.length_append, List.length_map, List.length_replicate, List.length_replicate, h.all.length]
  · rcases startE_get hx with hx | rfl
    · obtain ⟨v, h1, hv⟩ := h.all.getB hx
      have h2 := start_get (N := N) h1
      cases x with
      | lst _ _ => exact hv.elim
      | no => trivial
      | val d => exact ⟨v, h2, hv⟩
      | drw =>
        obtain ⟨a, rfl, hd⟩ := hv
        show (L2.start N vs)[i]? = some (some (V.ref (da.getD 0)))
        rw [hd]
        exact h2
      | scr ns =>
        obtain ⟨a, rfl, hd⟩ := hv
        exact ⟨a, h2, hd⟩
    · trivial
  · rcases startE_get hi with hx | z
    · obtain ⟨v, _, hv⟩ := h.all.getB hx
      obtain ⟨a, rfl, hd⟩ := hv
      rw [hd]
      rfl
    · cases z

section
variable {P : Program} {w : World} {K : PySem.W.Frag} {mg : Str → Option Value} {base : Heap} {C : Addr} {fns : List (Str × Nat × Nat)} {cst : List (Str × D)} {tab : Nat → Option DefI} {sp : Nat → Option Fn} {rs : Bool} {tf : List Str}
/-- the class of the errors -/
structure ExcF (P : Program) (w : World) (K : PySem.W.Frag) (mg : Str → Option Value) (base : Heap) (C : Addr) : Prop where
  T : OexC K C
  emg : mg "SecretError" = some (.ref C)
  ini : ∃ (fI : Addr) (fd : FuncData) (ps : List Str), PySem.W.findIn K (.ref C) "__init__" = some (some (.ref fI)) ∧ PySem.W.typeIn K (.ref fI) = some (.type "function") ∧ FnOk P w K mg base (L2.CX P w) 3 fI fd ps (spI K C) ∧ L2.Binds K fd ps []
/-- _law_told -/
def ToldF (K : PySem.W.Frag) (mg : Str → Option Value) (C : Addr) : Prop := ∃ (g : Addr) (pg : Arguments) (bg : List Stmt) (sg : Scope) (dV kV doc pm cdv ct oc : Value) (an od : Option Addr) (osl : Array (Option Value)) (Ng : List Str) (a : Str), mg "_law_told" = some (.ref g) ∧ PySem.W.keepIn K (.ref g) = true ∧
  K.lookup g = some ⟨oc, od, .func (PySem.W.fnOf "_law_told" "_law_told" pg bg sg dV kV doc pm an cdv ct), osl⟩ ∧ PySem.W.codeIn K cdv "_law_told" = true ∧ L2.Binds K (PySem.W.fnOf "_law_told" "_law_told" pg bg sg dV kV doc pm an cdv ct) [a] [] ∧ FnScope Ng [a] sg ∧ Ng[0]? = some a ∧ Vis sg a ∧
  (a == ("__debug__" : Str)) = false ∧ (a == ("__classdict__" : Str)) = false ∧ ∀ X : Cx, X.K = K → X.mg = mg → ∀ q, LamX.GivesTo X Ng "_law_told" sg g cdv bg a q (TTold2 C)
/-- one def as the head tells it -/
def HF (K : PySem.W.Frag) (mg : Str → Option Value) (fns : List (Str × Nat × Nat)) (cst : List (Str × D)) (tab : Nat → Option DefI) (sp : Nat → Option Fn) (rs : Bool) (tf : List Str) (p : Str × Nat × Nat) : Prop :=
  ∃ d params body mu f fd, tab p.2.1 = some d ∧ sp p.2.1 = none ∧ d.c.fns = fns ∧ d.c.cst = cst ∧ d.ps.length = p.2.2 ∧ FunD K p.1 p.1 params body d.c.sc [] [] f fd ∧ mg p.1 = some (.ref f) ∧ FnScope d.c.N d.ps d.c.sc ∧ cDef d.c mu body = some d.ir ∧ Binds K fd d.ps [] ∧
    d.c.dp = 2 ∧ (d.c.rse = true → rs = true) ∧ (d.c.tld = true → d.c.nm = p.1 ∧ p.1 ∈ tf ∧ f = He.ga K p.1)
/-- what the walk through the top has told of the program -/
structure PG (P : Program) (w : World) (K : PySem.W.Frag) (mg : Str → Option Value) (base : Heap) (C : Addr) (fns : List (Str × Nat × Nat)) (cst : List (Str × D)) (tab : Nat → Option DefI) (sp : Nat → Option Fn) (rs : Bool) (tf : List Str) : Prop where
  hblt : ∀ x ∈ bNames, mg x = none
  hcst : ∀ x d, cst.lookup x = some d → ∃ u v, mg x = some u ∧ RelV v u ∧ ∀ H, Dv K H v d
  hfns : ∀ x id n, fns.lookup x = some (id, n) → HF K mg fns cst tab sp rs tf (x, id, n)
  exc : rs = true → ExcF P w K mg base C
  told : tf ≠ [] → ToldF K mg C
  tabs : ∀ x ∈ tf, LamX.TabB base mg (He.cT K (x, none)).1 (He.cT K (x, none)).2
  tabIn : ∀ x ∈ tf, ((He.cT K (x, none)).2, lamQ x) ∈ TabL.T
  uniq : ∀ x ∈ tf, ∀ p ∈ TabL.T, p.1 = (He.cT K (x, none)).2 → p.2 = lamQ x
theorem spF_len {n : Nat} {F : Fn} {vs : List V} {H : Hp} {Q : VK} {E : XK} (h : spF K C n F vs H Q E) : vs.length = n := by
  obtain ⟨Hc, s, da, args, hl, ha, _⟩ := h
  rw [ha.all.length, hl]
/-- a def's context is as its code asks -/
theorem SOk.ofCx {F : Nat → Fn} {k : Nat} {ps : List Str} {qual : Str} {f : Addr} {cdv : Value} {A : Around} {outer : List Env} {s : Shared} {H : Hp} {E : XK} {c : CC} (g : PG P w K mg base C fns cst tab sp rs tf) (S : FnScope c.N ps c.sc) (hr : Room (k + 2) (A.deeper (envOfC qual c.sc s.heap.objs.size f cdv))) (h3 : c.fns = fns) (h4 : c.cst = cst) (h5 : c.dp = 2) (h6 : c.rse = true → rs = true)
    (h7 : c.tld = true → c.nm = qual ∧ qual ∈ tf ∧ cdv = .ref (He.cT K (qual, none)).1) (hk : 2 ≤ k)
    (hf : ∀ x id n, fns.lookup x = some (id, n) → ∃ f fd ps, FnOk P w K mg base (L2.CX P w) k f fd ps (spF K C n (F id)) ∧ mg x = some (.ref f) ∧ PySem.W.keepIn K (.ref f) = true ∧ Binds K fd ps []) :
    SOk c F (cxOf (L2.CX P w) P w K mg base c.N qual c.sc f cdv A outer s H E) E C := by
  refine ⟨⟨rfl, S.nd, rfl, rfl, hr.units, g.hblt, ?_, ⟨k, by rw [h5]; exact hr, fun ht => ?_, by rw [h3]; exact hf⟩, fun hre => ?_, fun _ _ => rfl, by rw [h4]; exact g.hcst⟩, S.kind, passes_of rfl⟩
  · exact passes_call (takes_of rfl rfl rfl rfl) fun _ _ _ _ h => h
  · obtain ⟨t1, t2, t3⟩ := h7 ht
    obtain ⟨gg, pg, bg, sg, dV, kV, doc, pm, cdv2, ct, oc, an, od, osl, Ng, a, u1, u2, u3, u4, u5, u6, u7, u8, u9, u10, u11⟩ := g.told (fun z => by rw [z] at t2; cases t2)
    refine ⟨by rw [t1]; exact g.tabIn _ t2, ⟨_, by rw [t1]; exact g.tabs _ t2, t3⟩, by rw [t1]; rfl, by rw [t1]; exact g.uniq _ t2, hr, gg, pg, bg, sg, dV, kV, doc, pm, cdv2, ct, oc, an, od, osl, Ng, a, u1, u2, u3, u4, u5, u6, u7, u8, u9, u10, u11 _ rfl rfl⟩
  · obtain ⟨fI, fd, ps2, e1, e2, e3, e4⟩ := (g.exc (h6 hre)).ini
    exact ⟨(g.exc (h6 hre)).T, (g.exc (h6 hre)).emg, takes_of rfl rfl rfl rfl, fI, 3, fd, ps2, e1, e2, e3, hr.mono (by omega), e4⟩
/-- from the code to the promise -/
theorem body_ok {X : Cx} {E : XK} {d : DefI} {F : Nat → Fn} {body : List Stmt} {n : Nat} {vs : List V} {H : Hp} {Q : VK} (hK : X.K = K) (hb : DSs X E C body (evS' F d.ir)) (h : spF K C n (run1 F d) vs H Q E) :
    ∃ t, PSs X body t ∧ t { nx := fun _ H' => Q .non H', rt := Q } (L2.start d.c.N vs) H := by
  subst hK
  obtain ⟨t, p, q⟩ := hb
  refine ⟨t, p, ?_⟩
  obtain ⟨Hc, s, da, args, hl, ha, hp⟩ := h
  have e0 := ER.start (N := d.c.N) ha
  refine q ⟨da, Hc, H, Hc⟩ [] (fun _ s => .ok (.none, s)) (fun _ _ => .stuck) (fun _ _ => .stuck) _ _ (L2.start d.c.N vs) H (startE d.c.N args) s ⟨_, Hc, e0, Nx.refl, fun i x hx ho => ?_, (fun p hp => nomatch hp), Sub.refl _⟩ rfl ?_
  · exact ((e0.lstNe i x hx ho) : _) |> fun _ => by
      rcases startE_get hx with hx | rfl
      · obtain ⟨v, _, hv⟩ := ha.all.getB hx
        cases x with
        | lst _ _ => exact hv.elim
        | no => cases ho
        | val _ => cases ho
        | drw => cases ho
        | scr _ => cases ho
      · cases ho
  · have e1 : run1 F d args s = evS' F d.ir (fun _ s => .ok (.none, s)) (fun _ _ => .stuck) (fun _ _ => .stuck) (startE d.c.N args) s := rfl
    rw [e1] at hp
    have ns : evS' F d.ir (fun _ s => .ok (.none, s)) (fun _ _ => .stuck) (fun _ _ => .stuck) (startE d.c.N args) s ≠ .stuck := fun z => by
      rw [z] at hp; exact hp
    refine ⟨fun env s' σ H' sr e => ?_, fun env s' σ H' sr e => (ns e.symm).elim, fun env s' σ H' sr e => (ns e.symm).elim, fun dd s' v Hc' H' e nn sc dr hd => ?_, fun c e dx H' nn hx => ?_, ns⟩
    · obtain ⟨ad, Hc', x⟩ := sr
      rw [← e] at hp
      exact hp .non Hc' H' x.nx x.er.sub x.er.drA .non
    · rw [e] at hp
      exact hp v Hc' H' nn sc dr hd
    · rw [e] at hp
      exact hp dx H' nn hx
theorem funD_ok {x qual : Str} {params : Arguments} {body : List Stmt} {scope : Scope} {f : Addr} {fd : FuncData} {CX : CXT} {N ps : List Str} {k : Nat} {sp : Sp} (F : FunD K x qual params body scope [] [] f fd) (S : FnScope N ps scope) (len : ∀ vs H Q E, sp vs H Q E → vs.length = ps.length)
    (hbody : ∀ (cdv : Value) (A : Around) (outer : List Env) (s : Shared) (H : Hp) (vs : List V) (Q : VK) (E : XK), (∀ p : Str, f = He.ga K p → cdv = .ref (He.cT K (p, none)).1) → Room k (A.deeper (envOfC qual scope s.heap.objs.size f cdv)) → sp vs H Q E →
      ∃ t, PSs (cxOf CX P w K mg base N qual scope f cdv A outer s H E) body t ∧ t { nx := fun _ H' => Q .non H', rt := Q } (L2.start N vs) H) : FnOk P w K mg base CX (k + 1) f fd ps sp := by
  obtain ⟨oc, od, dV, kV, doc, pm, an, cdv, ct, osl, rfl, lk, hcd, _, _⟩ := F.ex
  refine fn_of lk hcd S len fun A outer s H vs Q E hr hsp => hbody cdv A outer s H vs Q E (fun p hp => ?_) hr hsp
  obtain ⟨c, rfl⟩ := He.codeIn_ref hcd
  subst hp
  rw [show (He.cT K (p, none)).1 = He.codeOf K (p, none) from rfl, He.codeOf_eq (p := (p, none)) lk rfl]
theorem PG.ok (g : PG P w K mg base C fns cst tab sp rs tf) : ∀ (k : Nat) (x : Str) (id n : Nat), fns.lookup x = some (id, n) →
    ∃ f fd ps, FnOk P w K mg base (L2.CX P w) (3 * k + 4) f fd ps (spF K C n (FF tab sp k id)) ∧ mg x = some (.ref f) ∧ PySem.W.keepIn K (.ref f) = true ∧ Binds K fd ps []
  | 0, x, id, n, h => by
    have no : ∀ vs H Q E, spF K C n (FF tab sp 0 id) vs H Q E → False := fun vs H Q E ⟨Hc, s, da, args, hl, ha, hp⟩ => hp
    obtain ⟨d, params, body, mu, f, fd, h1, h2, h3, h4, h5, h6, h7, h8, h9, h10, _⟩ := g.hfns x id n h
    exact ⟨f, fd, d.ps, ⟨fun vs H Q E z => (no vs H Q E z).elim, fun A outer s H args us vs Q E _ _ _ _ z => (no vs H Q E z).elim⟩, h7, h6.kp, h10⟩
  | k + 1, x, id, n, h => by
    obtain ⟨d, params, body, mu, f, fd, h1, h2, h3, h4, h5, h6, h7, h8, h9, h10, h11, h12, h13⟩ := g.hfns x id n h
    refine ⟨f, fd, d.ps, ?_, h7, h6.kp, h10⟩
    have e : FF tab sp (k + 1) id = run1 (FF tab sp k) d := by rw [FF, h2, h1]
    rw [e]
    refine funD_ok (k := 3 * k + 6) h6 h8 (fun vs H Q E z => by rw [spF_len z, h5]) fun cdv A outer s H vs Q E hcd hr hsp => ?_
    refine body_ok rfl (cDef_ok h9 (SOk.ofCx (k := 3 * k + 4) g h8 hr h3 h4 h11 h12 (fun ht => ?_) (by omega) (g.ok k))) hsp
    obtain ⟨z1, z2, z3⟩ := h13 ht
    exact ⟨z1, z2, hcd _ z3⟩
end
end L2.DL

set_option Elab.async false
set_option linter.all false
set_option maxRecDepth 100000
set_option maxHeartbeats 4000000
/-! D layer 21: the law itself. -/
namespace L2.DL
open PySem PySem.Spec PyProof.Rows
variable [TabL]

/-- the law's promise -/
def spLaw (K : PySem.W.Frag) (most : Nat) : Sp := fun vs H Q _ => ∃ (a : Addr) (ns : List Int), vs = [.ref a] ∧ ns.length ≤ most ∧ SqL K H a (ns.map V.int) ∧ Tbs H ∧ ∀ H', Q (.bl true) H'
/-- the draws at their start -/
def dr0 (ns : List Int) (seed : Int) : Dr := ⟨ns, 0, 0, seed⟩
/-- the law's slots behind its first statement -/
def lawE (N : List Str) (dslot : Nat) : En := (List.replicate N.length .no).set dslot .drw
/-- what a run of the law's code behind its first statement must do -/
def LawRun (F : Nat → Fn) (d : DefI) (dslot : Nat) (ir : IS) (ns : List Int) (seed : Int) : Prop :=
  ∃ s', evS' F ir (fun _ s => .ok (.none, s)) (fun _ _ => .stuck) (fun _ _ => .stuck) (lawE d.c.N dslot) (dr0 ns seed) = .ok (.bool true, s')
section
variable {P : Program} {w : World} {K : PySem.W.Frag} {mg : Str → Option Value} {base : Heap} {C : Addr} {fns : List (Str × Nat × Nat)} {cst : List (Str × D)} {tab : Nat → Option DefI} {sp : Nat → Option Fn}
theorem law_body {X : Cx} {F : Nat → Fn} {E : XK} {N : List Str} {most : Nat} {bid dslot : Nat} {d : DefI} {ir : IS} {y x : Str} {py p1 p2 pos pos' : Pos} {rest : List Stmt} {vs : List V} {H : Hp} {Q : VK} (o : SOk d.c F X E C) (hN : d.c.N = N)
    (hf : d.c.fns.lookup ("_law_begin" : Str) = some (bid, 1)) (hg : glB d.c.sc "_law_begin" = true) (hx : slotOf d.c x = some 0) (hy : tgOf d.c 1 (.Name y py) = some (.nm dslot)) (hd0 : dslot ≠ 0)
    (hr : DSs X E C rest (evS' F ir)) (hsp : spLaw X.K most vs H Q E)
    (hb : ∀ (ns : List Int), ns.length ≤ most → ∃ seed : Int, 0 ≤ seed ∧ (∀ s, ∃ s', F bid [.scr ns] s = .ok (.list [.list (ns.map .int), .int 0, .int 0, .int seed], s')) ∧ LawRun F d dslot ir ns seed) :
    ∃ t, PSs X (.Assign [.Name y py] (.Call (.Name "_law_begin" p1) [.Name x p2] [] pos) pos' :: rest) t ∧ t { nx := fun _ H' => Q .non H', rt := Q } (L2.start N vs) H := by
  obtain ⟨a, ns, rfl, hl, hS, hT, hQ⟩ := hsp
  obtain ⟨seed, hs0, hbeg, s', hrun⟩ := hb ns hl
  subst hN
  have nd : X.N.Nodup := by rw [o.hN]; exact o.nd
  obtain ⟨k1, k2, k3⟩ := nm_ok hy o.toCOk
  obtain ⟨j1, j2, j3, j4⟩ := slotOf_ok hx o.toCOk
  obtain ⟨kk, hroom0, _, hfs⟩ := o.lev
  obtain ⟨fa, fd, ps, FO, hm, hk, hbd⟩ := hfs _ bid 1 hf
  have hroom : Room kk X.A := hroom0.mono (Nat.le_add_right _ _)
  have hcall : DE X E C (.Call (.Name "_law_begin" p1) [.Name x p2] [] pos) (evCall 1 (F bid) (evArgV 0 evArgs0)) :=
    de_call FO hroom (glB_ok hg o.toCOk) hm hk hbd o.pass (daa_var j1 j2 j3 j4 daa_nil rfl) (by decide +kernel) rfl rfl
  obtain ⟨te, pe, re⟩ := hcall
  obtain ⟨tr, pr, qr⟩ := hr
  refine ⟨_, pss_cons (ps_asg pe (pg_name nd k1 k2 k3) rfl rfl rfl) pr, ?_⟩
  -- the start: nothing stands but what is written
  have emp : Sub (fun _ => none) H := fun _ _ z => nomatch z
  have hsq : ∃ Hc : Hp, Sub Hc H ∧ NoT Hc ∧ SqL X.K Hc a (ns.map V.int) := by
    rcases hS with h | h
    · rcases h with h | ⟨ob, h⟩
      · refine ⟨fun b => if b = a then H a else none, fun b o z => ?_, fun b o z => ?_, .inl (.inl (by simp [h]))⟩
        · by_cases hb : b = a
          · subst hb; simpa using z
          · simp [hb] at z
        · by_cases hb : b = a
          · subst hb
            have z' : H b = some o := by simpa using z
            rw [h] at z'
            cases z'
            exact fun _ q => nomatch q
          · simp [hb] at z
      · refine ⟨fun b => if b = a then H a else none, fun b o z => ?_, fun b o z => ?_, .inl (.inr ⟨ob, by simp [h]⟩)⟩
        · by_cases hb : b = a
          · subst hb; simpa using z
          · simp [hb] at z
        · by_cases hb : b = a
          · subst hb
            have z' : H b = some o := by simpa using z
            rw [h] at z'
            cases z'
            exact fun _ q => nomatch q
          · simp [hb] at z
    · exact ⟨_, emp, (fun _ _ z => nomatch z), .inr h⟩
  obtain ⟨Hc, hsub, hnT, hsq⟩ := hsq
  have ao : ArgsOk X.K Hc H (dr0 [] 0) none [.ref a] [.scr ns] := ⟨hsub, ⟨⟨a, rfl, hsq⟩, trivial⟩, (fun _ z => nomatch z), (by show (0 : Nat) ≤ 1; decide), hT, hnT⟩
  have e0 := ER.start (N := d.c.N) ao
  have hs1 : (startE d.c.N [.scr ns])[0]? = some (.scr ns) := by unfold startE; rfl
  have hds : (startE d.c.N [.scr ns]).length = d.c.N.length := by
    rw [← e0.len]
    unfold L2.start
    have h0 : 0 < d.c.N.length := by
      have := (List.getElem?_eq_some_iff.mp j1).1
      rw [o.hN] at this
      exact this
    rw [List.length_append, List.length_map, List.length_replicate]
    show 1 + (d.c.N.length - 1) = _
    omega
  have hdl : dslot < (startE d.c.N [.scr ns]).length := by
    rw [hds]
    have := (List.getElem?_eq_some_iff.mp k1).1
    rwa [o.hN] at this
  obtain ⟨sb, hbeg⟩ := hbeg (dr0 [] 0)
  refine re (fun _ => (none : Option Addr).getD 0) none Hc H (L2.start d.c.N [.ref a]) (startE d.c.N [.scr ns]) (dr0 [] 0) _ e0 ?_
  have hev : evCall 1 (F bid) (evArgV 0 evArgs0) (startE d.c.N [.scr ns]) (dr0 [] 0) = .ok (.list [.list (ns.map .int), .int 0, .int 0, .int seed], dr0 [] 0) := by
    unfold evCall evArgV
    rw [hs1]
    show (if [Sl.scr ns].length = 1 then (match drwN [Sl.scr ns] with
      | 0 => (F bid [Sl.scr ns] (dr0 [] 0)).bind fun q => .ok (q.1, dr0 [] 0)
      | 1 => F bid [Sl.scr ns] (dr0 [] 0)
      | _ => .stuck) else .stuck) = _
    rw [if_pos (show [Sl.scr ns].length = 1 from rfl)]
    show (F bid [Sl.scr ns] (dr0 [] 0)).bind (fun q => .ok (q.1, dr0 [] 0)) = _
    rw [hbeg]
    rfl
  rw [hev]
  intro v Hc1 H1 n1 e1 hd
  cases hd with
  | lst h1 h2 =>
    rename_i p vs
    cases h2 with
    | cons r1 r2 =>
      cases r2 with
      | cons r3 r4 =>
        cases r4 with
        | cons r5 r6 =>
          cases r6 with
          | cons r7 r8 =>
            cases r3; cases r5; cases r7; cases r8
            cases r1 with
            | lst q1 q2 =>
              rename_i b ws
              have hws := DvAll.map_int q2
              subst hws
              have hbp : b ≠ p := fun z => by
                subst z
                rw [h1] at q1
                have z2 := Option.some.inj q1
                have z3 : [V.ref b, V.int 0, V.int 0, V.int seed] = ns.map V.int := by injection z2
                cases ns with
                | nil => cases z3
                | cons n ns => cases z3
              -- the law's own moment: only the script's copy stands
              let Hc2 : Hp := fun c => if c = b then some (.lst (ns.map V.int)) else none
              have s2 : Sub Hc2 H1 := fun c o z => by
                by_cases hc : c = b
                · subst hc
                  have z' : some (HO.lst (ns.map V.int)) = some o := by simpa [Hc2] using z
                  cases z'
                  exact e1.sub _ _ q1
                · simp [Hc2, hc] at z
              have np : Hc2 p = none := by
                show (if p = b then _ else none) = none
                rw [if_neg (Ne.symm hbp)]
              have e2 : ER X.K (fun _ => p) (some p) Hc2 H1 ((L2.start d.c.N [.ref a]).set dslot (some (.ref p))) (lawE d.c.N dslot) (dr0 ns seed) := by
                have hdN : dslot < d.c.N.length := by rw [← hds]; exact hdl
                have back : ∀ (i : Nat) (x : Sl), (lawE d.c.N dslot)[i]? = some x → (i = dslot ∧ x = .drw) ∨ x = .no := fun i x hx => by
                  unfold lawE at hx
                  by_cases h1 : i = dslot
                  · subst h1
                    rw [List.getElem?_set_self (by rw [List.length_replicate]; exact hdN)] at hx
                    cases hx
                    exact .inl ⟨rfl, rfl⟩
                  · rw [List.getElem?_set_ne (Ne.symm h1), List.getElem?_replicate] at hx
                    split at hx
                    · cases hx; exact .inr rfl
                    · cases hx
                refine ⟨s2, ?_, fun i x hx => ?_, fun i j x y hi hj ox oy _ => ?_, fun i hi => rfl, fun a' ha => ?_, fun i x hx ho => ?_, e1.tabs, fun c o z => ?_⟩
                · unfold lawE
                  rw [List.length_set, List.length_set, List.length_replicate, e0.len, hds]
                · rcases back i x hx with ⟨rfl, rfl⟩ | rfl
                  · show (List.set _ i _)[i]? = _
                    rw [List.getElem?_set_self (by rw [e0.len]; exact hdl)]
                  · trivial
                · rcases back i x hi with ⟨_, rfl⟩ | rfl <;> cases ox
                · cases ha
                  exact ⟨⟨b, e1.sub _ _ h1, by simp [Hc2, dr0], Int.le_refl _, Int.le_refl _, hs0⟩, np⟩
                · rcases back i x hx with ⟨_, rfl⟩ | rfl <;> cases ho
                · by_cases hc : c = b
                  · subst hc
                    have z' : some (HO.lst (ns.map V.int)) = some o := by simpa [Hc2] using z
                    cases z'
                    exact nT_lst
                  · simp [Hc2, hc] at z
              have noOwn : ∀ i x, (lawE d.c.N dslot)[i]? = some x → own x = true → False := fun i x hx ho => by
                unfold lawE at hx
                by_cases h1 : i = dslot
                · subst h1
                  rw [List.getElem?_set_self (by rw [List.length_replicate, ← hds]; exact hdl)] at hx
                  cases hx; cases ho
                · rw [List.getElem?_set_ne (Ne.symm h1), List.getElem?_replicate] at hx
                  split at hx
                  · cases hx; cases ho
                  · cases hx
              refine qr ⟨some p, Hc2, H1, Hc2⟩ [] (fun _ s => .ok (.none, s)) (fun _ _ => .stuck) (fun _ _ => .stuck) (.ok (.bool true, s')) _ _ H1 (lawE d.c.N dslot) (dr0 ns seed) ⟨_, Hc2, e2, Nx.refl, fun i x hx ho => (noOwn i x hx ho).elim, (fun p hp => nomatch hp), Sub.refl _⟩ hrun ?_
              refine ⟨fun env s2 σ H2 sr e => ?_, (fun env s2 σ H2 sr e => nomatch e), (fun env s2 σ H2 sr e => nomatch e), fun dd s2 v Hc' H' e nn sc dr hd => ?_, (fun c e => nomatch e), (fun z => nomatch z)⟩
              · cases e
              · cases e
                cases hd
                exact hQ H'
end
end L2.DL

set_option Elab.async false
set_option linter.all false
set_option maxRecDepth 100000
set_option maxHeartbeats 4000000
/-! D layer 22: from the head to the law. -/
namespace L2.DL
open PySem PySem.Spec PyProof.Rows
variable [TabL]

section
variable {P : Program} {w : World} {K : PySem.W.Frag} {mg : Str → Option Value} {base : Heap} {C : Addr} {fns : List (Str × Nat × Nat)} {cst : List (Str × D)} {tab : Nat → Option DefI} {sp : Nat → Option Fn} {rs : Bool} {tf : List Str}
def AllF {α : Type} (P : α → Prop) : List α → Prop
  | [] => True
  | a :: l => P a ∧ AllF P l
theorem AllF.mem {α : Type} {P : α → Prop} : ∀ {l : List α} {a : α}, AllF P l → a ∈ l → P a
  | b :: l, a, h, hm => by
    rcases List.mem_cons.mp hm with rfl | hm
    · exact h.1
    · exact AllF.mem h.2 hm
theorem lookup_in {β : Type} {x : Str} {v : β} : ∀ {l : List (Str × β)}, l.lookup x = some v → (x, v) ∈ l
  | (y, u) :: l, h => by
    rw [List.lookup_cons] at h
    by_cases e : x = y
    · subst e
      simp at h
      subst h
      exact List.mem_cons_self
    · have e' : (x == y) = false := by simpa using e
      rw [e'] at h
      exact List.mem_cons_of_mem _ (lookup_in h)
/-- a constant of the module -/
def HC (K : PySem.W.Frag) (mg : Str → Option Value) (p : Str × D) : Prop := ∃ u v, mg p.1 = some u ∧ RelV v u ∧ ∀ H, Dv K H v p.2
theorem PG.of (hb : ∀ x ∈ bNames, mg x = none) (hc : AllF (HC K mg) cst) (hf : AllF (HF K mg fns cst tab sp rs tf) fns) (h1 : rs = true → ExcF P w K mg base C) (h2 : tf ≠ [] → ToldF K mg C) (h3 : ∀ x ∈ tf, LamX.TabB base mg (He.cT K (x, none)).1 (He.cT K (x, none)).2)
    (h4 : ∀ x ∈ tf, ((He.cT K (x, none)).2, lamQ x) ∈ TabL.T) (h5 : ∀ x ∈ tf, ∀ p ∈ TabL.T, p.1 = (He.cT K (x, none)).2 → p.2 = lamQ x) : PG P w K mg base C fns cst tab sp rs tf where
  hblt := hb
  hcst := fun x d h => hc.mem (lookup_in h)
  hfns := fun x id n h => hf.mem (lookup_in h)
  exc := h1
  told := h2
  tabs := h3
  tabIn := h4
  uniq := h5
/-- the law's def: its first statement, the rest -/
def isHead (y x : Str) : List Stmt → Bool
  | .Assign [.Name y' _] (.Call (.Name b _) [.Name x' _] [] _) _ :: _ => y' == y && b == ("_law_begin" : Str) && x' == x
  | _ => false
theorem isHead_is {y x : Str} {body : List Stmt} (h : isHead y x body = true) : ∃ py p1 p2 pos pos', body = .Assign [.Name y py] (.Call (.Name "_law_begin" p1) [.Name x p2] [] pos) pos' :: body.tail := by
  unfold isHead at h
  split at h
  · simp only [Bool.and_eq_true, beq_iff_eq] at h
    obtain ⟨⟨rfl, rfl⟩, rfl⟩ := h
    exact ⟨_, _, _, _, _, rfl⟩
  · cases h
theorem law_ok {params : Arguments} {body : List Stmt} {f : Addr} {fd : FuncData} {d : DefI} {mu : List Nat} {ir : IS} {y x : Str} {bid dslot k most : Nat} (g : PG P w K mg base C fns cst tab sp rs tf) (F : FunD K "law" "law" params body d.c.sc [] [] f fd) (S : FnScope d.c.N [x] d.c.sc)
    (h3 : d.c.fns = fns) (h4 : d.c.cst = cst) (h5 : d.c.dp = 2) (h6 : d.c.rse = true → rs = true) (h7 : d.c.tld = false) (hh : isHead y x body = true) (hir : cDef d.c mu body.tail = some ir)
    (hf : fns.lookup ("_law_begin" : Str) = some (bid, 1)) (hg : glB d.c.sc "_law_begin" = true) (hx : slotOf d.c x = some 0) (hy : tgOf d.c 1 (.Name y ⟨0, 0, 0, 0⟩) = some (.nm dslot)) (hd0 : dslot ≠ 0)
    (hb : ∀ (ns : List Int), ns.length ≤ most → ∃ seed : Int, 0 ≤ seed ∧ (∀ s, ∃ s', FF tab sp k bid [.scr ns] s = .ok (.list [.list (ns.map .int), .int 0, .int 0, .int seed], s')) ∧ LawRun (FF tab sp k) d dslot ir ns seed) :
    FnOk P w K mg base (L2.CX P w) (3 * k + 7) f fd [x] (spLaw K most) := by
  refine funD_ok (k := 3 * k + 6) F S (fun vs H Q E z => ?_) fun cdv A outer s H vs Q E hcd hr hsp => ?_
  · obtain ⟨a, ns, rfl, _⟩ := z
    rfl
  · have o : SOk d.c (FF tab sp k) (cxOf (L2.CX P w) P w K mg base d.c.N "law" d.c.sc f cdv A outer s H E) E C := SOk.ofCx (k := 3 * k + 4) g S hr h3 h4 h5 h6 (fun ht => by rw [h7] at ht; cases ht) (by omega) (g.ok k)
    obtain ⟨py, p1, p2, pos, pos', e⟩ := isHead_is hh
    rw [e]
    exact law_body (d := d) o rfl (by rw [h3]; exact hf) hg hx hy hd0 (cDef_ok hir o) hsp hb
/-- a promise that lets nothing out, whatever one calls being let out -/
theorem fn_free {CX' : CXT} {k : Nat} {f : Addr} {fd : FuncData} {ps : List Str} {spp : Sp} (F : FnOk P w K mg base (L2.CX P w) k f fd ps spp) (h : ∀ vs H Q E, spp vs H Q E → spp vs H Q EF) : FnOk P w K mg base CX' k f fd ps spp :=
  ⟨F.len, fun A outer s H args us vs Q E hr e0 hb hv hs => codeAny_mono (F.run A outer s H args us vs Q EF hr e0 hb hv (h _ _ _ _ hs)) fun r s' q => by
    cases r with
    | ok fl => cases fl <;> exact q
    | error e =>
      obtain ⟨_, _, _, _, _, _, _, _, _, _, _, _, z⟩ := q
      exact z.elim⟩
theorem spLaw_free {most : Nat} : ∀ vs H Q E, spLaw K most vs H Q E → spLaw K most vs H Q EF := fun _ _ _ _ h => h
/-- nothing is let out where nothing may be -/
theorem cx_no {H : Hp} {s : Shared} {e : Value} {s' : Shared} (h : L2.CX P w [] H s (fun _ _ _ => False) e s') : False := by
  obtain ⟨_, _, _, _, _, _, _, _, _, _, _, _, h⟩ := h
  exact h
end
end L2.DL

set_option Elab.async false
set_option linter.all false
set_option maxRecDepth 100000
set_option maxHeartbeats 4000000
/-! D layer 23: the error's own __init__ (super). -/
namespace L2.DL
open PySem PySem.Spec PyProof.Rows
variable [TabL]

section
variable {prog : Program} {w : World} {A : Around} {E : Value → Shared → Prop} {h : Heap} {g : Array GenState} {d : Drawn} {t : Nat} {os : OsState}
variable {nm q : Str} {C N : Addr} {bs bm : List Value} {hdct : Bool} {sn : List Str} {sub : List Value} {ab : Bool} {col : Option Bool} {dd : Option Addr} {k0 k1 k2 k3 k5 : Option Value}
/-- ValueError.__init__ bound to e, called -/
theorem call_bwV {u e t0 : Addr} {rest : List Value} {Q : Value → Shared → Prop}
    (hC : h.get? C = some (excClassObj nm q C N bs bm hdct sn sub ab col dd k0 k1 k2 k3 k5 "ValueError.__new__")) (he : h.get? e = some (HandSPX.excO C t0)) (hu : h.get? u = some (PySem.W.kxs_mw "ValueError.__init__" e)) (hrest : rest.length ≤ sizeLine)
    (hq : ∀ h' t1, (∀ b o, b ≠ e → h.get? b = some o → h'.get? b = some o) → h'.get? e = some (HandSPX.excO C t1) → Q .none ⟨h', g, d, t, os⟩) :
    wpAny (model prog w) A (call (.ref u) rest) Q E ⟨h, g, d, t, os⟩ := by
  refine wpAny_call (codeAny_of_tree ?_)
  show wpAny _ A.in1 (callAny (.ref u) ⟨rest, []⟩) _ _ _
  simp only [callAny]
  refine wpAny_bind (wpAny_load hu ?_)
  simp only [PySem.W.kxs_mw, show (Value.type "method-wrapper" == Value.type "method" || Value.type "method-wrapper" == Value.type "builtin_function_or_method" || Value.type "method-wrapper" == Value.type "method-wrapper") = true by decide, if_true]
  refine PySem.W.KFB.if_so (by decide) ?_
  refine wpAny_bind (PySem.ESX.check_bound PySem.F.excBase_ValueError hC he rfl ?_)
  refine wpAny_bind (wpAny_pure (wpAny_pure ?_))
  refine ⟨Code.quiet_builtin _ (by decide +kernel), codeAny_builtin PySem.F.excBase_ValueError.initEntry ?_⟩
  rw [Around.under_plainId PySem.F.excBase_ValueError.init.plain _]
  wp_walk
  refine hq _ h.objs.size (fun b o hb ho => ?_) ?_
  · rw [Heap.get?_update_other _ _ (Ne.symm hb)]
    exact Heap.get?_push_of_some _ ho
  · rw [Heap.get?_update_self _ (Heap.get?_push_of_some _ he) rfl]
    rfl
end

theorem he_line {o : Expr} {m : Str} {apos pos : Pos} {env : Env} {e : Expr} (hs : star e = false) (hl : (apos.endLine == pos.line) = true) : eval (.Call (.Attribute o m apos) [e] [] pos) env = (do
    let ov ← attributeBase o m env (eval o env)
    standAt apos.atName
    let (f, first) ← holding [ov] (getMethod ov m (L2.plainOf o env))
    callWith pos f first (backTo pos (starEach [e] env)) []) := by
  have h1 : eval (.Call (.Attribute o m apos) [e] [] pos) env = (do
    let ov ← attributeBase o m env (eval o env)
    standAt apos.atName
    methodCall o m apos pos env ov ([e].length + ([] : List Keyword).length) (backTo pos (starEach [e] env)) (backToKw pos (keywordEach [] env))) := rfl
  rw [h1]
  congr 1
  funext ov
  congr 1
  funext _
  exact L2.mcall_line (by rw [star_cons hs]; rfl) hl
/-- what must be known of the class's __init__ -/
structure InitF (P : Program) (K : PySem.W.Frag) (C fI : Addr) (fd : FuncData) : Prop where
  ex : ∃ (qual : Str) (params : Arguments) (body : List Stmt) (scope : Scope) (dV kV doc pm : Value) (an : Option Addr) (cda : Addr) (ct : Value) (cc : Addr) (oc : Value) (od : Option Addr) (osl : Array (Option Value)) (vs : Array Value) (file : Str) (tf : Tok) (ccl : Value) (cdd : Option Addr) (ccs : Array (Option Value)) (cl : Value) (cld : Option Addr) (csl : Array (Option Value)) (ar : Arg),
    fd = PySem.W.fnX "__init__" qual params body scope [("__class__", cc)] dV kV doc pm an (.ref cda) ct ∧ K.lookup fI = some ⟨oc, od, .func fd, osl⟩ ∧ PySem.W.codeIn K (.ref cda) qual = true ∧ K.lookup cda = some ⟨ccl, cdd, .fields vs, ccs⟩ ∧ vs[2]? = some (.str file tf) ∧ ((P.main.file : Str) == file) = true ∧
    K.lookup cc = some ⟨cl, cld, .cell (some (.ref C)), csl⟩ ∧ (params.posonlyargs ++ params.args).head? = some ar ∧ ar.arg = "self" ∧
    scope.kind = .function ∧ scope.isCoroutine = false ∧ scope.isGenerator = false ∧ (∀ x ∈ scope.names, x.2 ≠ .cell) ∧ scope.names.lookup ("super" : Str) = some .globalImplicit ∧ scope.names.lookup ("__class__" : Str) = some .free ∧ scope.names.lookup ("self" : Str) = some .local ∧ scope.names.lookup ("code" : Str) = some .local ∧
    ∃ (p0 p1 p2 p3 p4 p5 p6 p7 p8 p9 : Pos), (p2.endLine == p4.line) = true ∧ body = [.Expr (.Call (.Attribute (.Call (.Name "super" p0) [] [] p1) "__init__" p2) [.Name "code" p3] [] p4) p5, .Assign [.Attribute (.Name "self" p6) "code" p7] (.Name "code" p8) p9]
  sup : PySem.W.nsIn K mainGlobals "super" = some none
  top : (P.main.scope.names.lookup ("super" : Str)).isSome = false
  mro : PySem.W.mroIn K C (.ref C) = some true
  sub : PySem.W.subIn K (.ref C) (.type "ValueError") = some true
  find : PySem.W.ks_superIn K C C "__init__" = some (some (.builtin "ValueError.__init__"))
  no : PySem.W.findIn K (.ref C) "code" = some none
  opq : PySem.W.nsIn K cStatics "thirdparty.any" = some none
section
variable {P : Program} {w : World} {K : PySem.W.Frag} {mg : Str → Option Value} {base : Heap} {C fI : Addr} {fd : FuncData}
theorem init_ok (I0 : InitF P K C fI fd) (T : OexC K C) (hsup : mg "super" = none) (k : Nat) : FnOk P w K mg base (L2.CX P w) (k + 1) fI fd ["self", "code"] (spI K C) := by
  obtain ⟨qual, params, body, scope, dV, kV, doc, pm, an, cda, ct, cc, oc, od, osl, vs, file, tf, ccl, cdd, ccs, cl, cld, csl, ar, rfl, lk, hcd, lkc, hvs, hfile, lcell, hp, har, s1, s2, s3, s4, s5, s6, s7, s8, p0, p1, p2, p3, p4, p5, p6, p7, p8, p9, hline, rfl⟩ := I0.ex
  refine ⟨fun vs H Q E z => ?_, fun A outer s H args us vs' Q E hr e0 hb hv hs => ?_⟩
  · obtain ⟨a, x, rfl, _⟩ := z; rfl
  obtain ⟨a, x, rfl, _, ha, hQ⟩ := hs
  obtain ⟨u1, u2, rfl, r1, r2⟩ := hv.two
  obtain rfl : u1 = Value.ref a := r1
  obtain ⟨tx, rfl⟩ : ∃ tx, u2 = Value.str x tx := r2
  have KX : K.In s.heap := e0.mod.kin.keeps fun b o e => (e0.bs b o e).1
  have lim : s.heap.NoLimit := e0.mod.nolimit.keeps fun b o e => (e0.bs b o e).1
  refine ks_codeAny_call_defAt (binds := [(("self" : Str), Value.ref a), (("code" : Str), Value.str x tx)]) hr.depth (KX _ _ lk) rfl lim (PySem.W.codeRec_of KX hcd) rfl hb s4 (fun y hy => ?_) (fun h₀ hns hk => ?_) s2 s3 s1
  · rcases List.mem_cons.mp hy with rfl | hy
    · exact s7
    · rcases List.mem_cons.mp hy with rfl | hy
      · exact s8
      · cases hy
  obtain ⟨hp0, g, dr, tk, os⟩ := s
  -- a frame like ours, without the captured name
  obtain ⟨scF, hscF⟩ : ∃ scF : Scope, scF = { scope with names := [(("self" : Str), NameKind.local), (("code" : Str), NameKind.local)] } := ⟨_, rfl⟩
  have SF : FnScope ["self", "code"] ["self", "code"] scF := by
    subst hscF
    exact ⟨s1, s2, s3, by decide +kernel, rfl, fun y hy => .inl (by
      rcases List.mem_cons.mp hy with rfl | hy
      · rfl
      · rcases List.mem_cons.mp hy with rfl | hy
        · rfl
        · cases hy), fun y hy => by
      rcases List.mem_cons.mp hy with rfl | hy
      · decide
      · rcases List.mem_cons.mp hy with rfl | hy
        · decide
        · cases hy⟩
  have I : Inv (cxOf (L2.CX P w) P w K mg base ["self", "code"] qual scF fI (.ref cda) A outer ⟨hp0, g, dr, tk, os⟩ H E) [] (L2.start ["self", "code"] [.ref a, .str x]) H ⟨h₀, g, dr, tk + 2, os⟩ := by
    refine inv_start SF hr.hd e0 rfl hv ⟨⟨⟨h₀, _, rfl⟩, ?_, hk, Nat.le_refl _⟩, ?_, ?_, ?_⟩
    · have e : (bindL (envOfC qual scF hp0.objs.size fI (.ref cda)).kindOf ([("self" : Str), "code"].zip [Value.ref a, Value.str x tx]) fun _ => none) = fun y => ([(("self" : Str), Value.ref a), (("code" : Str), Value.str x tx)] : List (Str × Value)).reverse.lookup y := by
        have k1 : (envOfC qual scF hp0.objs.size fI (.ref cda)).kindOf "self" = some .local := by subst hscF; rfl
        have k2 : (envOfC qual scF hp0.objs.size fI (.ref cda)).kindOf "code" = some .local := by subst hscF; rfl
        show bindL (envOfC qual scF hp0.objs.size fI (.ref cda)).kindOf [(("self" : Str), Value.ref a), (("code" : Str), Value.str x tx)] (fun _ => none) = _
        unfold bindL bindL bindL
        rw [if_pos k1, if_pos k2]
        funext y
        show _ = ([(("code" : Str), Value.str x tx), (("self" : Str), Value.ref a)] : List (Str × Value)).lookup y
        by_cases h1 : y = "code"
        · rw [if_pos h1, List.lookup_cons, h1]
          simp
        · rw [if_neg h1, List.lookup_cons, show (y == ("code" : Str)) = false by simpa using h1]
          by_cases h2 : y = "self"
          · rw [if_pos h2, h2]
            simp
          · rw [if_neg h2]
            simp [List.lookup_cons, show (y == ("self" : Str)) = false by simpa using h2]
      show h₀.Ns hp0.objs.size _
      rw [e]
      exact hns
    · intro n c z
      subst hscF
      cases z
    · subst hscF
      exact List.Pairwise.nil
    · intro n c z
      subst hscF
      cases z
  obtain ⟨t1, hoa⟩ := exo_at I.hok ha
  obtain ⟨nm, q, N, bs, bm, sn, sub, ab, col, dd, k0, k1, k2, k3, k5, hC, hbm⟩ := T.cls
  have K1 : K.In h₀ := I.kIn
  have hclo : PySem.W.clsIn K C = some { name := nm, bases := bs, mro := .ref C :: bm, ns := N, qualname := q, hasDict := true, slotNames := sn, subclasses := sub, abstract := ab, collection := col, hasDel := false } := by unfold PySem.W.clsIn; rw [hC] <;> rfl
  have hCo := K1 _ _ hC
  have hmod := e0.mod
  obtain ⟨mb, hmb1, hmb2⟩ := hmod.blt
  have bk : ∀ b o, base.get? b = some o → h₀.get? b = some o := fun b o e => hk b o (e0.bs b o e).1
  have aC : a ≠ C := fun z => by
    subst z
    rw [hoa] at hCo
    cases hCo
  have Lna : hp0.objs.size ≠ a := fun z => by
    have := e0.hok.fresh (a := hp0.objs.size) (Nat.le_refl _)
    rw [z, ha] at this
    cases this
  have cv : ∀ (m : Str → Option Value), m = (fun y => ([(("self" : Str), Value.ref a), (("code" : Str), Value.str x tx)] : List (Str × Value)).reverse.lookup y) → m "code" = some (.str x tx) ∧ m "self" = some (.ref a) := fun m e => by
    subst e
    exact ⟨by kernel_rfl, by kernel_rfl⟩
  obtain ⟨cv1, cv2⟩ := cv _ rfl
  refine PySem.ks_wpAt_execs_cons (PySem.ks_wpAt_Expr_any (PySem.ks_wpAt_MethodCall (pl := L2.plainOf (.Call (.Name "super" p0) [] [] p1) _) ?_ (he_line rfl hline)) ?_ rfl)
  · refine PySem.ks_wpAt_super_base s5 s6 (by decide +kernel) rfl (K1 _ _ lk) rfl hp rfl (K1 _ _ lkc) rfl hvs hfile I0.top ?_
    refine PySem.W.ks_loadName_global s1 s5 (Calls.loadGlobal_builtin (hmod.glob.keeps bk) hsup (hmb1.keeps bk) ((hmb2 _ (by decide +kernel)).trans (by kernel_rfl : bootBuiltins "super" = some (.type "super"))) ⟨rfl, ?_⟩)
    refine wpAny_loadName_free s1 s6 rfl ⟨_, K1 _ _ lcell, rfl⟩ ?_
    refine wpAny_loadName_local s1 (by rw [har]; exact s7) hns (by rw [har]; exact cv2) ?_
    refine PySem.ks_wpAny_isType_cls hCo rfl ⟨rfl, ?_⟩
    refine PySem.ks_wpAny_call_super hCo rfl hoa rfl (fun c z => nomatch z) (PySem.W.looks_mroIn K1 I0.mro) (fun h1 hso k1 => ?_)
    have K2 : K.In h1 := K1.keeps k1
    have hoa1 := k1 _ _ hoa
    have ia : PySem.W.InstAt h1 a { cls := .ref C, data := .fields #[.ref t1, .none, .none, .none, .bool false, .none] } C none := ⟨hoa1, rfl, rfl, trivial⟩
    refine PySem.W.kxs_getMethod PySem.W.kxs_ValueError hso (PySem.W.looks_opaque K2 I0.opq) (l₀ := .ref C :: bm) (fun A Q E s k q => wpAny_bind ((PySem.W.looks_clsIn K2 hclo) A _ E s k (wpAny_pure q))) rfl K2 (by
      have z := I0.find
      unfold PySem.W.ks_superIn at z
      rw [hclo] at z
      exact z) (ia.type.andThen (PySem.W.looks_subIn K2 I0.sub)) aC (by decide +kernel) ?_
    have k2 : ∀ b o, h1.get? b = some o → (h1.push (PySem.W.kxs_mw "ValueError.__init__" a)).get? b = some o := fun b o e => Heap.get?_push_of_some _ e
    have hmw : (h1.push (PySem.W.kxs_mw "ValueError.__init__" a)).get? h1.objs.size = some (PySem.W.kxs_mw "ValueError.__init__" a) := Heap.get?_push_at rfl rfl
    show wpAny _ _ (callWith p4 (.ref h1.objs.size) [] ((false, eval (.Name "code" p3) _) :: backTo p4 (starEach [] _)) []) _ _ _
    refine PySem.W.kxs_callWith (i := "ValueError.__init__") (x := a) rfl (Calls.evalArgs_plain (Calls.spliced_cons (wpAny_Name (wpAny_loadName_local s1 s8 ((hns.keeps k1).keeps k2) cv1 ?_) (by decide +kernel))))
    refine Calls.spliced_nil ⟨hmw, ?_⟩
    refine call_bwV (k2 _ _ (K2 _ _ hC)) (k2 _ _ hoa1) hmw (by show 1 ≤ sizeLine; rw [sizeLine_eq]; omega) fun h3 t3 k3 hx3 => ?_
    -- behind the call: nothing that is tracked has changed
    have J1 : Inv (cxOf (L2.CX P w) P w K mg base ["self", "code"] qual scF fI (.ref cda) A outer ⟨hp0, g, dr, tk, os⟩ H E) [] (L2.start ["self", "code"] [.ref a, .str x]) H ⟨h1.push (PySem.W.kxs_mw "ValueError.__init__" a), g, dr, tk + 2 + 1, os⟩ := I.kept (t' := tk + 2 + 1) fun b o e => k2 _ _ (k1 _ _ e)
    have J := J1.write (t' := tk + 2 + 1) (x := a) (e := a) (o := exo a C none) (by rw [ha]; exact True.intro) (.inl rfl) k3 ⟨_, hx3⟩ (exo_ok hx3)
    have eu : upd H a (exo a C none) = H := by
      funext b
      by_cases hb : b = a
      · rw [hb, upd_same, ha]
      · rw [upd_ne hb]
    rw [eu] at J
    have ns3 : h3.Ns hp0.objs.size (fun y => ([(("self" : Str), Value.ref a), (("code" : Str), Value.str x tx)] : List (Str × Value)).reverse.lookup y) := by
      obtain ⟨oL, es, ep, q1, q2⟩ := (hns.keeps k1).keeps k2
      exact ⟨oL, es, ep, k3 _ _ Lna q1, q2⟩
    show PySem.wpAt _ _ _ (execs [.Assign [.Attribute (.Name "self" p6) "code" p7] (.Name "code" p8) p9] _) _ _ _
    refine PySem.ks_wpAt_execs_cons (PySem.ks_wpAt_Assign_Attr (wpAt_of_wpAny (wpAny_Name (wpAny_loadName_local s1 s8 ns3 cv1 ?_) (by decide +kernel))) rfl)
    refine wpAny_Name (wpAny_loadName_local s1 s7 ns3 cv2 ?_) (by decide +kernel)
    refine ost_new T J ha I0.no (show RelV (.str x) (.str x tx) from ⟨_, rfl⟩) fun dx s4 hd hne J4 => ?_
    exact wpAt_of_wpAny (wpAny_execs_nil ⟨.non, _, J4.os, J4.bare, J4.base, J4.hok, rfl, hQ dx hd hne⟩)
  · simp [interactive, callEnv, newEnv, PySem.W.fnX, s1]
end
end L2.DL

set_option Elab.async false
set_option linter.all false
set_option maxRecDepth 100000
set_option maxHeartbeats 4000000
/-! D layer 24: the errors' class, looked at by the head. -/
namespace L2.DL
open PySem PySem.Spec PyProof.Rows
variable [TabL]

def oexB (K : PySem.W.Frag) (C : Addr) : Bool := match K.lookup C with
  | some ⟨.type "type", _, .cls cd, sl⟩ => (match cd.mro, sl.toList with
    | .ref C' :: bm, [_, _, _, _, some (.builtin n), _] => C' == C && n == "ValueError.__new__" && !cd.hasDel && cd.hasDict && PySem.HandSPX.refsVE bm
    | _, _ => false)
  | _ => false
theorem oexB_ok {K : PySem.W.Frag} {C : Addr} (h : oexB K C = true) : ∃ nm q N bs bm sn sub ab col dd k0 k1 k2 k3 k5, K.lookup C = some (excClassObj nm q C N bs bm true sn sub ab col dd k0 k1 k2 k3 k5 "ValueError.__new__") ∧ PySem.HandSPX.refsVE bm = true := by
  unfold oexB at h
  split at h
  · rename_i dd cd sl hl
    split at h
    · rename_i C' bm k0 k1 k2 k3 n k5 hm hs
      simp only [Bool.and_eq_true, beq_iff_eq, Bool.not_eq_true'] at h
      obtain ⟨⟨⟨⟨rfl, rfl⟩, h3⟩, h4⟩, h5⟩ := h
      obtain ⟨nm, bs, mro, ns, qn, hd, sn, sb, ab, col, del⟩ := cd
      dsimp only at hm h3 h4
      subst hm; subst h3; subst h4
      refine ⟨nm, qn, ns, bs, bm, sn, sb, ab, col, dd, k0, k1, k2, k3, k5, ?_, h5⟩
      rw [hl]
      have e : sl = #[k0, k1, k2, k3, some (.builtin "ValueError.__new__"), k5] := by
        rw [← Array.toArray_toList (xs := sl), hs]
      rw [e]
    · cases h
  · cases h
def isInitBody : List Stmt → Bool
  | [.Expr (.Call (.Attribute (.Call (.Name a _) [] [] _) b p2) [.Name c _] [] p4) _, .Assign [.Attribute (.Name d _) e _] (.Name f _) _] =>
    a == ("super" : Str) && b == ("__init__" : Str) && c == ("code" : Str) && d == ("self" : Str) && e == ("code" : Str) && f == ("code" : Str) && p2.endLine == p4.line
  | _ => false
theorem isInitBody_ok {body : List Stmt} (h : isInitBody body = true) : ∃ (p0 p1 p2 p3 p4 p5 p6 p7 p8 p9 : Pos), (p2.endLine == p4.line) = true ∧ body = [.Expr (.Call (.Attribute (.Call (.Name "super" p0) [] [] p1) "__init__" p2) [.Name "code" p3] [] p4) p5, .Assign [.Attribute (.Name "self" p6) "code" p7] (.Name "code" p8) p9] := by
  unfold isInitBody at h
  split at h
  · simp only [Bool.and_eq_true, beq_iff_eq] at h
    obtain ⟨⟨⟨⟨⟨⟨rfl, rfl⟩, rfl⟩, rfl⟩, rfl⟩, rfl⟩, h7⟩ := h
    exact ⟨_, _, _, _, _, _, _, _, _, _, by rw [beq_iff_eq]; exact h7, rfl⟩
  · cases h
def parB : Arguments → Bool
  | ⟨[], [a, b], none, [], [], none, []⟩ => a.arg == ("self" : Str) && b.arg == ("code" : Str)
  | _ => false
def scopeB (sc : Scope) : Bool := decide (sc.kind = .function) && !sc.isCoroutine && !sc.isGenerator && sc.names.all (fun x => !decide (x.2 = .cell)) && decide (sc.names.lookup ("super" : Str) = some .globalImplicit) && decide (sc.names.lookup ("__class__" : Str) = some .free) &&
  decide (sc.names.lookup ("self" : Str) = some .local) && decide (sc.names.lookup ("code" : Str) = some .local)
def initB (P : Program) (K : PySem.W.Frag) (C fI : Addr) : Bool := match K.lookup fI with
  | some ⟨_, _, .func fd, _⟩ => (match fd.body, fd.closure, fd.code with
    | .stmts body, [(cn, cc)], .ref cda => fd.name == ("__init__" : Str) && cn == ("__class__" : Str) && decide (fd.globals = mainGlobals) && decide (fd.builtins = builtinsNs) && isInitBody body && parB fd.params && scopeB fd.scope && decide (fd.defaults = .none) && PySem.W.codeIn K (.ref cda) fd.qualname &&
      (match K.lookup cda with
        | some ⟨_, _, .fields vs, _⟩ => (match (vs[2]? : Option Value) with
          | some (Value.str file _) => (P.main.file : Str) == file
          | _ => false)
        | _ => false) &&
      (match K.lookup cc with
        | some ⟨_, _, .cell (some (.ref D)), _⟩ => D == C
        | _ => false)
    | _, _, _ => false)
  | _ => false
/-- all that is asked of the class -/
def excB (P : Program) (K : PySem.W.Frag) : Bool := oexB K (He.ga K "SecretError") && initB P K (He.ga K "SecretError") (He.ma K (He.ga K "SecretError") "__init__") &&
  decide (PySem.W.findIn K (.ref (He.ga K "SecretError")) "__setattr__" = some (some (.builtin "object.__setattr__"))) && decide (PySem.W.subIn K (.ref (He.ga K "SecretError")) (.type "BaseException") = some true) && decide (PySem.W.typeIn K (.ref (He.ga K "SecretError")) = some (.type "type")) && PySem.W.keepIn K (.ref (He.ga K "SecretError")) &&
  decide (PySem.W.findIn K (.ref (He.ga K "SecretError")) "__init__" = some (some (.ref (He.ma K (He.ga K "SecretError") "__init__")))) && decide (PySem.W.typeIn K (.ref (He.ma K (He.ga K "SecretError") "__init__")) = some (.type "function")) &&
  decide (PySem.W.nsIn K mainGlobals "super" = some none) && !(P.main.scope.names.lookup ("super" : Str)).isSome && decide (PySem.W.mroIn K (He.ga K "SecretError") (.ref (He.ga K "SecretError")) = some true) && decide (PySem.W.subIn K (.ref (He.ga K "SecretError")) (.type "ValueError") = some true) &&
  decide (PySem.W.ks_superIn K (He.ga K "SecretError") (He.ga K "SecretError") "__init__" = some (some (.builtin "ValueError.__init__"))) && decide (PySem.W.findIn K (.ref (He.ga K "SecretError")) "code" = some none) && decide (PySem.W.nsIn K cStatics "thirdparty.any" = some none) &&
  decide (PySem.W.nsIn K mainGlobals "SecretError" = some (some (.ref (He.ga K "SecretError")))) && xfB K (He.ga K "SecretError") && decide (PySem.W.exmOne K (.ref (He.ga K "SecretError")) (.ref (He.ga K "SecretError")) = some true)
section
variable {P : Program} {w : World} {K : PySem.W.Frag} {mg : Str → Option Value} {base h : Heap}
theorem initB_ok {C fI : Addr} (hI : initB P K C fI = true) : ∃ fd, L2.Binds K fd ["self", "code"] [] ∧ (PySem.W.nsIn K mainGlobals "super" = some none → (P.main.scope.names.lookup ("super" : Str)).isSome = false → PySem.W.mroIn K C (.ref C) = some true → PySem.W.subIn K (.ref C) (.type "ValueError") = some true →
    PySem.W.ks_superIn K C C "__init__" = some (some (.builtin "ValueError.__init__")) → PySem.W.findIn K (.ref C) "code" = some none → PySem.W.nsIn K cStatics "thirdparty.any" = some none → InitF P K C fI fd) := by
  unfold initB at hI
  split at hI
  · rename_i oc od fd osl hl
    split at hI
    · rename_i body cn cc cda hb hc hcd
      simp only [Bool.and_eq_true, beq_iff_eq, decide_eq_true_eq] at hI
      obtain ⟨⟨⟨⟨⟨⟨⟨⟨⟨⟨h1, h2⟩, h3⟩, h4⟩, h5⟩, h6⟩, h7⟩, h8⟩, h9⟩, h10⟩, h11⟩ := hI
      subst h2
      obtain ⟨nm, qn, pr, bd, sc, gl, clo, df, kd, dc, pm, an, cd, ctp, bl⟩ := fd
      dsimp only at *
      subst h1; subst hb; subst hc; subst hcd; subst h3; subst h4; subst h8
      refine ⟨⟨"__init__", qn, pr, .stmts body, sc, mainGlobals, [("__class__", cc)], .none, kd, dc, pm, an, .ref cda, ctp, builtinsNs⟩, ?_, fun g1 g2 g3 g4 g5 g6 g7 => ⟨?_, g1, g2, g3, g4, g5, g6, g7⟩⟩
      · unfold parB at h6
        split at h6
        · rename_i a b
          simp only [Bool.and_eq_true, beq_iff_eq] at h6
          obtain ⟨q1, q2⟩ := h6
          refine .all fun us hl => ?_
          match us, hl with
          | [u, v], _ =>
            show _ = pure [(("self" : Str), u), (("code" : Str), v)]
            clear h10 h11 hl h5 h7 h9
            cases a
            cases b
            dsimp only at q1 q2
            subst q1
            subst q2
            kernel_rfl
        · cases h6
      · split at h10
        · rename_i ccl cdd vs ccs hlc
          split at h10
          · rename_i file tf hv
            split at h11
            · rename_i cl cld D csl hlcc
              have hD : D = C := by simpa using h11
              subst hD
              unfold parB at h6
              split at h6
              · rename_i a b
                simp only [Bool.and_eq_true, beq_iff_eq] at h6
                unfold scopeB at h7
                simp only [Bool.and_eq_true, decide_eq_true_eq, Bool.not_eq_true', List.all_eq_true, decide_eq_false_iff_not] at h7
                obtain ⟨⟨⟨⟨⟨⟨⟨s1, s2⟩, s3⟩, s4⟩, s5⟩, s6⟩, s7⟩, s8⟩ := h7
                exact ⟨qn, _, body, sc, _, _, _, _, _, cda, _, cc, oc, od, osl, vs, file, tf, ccl, cdd, ccs, cl, cld, csl, a, rfl, hl, h9, hlc, hv, h10, hlcc, rfl, h6.1, s1, s2, s3, s4, s5, s6, s7, s8, isInitBody_ok h5⟩
              · cases h6
            · cases h11
          · cases h10
        · cases h10
    · cases hI
  · cases hI
theorem excB_ok (c : excB P K = true) (X : K.In h) (G : h.Ns mainGlobals mg) : ExcF P w K mg base (He.ga K "SecretError") ∧ XfC K (He.ga K "SecretError") ∧ PySem.W.exmOne K (.ref (He.ga K "SecretError")) (.ref (He.ga K "SecretError")) = some true ∧ PySem.W.findIn K (.ref (He.ga K "SecretError")) "code" = some none := by
  unfold excB at c
  simp only [Bool.and_eq_true, decide_eq_true_eq, Bool.not_eq_true'] at c
  obtain ⟨⟨⟨⟨⟨⟨⟨⟨⟨⟨⟨⟨⟨⟨⟨⟨⟨c1, c2⟩, c3⟩, c4⟩, c5⟩, c6⟩, c7⟩, c8⟩, c9⟩, c10⟩, c11⟩, c12⟩, c13⟩, c14⟩, c15⟩, c16⟩, c17⟩, c18⟩ := c
  obtain ⟨fd, b1, b2⟩ := initB_ok c2
  have T : OexC K (He.ga K "SecretError") := ⟨oexB_ok c1, c3, c4, c5, c6⟩
  exact ⟨⟨T, PySem.W.mg_of X G c16, _, fd, ["self", "code"], c7, c8, init_ok (b2 c9 c10 c11 c12 c13 c14 c15) T (PySem.W.mg_none_of X G c9) 2, b1⟩, xfB_ok c17, c18, c14⟩
/-- try: return a() / except SecretError as n: return n.code -/
def isTold : List Stmt → Option (Str × Str)
  | [.Try [.Return (some (.Call (.Name a _) [] [] _)) _] [.ExceptHandler (some (.Name e _)) (some n) [.Return (some (.Attribute (.Name n' _) c _)) _] _] [] [] _] => if e == ("SecretError" : Str) && n' == n && c == ("code" : Str) then some (a, n) else none
  | _ => none
theorem told_ok (w : World) (base : Heap) {params : Arguments} {body : List Stmt} {scope : Scope} {fd : FuncData} {a n : Str} (F : FunD K "_law_told" "_law_told" params body scope [] [] (He.ga K "_law_told") fd) (hm : mg "_law_told" = some (.ref (He.ga K "_law_told"))) (c : excB P K = true) (X : K.In h) (G : h.Ns mainGlobals mg) (ht : isTold body = some (a, n))
    (S : FnScope [a, n] [a] scope) (hb : L2.Binds K fd [a] []) (hln : scope.names.lookup n = some .local) (hva : Vis scope a) (hge : scope.names.lookup ("SecretError" : Str) = some .globalImplicit) (h1 : (a == ("__debug__" : Str)) = false) (h2 : (a == ("__classdict__" : Str)) = false) (h3 : (n == ("__debug__" : Str)) = false) (h4 : (n == ("__classdict__" : Str)) = false) :
    ToldF K mg (He.ga K "SecretError") := by
  obtain ⟨E, xf, xm, no⟩ := excB_ok (w := w) (base := base) c X G
  obtain ⟨oc, od, dV, kV, doc, pm, an, cdv, ct, osl, rfl, lk, hcd, _, _⟩ := F.ex
  unfold isTold at ht
  split at ht
  · split at ht
    · rename_i hc
      simp only [Bool.and_eq_true, beq_iff_eq] at hc
      obtain ⟨⟨rfl, rfl⟩, rfl⟩ := hc
      cases ht
      refine ⟨_, params, _, scope, dV, kV, doc, pm, cdv, ct, oc, an, od, osl, [a, _], a, hm, F.kp, lk, hcd, hb, S, rfl, hva, h1, h2, fun X e1 e2 q => ?_⟩
      subst e1; subst e2
      exact told_gives2 (i := 1) hge E.emg (by decide +kernel) (fun f => rfl) S.nd rfl hln h3 h4 xm xf no
    · cases ht
  · cases ht
end
end L2.DL

set_option Elab.async false
set_option linter.all false
set_option maxRecDepth 100000
set_option maxHeartbeats 4000000
/-! D layer 25: the end, with tables. -/
namespace L2.DL
open PySem PySem.Spec PyProof.Rows

def exB (P : Program) (tfs : List Str) (exc : Bool) (K : PySem.W.Frag) : Bool := (!exc || excB P K) && decide ((tfs.map fun x => (He.cT K (x, none)).2).Nodup)
theorem exB_exc {P : Program} {tfs : List Str} {K : PySem.W.Frag} (h : exB P tfs true K = true) : excB P K = true := by
  unfold exB at h
  simpa using (Bool.and_eq_true_iff.mp h).1
theorem exB_nd {P : Program} {tfs : List Str} {e : Bool} {K : PySem.W.Frag} (h : exB P tfs e K = true) : (tfs.map fun x => (He.cT K (x, none)).2).Nodup := by
  unfold exB at h
  simpa using (Bool.and_eq_true_iff.mp h).2
theorem nodup_inj {α β : Type} {f : α → β} : ∀ {l : List α} {a b : α}, (l.map f).Nodup → a ∈ l → b ∈ l → f a = f b → a = b
  | x :: l, a, b, h, ha, hb, e => by
    rw [List.map_cons, List.nodup_cons] at h
    rcases List.mem_cons.mp ha with e1 | ha2
    · rcases List.mem_cons.mp hb with e2 | hb2
      · rw [e1, e2]
      · exact (h.1 (by rw [← e1, e]; exact List.mem_map.mpr ⟨b, hb2, rfl⟩)).elim
    · rcases List.mem_cons.mp hb with e2 | hb2
      · exact (h.1 (by rw [← e2, ← e]; exact List.mem_map.mpr ⟨a, ha2, rfl⟩)).elim
      · exact nodup_inj h.2 ha2 hb2 e
/-- the tables as the walk has them -/
@[reducible] def tabL (K : PySem.W.Frag) (tfs : List Str) : TabL := ⟨tfs.map fun x => ((He.cT K (x, none)).2, lamQ x)⟩
theorem lawAt_of {l : PySem.W.OpenLaw} {w : World} {K : PySem.W.Frag} {mg : Str → Option Value} {fa : Addr} {h : Heap} {n k : Nat} {x : Str} {tfs : List Str} {fd : FuncData} (KX : K.In h) (hT : ∀ y ∈ tfs, h.get? (He.cT K (y, none)).2 = some { cls := .none, data := .fields #[] }) (hout : ∀ y ∈ tfs, K.lookup (He.cT K (y, none)).2 = none)
    (hhd : ∀ y ∈ tfs, PySem.W.codeHdIn K (He.cT K (y, none)).1 (He.cT K (y, none)).2 = true) (hb : ∀ (s : Shared) (u : Value), BindsTo s fd ⟨[u], []⟩ [(x, u)])
    (hF : ∀ base : Heap, K.In base → base.Ns mainGlobals mg → (∀ y ∈ tfs, LamX.TabB base mg (He.cT K (y, none)).1 (He.cT K (y, none)).2) → @FnOk l.prog w K mg base (L2.CX l.prog w) k fa fd [x] (@spLaw (tabL K tfs) K n)) :
    LamX.LawAtS l w K (L2.CX l.prog w) k n x mg fa h := by
  refine ⟨fd, tfs.map fun y => He.cT K (y, none), @spLaw (tabL K tfs) K n, fun p hp => ?_, fun p hp => ?_, fun p hp => ?_, hb, fun H a ns hl _ ht hS => ?_, fun base h1 h2 h3 => hF base h1 h2 fun y hy => h3 _ (List.mem_map.mpr ⟨y, hy, rfl⟩)⟩
  · obtain ⟨y, hy, rfl⟩ := List.mem_map.mp hp
    exact hT y hy
  · obtain ⟨y, hy, rfl⟩ := List.mem_map.mp hp
    exact hout y hy
  · obtain ⟨y, hy, rfl⟩ := List.mem_map.mp hp
    exact PySem.W.codeHd_of_K KX (hhd y hy)
  · refine ⟨a, ns, rfl, hl, hS, fun p hp => ?_, fun _ => rfl⟩
    obtain ⟨y, hy, rfl⟩ := List.mem_map.mp hp
    exact LamX.TabS.nil (ht _ (List.mem_map.mpr ⟨y, hy, rfl⟩))
end L2.DL

/-! ### a look at the heap that follows closures -/
namespace L2.DL
open PySem PySem.Spec PyProof.Rows
def cellsOf (g : Addr → Option Obj) (as : List Addr) : List Addr := as.flatMap fun a => match g a with
  | some o => (match o.data with
    | .func fd => fd.closure.map (·.2)
    | _ => [])
  | none => []
def asY (g : Addr → Option Obj) (n : Nat) : List Addr := He.asD g n ++ (cStatics :: cellsOf g (He.asD g n))
def frY (g : Addr → Option Obj) (n : Nat) : PySem.W.Frag := He.frT g (asY g n)
def obsY (n : Nat) (fa : List He.Fa) (fn : List He.DefD) (tf : List He.Defn) (ex : PySem.W.Frag → Bool) (g : Addr → Option Obj) : He.AlX := (He.obsT fa fn [] (frY g n), ex (frY g n) && He.tabsB g tf (frY g n))
theorem saysY {n : Nat} {fa : List He.Fa} {fn : List He.DefD} {tf : List He.Defn} {ex : PySem.W.Frag → Bool} {w : World} {h : Heap} (e : obsY n fa fn tf ex h.get? = He.valX fn [] w) : He.SaysX fa fn [] tf ex w h (frY h.get? n) := by
  have ⟨e1, e2⟩ := Prod.mk.inj e
  obtain ⟨h1, h2⟩ := Bool.and_eq_true_iff.mp e2
  have tab : ∀ p ∈ tf, PySem.W.codeHdIn (frY h.get? n) (He.cT (frY h.get? n) p).1 (He.cT (frY h.get? n) p).2 = true ∧ ∃ o, h.get? (He.cT (frY h.get? n) p).2 = some o ∧ He.emptyTab o = true := fun p hp => by
    obtain ⟨a, b⟩ := Bool.and_eq_true_iff.mp (List.all_eq_true.mp h2 p hp)
    refine ⟨a, ?_⟩
    split at b
    · rename_i o ho; exact ⟨o, ho, b⟩
    · cases b
  refine ⟨e1, h1, fun p hp => (tab p hp).1, fun p hp => ?_, fun p hp => ?_⟩
  · obtain ⟨_, o, ho, z⟩ := tab p hp
    exact He.frT_none ho z
  · obtain ⟨_, o, ho, z⟩ := tab p hp
    rw [ho, He.emptyTab_eq z]
def hookY (n : Nat) (fa : List He.Fa) (fn : List He.DefD) (tf : List He.Defn) (ex : PySem.W.Frag → Bool) : PySem.W.Hook where
  α := He.AlX
  obs := fun s => obsY n fa fn tf ex s.heap.get?
  val := fun w => He.valX fn [] w
  says := fun w h => ∃ K : PySem.W.Frag, K.In h ∧ He.SaysX fa fn [] tf ex w h K
  of := fun _ _ e => ⟨_, He.frT_in, saysY e⟩
  keeps := fun _ _ _ ⟨K, hK, c⟩ k => ⟨K, PySem.W.Frag.In.keeps hK k, ⟨c.t, c.more, c.hd, c.out, fun p hp => k _ _ (c.empty p hp)⟩⟩
theorem obsY_eq {n : Nat} {fa : List He.Fa} {fn : List He.DefD} {tf : List He.Defn} {ex : PySem.W.Frag → Bool} {g : Addr → Option Obj} {s : Shared} (h : ∀ a, g a = s.heap.get? a) : obsY n fa fn tf ex g = (hookY n fa fn tf ex).obs s := by
  rw [funext h]
  rfl
/-! ### constants of the module: ints, tuples of them -/
mutual
/-- the value that reads as plain data -/
def litV (K : PySem.W.Frag) : Nat → D → Value → Option V
  | _, .int i, .int j _ => if i = j then some (.int i) else none
  | _, .str i, .str j _ => if i = j then some (.str i) else none
  | _, .bool i, .bool j => if i = j then some (.bl i) else none
  | n + 1, .tuple ds, .ref a => match K.lookup a with
    | some o => match o.data with
      | .seq its _ => if o.cls = .type "tuple" ∧ its.size ≤ 1000 then (litVs K n ds its.toList).map fun _ => .ref a else none
      | _ => none
    | none => none
  | _, _, _ => none
def litVs (K : PySem.W.Frag) : Nat → List D → List Value → Option (List V)
  | _, [], [] => some []
  | n + 1, d :: ds, v :: vs => (litV K n d v).bind fun x => (litVs K n ds vs).map fun xs => x :: xs
  | _, _, _ => none
end
theorem lit_ok {K : PySem.W.Frag} : ∀ n : Nat, (∀ (d : D) (v : Value) (x : V), litV K n d v = some x → RelV x v ∧ ∀ H, Dv K H x d) ∧ ∀ (ds : List D) (vs : List Value) (xs : List V), litVs K n ds vs = some xs → Vals xs vs ∧ ∀ H, DvAll K H xs ds := by
  intro n
  induction n with
  | zero =>
    constructor
    · intro d v x h
      unfold litV at h
      split at h
      · split at h
        · rename_i e; cases h; subst e; exact ⟨⟨_, rfl⟩, fun _ => .int _⟩
        · cases h
      · split at h
        · rename_i e; cases h; subst e; exact ⟨⟨_, rfl⟩, fun _ => .str _⟩
        · cases h
      · split at h
        · rename_i e; cases h; subst e; exact ⟨rfl, fun _ => .bl _⟩
        · cases h
      · omega
      · cases h
    · intro ds vs xs h
      unfold litVs at h
      split at h
      · cases h; exact ⟨.nil, fun _ => .nil⟩
      · omega
      · cases h
  | succ n ih =>
    obtain ⟨ih1, ih2⟩ := ih
    constructor
    · intro d v x h
      unfold litV at h
      split at h
      · split at h
        · rename_i e; cases h; subst e; exact ⟨⟨_, rfl⟩, fun _ => .int _⟩
        · cases h
      · split at h
        · rename_i e; cases h; subst e; exact ⟨⟨_, rfl⟩, fun _ => .str _⟩
        · cases h
      · split at h
        · rename_i e; cases h; subst e; exact ⟨rfl, fun _ => .bl _⟩
        · cases h
      · rename_i m ds a hm
        cases hm
        split at h
        · rename_i o ho
          split at h
          · rename_i its c hd
            split at h
            · rename_i hc
              cases hx : litVs K n ds its.toList with
              | none => rw [hx] at h; cases h
              | some xs =>
                rw [hx] at h
                cases h
                obtain ⟨h1, h2⟩ := ih2 ds its.toList xs hx
                exact ⟨rfl, fun H => .tup (.inr ⟨o, its, c, ho, hc.1, hd, by rw [sizeLine_eq]; have := hc.2; omega, h1⟩) (h2 H)⟩
            · cases h
          · cases h
        · cases h
      · cases h
    · intro ds vs xs h
      unfold litVs at h
      split at h
      · cases h; exact ⟨.nil, fun _ => .nil⟩
      · rename_i m d ds v vs hm
        cases hm
        cases hx : litV K n d v with
        | none => rw [hx] at h; cases h
        | some x =>
          rw [hx] at h
          cases hy : litVs K n ds vs with
          | none => rw [hy] at h; cases h
          | some ys =>
            rw [hy] at h
            cases h
            obtain ⟨h1, h2⟩ := ih1 d v x hx
            obtain ⟨h3, h4⟩ := ih2 ds vs ys hy
            exact ⟨.cons h1 h3, fun H => .cons (h2 H) (h4 H)⟩
      · cases h
/-- the module's constants are so -/
def cstB (K : PySem.W.Frag) : List (Str × D) → Bool
  | [] => true
  | p :: ps => (match PySem.W.nsIn K mainGlobals p.1 with
    | some (some v) => (litV K 40 p.2 v).isSome
    | _ => false) && cstB K ps
theorem cstB_ok {K : PySem.W.Frag} {h : Heap} {mg : Str → Option Value} (X : K.In h) (G : h.Ns mainGlobals mg) : ∀ {l : List (Str × D)}, cstB K l = true → AllF (HC K mg) l
  | [], _ => trivial
  | p :: ps, e => by
    unfold cstB at e
    rw [Bool.and_eq_true] at e
    refine ⟨?_, cstB_ok X G e.2⟩
    have e1 := e.1
    split at e1
    · rename_i v hv
      cases hx : litV K 40 p.2 v with
      | none => rw [hx] at e1; cases e1
      | some x =>
        obtain ⟨h1, h2⟩ := (lit_ok 40).1 p.2 v x hx
        exact ⟨v, x, PySem.W.mg_of X G hv, h1, h2⟩
    · cases e1
end L2.DL

set_option Elab.async false
set_option linter.all false
set_option maxRecDepth 100000
set_option maxHeartbeats 4000000
/-! D layer 26: the draws, in plain terms. -/
namespace L2.DL
open PySem PySem.Spec PyProof.Rows
variable [TabL]
abbrev kI (n : Int) : IX := .c (.int n)
def irTake : IS := IS.seq (IS.ite (IX.tif (IX.tev (IX.b2 (O2.eq) (IX.dr 0 2) (kI 0))) (IX.tev (IX.b2 (O2.lt) (IX.dr 0 1) (IX.bi (Bi.len) (IX.cons (IX.dr 0 0) (IX.nil))))) (IX.ff)) (IS.seq (IS.drSet 0 2 (IX.bi (Bi.abs) (IX.cons (IX.bi (Bi.int) (IX.cons (IX.ix (IX.dr 0 0) (IX.dr 0 1)) (IX.nil))) (IX.nil)))) (IS.seq (IS.drSet 0 1 (IX.b2 (O2.add) (IX.dr 0 1) (kI 1))) (IS.ite (IX.tev (IX.b2 (O2.lt) (IX.dr 0 2) (IX.b2 (O2.pow) (kI 10) (kI 18)))) (IS.seq (IS.asg (Tg.nm 3) (IX.bi (Bi.int) (IX.cons (IX.dr 0 2) (IX.nil)))) (IS.seq (IS.drSet 0 2 (kI 0)) (IS.ret (IX.b2 (O2.mod) (IX.pk 3) (IX.pk 1))))) (IS.skip)))) (IS.skip)) (IS.seq (IS.ite (IX.tev (IX.b2 (O2.gt) (IX.dr 0 2) (kI 0))) (IS.seq (IS.asg (Tg.nm 2) (IX.b2 (O2.mod) (IX.bi (Bi.int) (IX.cons (IX.dr 0 2) (IX.nil))) (IX.pk 1))) (IS.seq (IS.drSet 0 2 (IX.b2 (O2.div) (IX.bi (Bi.int) (IX.cons (IX.dr 0 2) (IX.nil))) (IX.pk 1))) (IS.ret (IX.var 2)))) (IS.skip)) (IS.seq (IS.drSet 0 3 (IX.b2 (O2.mod) (IX.bi (Bi.int) (IX.cons (IX.b2 (O2.add) (IX.b2 (O2.mul) (IX.dr 0 3) (kI 48271)) (kI 11)) (IX.nil))) (kI 2147483647))) (IS.ret (IX.b2 (O2.mod) (IX.bi (Bi.int) (IX.cons (IX.b2 (O2.div) (IX.dr 0 3) (kI 3)) (IX.nil))) (IX.pk 1)))))
/-- the draws stand well -/
structure DrOk (s : Dr) : Prop where
  scr : s.scr.length ≤ 64
  pos : 0 ≤ s.pos
  cur : 0 ≤ s.cur
  seed : 0 ≤ s.seed
  seed2 : s.seed < 2147483647
abbrev st0 : Sf → Fn := fun f args s => f (fun _ s => .ok (.none, s)) (fun _ _ => .stuck) (fun _ _ => .stuck) args s
def Took (m : Int) (r : R (D × Dr)) : Prop := ∃ (t : Int) (s' : Dr), r = .ok (.int t, s') ∧ 0 ≤ t ∧ t < m ∧ DrOk s'
theorem Took.of {m : Int} {x y : R (D × Dr)} (e : x = y) (h : Took m y) : Took m x := e ▸ h
/-- the third part: the seed goes on -/
theorem take3 (F : Nat → Fn) {m : Int} (hm : 0 < m) {s : Dr} (hs : DrOk s) (k kb kc : En → Dr → R (D × Dr)) : 
    Took m (evS' F (IS.seq (IS.drSet 0 3 (IX.b2 (O2.mod) (IX.bi (Bi.int) (IX.cons (IX.b2 (O2.add) (IX.b2 (O2.mul) (IX.dr 0 3) (kI 48271)) (kI 11)) (IX.nil))) (kI 2147483647))) (IS.ret (IX.b2 (O2.mod) (IX.bi (Bi.int) (IX.cons (IX.b2 (O2.div) (IX.dr 0 3) (kI 3)) (IX.nil))) (IX.pk 1)))) k kb kc [.drw, .val (.int m), .no, .no] s) := by
  have hmul : mulB s.seed 48271 = true := by
    unfold mulB
    have h1 : s.seed.natAbs < 2 ^ 31 := by have := hs.seed; have := hs.seed2; omega
    have h2 : s.seed.natAbs.log2 < 31 := by
      by_cases h0 : s.seed.natAbs = 0
      · rw [h0]; decide
      · exact (Nat.log2_lt h0).mpr h1
    have h3 : (48271 : Int).natAbs.log2 = 15 := by decide
    rw [Nat.ble_eq, h3]; omega
  have hd3 : divB 3 = true := by decide
  have hk := hs.seed
  have hpos : 0 ≤ (s.seed * 48271 + 11) % 2147483647 := Int.emod_nonneg _ (by decide)
  have hlt : (s.seed * 48271 + 11) % 2147483647 < 2147483647 := Int.emod_lt_of_pos _ (by decide)
  refine ⟨(s.seed * 48271 + 11) % 2147483647 / 3 % m, { s with seed := (s.seed * 48271 + 11) % 2147483647 }, ?_, Int.emod_nonneg _ (by omega), Int.emod_lt_of_pos _ hm, ⟨hs.scr, hs.pos, hs.cur, hpos, hlt⟩⟩
  simp [evS', sSeq, sDrSet, evE, evA, evDr, onDrw, ev2, evB1, evCons, evNil, evC, evPk, O2.g, Bi.g, gMul, gAdd, gMod, gDiv, gInt, Dr.get, Dr.put, R.bind, R.ofO, hmul, hd3, hpos, hm, sRet, frzE, frz1, kI]
/-- the second part: what is left of a number -/
theorem take2 (F : Nat → Fn) {m : Int} (hm : 0 < m) (hb : divB m = true) {s : Dr} (hs : DrOk s) (rest : IS) (hr : ∀ k kb kc, Took m (evS' F rest k kb kc [.drw, .val (.int m), .no, .no] s)) (k kb kc : En → Dr → R (D × Dr)) :
    Took m (evS' F (IS.seq (IS.ite (IX.tev (IX.b2 (O2.gt) (IX.dr 0 2) (kI 0))) (IS.seq (IS.asg (Tg.nm 2) (IX.b2 (O2.mod) (IX.bi (Bi.int) (IX.cons (IX.dr 0 2) (IX.nil))) (IX.pk 1))) (IS.seq (IS.drSet 0 2 (IX.b2 (O2.div) (IX.bi (Bi.int) (IX.cons (IX.dr 0 2) (IX.nil))) (IX.pk 1))) (IS.ret (IX.var 2)))) (IS.skip)) rest) k kb kc [.drw, .val (.int m), .no, .no] s) := by
  have hc := hs.cur
  by_cases h0 : 0 < s.cur
  · have hq : 0 ≤ s.cur / m := Int.ediv_nonneg hc (by omega)
    refine ⟨s.cur % m, { s with cur := s.cur / m }, ?_, Int.emod_nonneg _ (by omega), Int.emod_lt_of_pos _ hm, ⟨hs.scr, hs.pos, hq, hs.seed, hs.seed2⟩⟩
    simp [evS', sSeq, sIf, sAsg, sDrSet, evT, evE, evA, evB, evDr, evVar, onDrw, ev2, evB1, evCons, evNil, evC, evPk, O2.g, Bi.g, gI, gMod, gDiv, gInt, Dr.get, Dr.put, R.bind, R.ofO, hb, hm, h0, hq, sRet, frzE, frz1, kI, bindT, setE]
  · have e : evS' F (IS.seq (IS.ite (IX.tev (IX.b2 (O2.gt) (IX.dr 0 2) (kI 0))) (IS.seq (IS.asg (Tg.nm 2) (IX.b2 (O2.mod) (IX.bi (Bi.int) (IX.cons (IX.dr 0 2) (IX.nil))) (IX.pk 1))) (IS.seq (IS.drSet 0 2 (IX.b2 (O2.div) (IX.bi (Bi.int) (IX.cons (IX.dr 0 2) (IX.nil))) (IX.pk 1))) (IS.ret (IX.var 2)))) (IS.skip)) rest) k kb kc [.drw, .val (.int m), .no, .no] s = evS' F rest k kb kc [.drw, .val (.int m), .no, .no] s := by
      simp [evS', sSeq, sIf, sSkip, evT, evE, evB, evDr, onDrw, ev2, evC, O2.g, gI, Dr.get, R.bind, R.ofO, h0, kI]
    rw [e]
    exact hr k kb kc
def irTake1 : IS := IS.ite (IX.tif (IX.tev (IX.b2 (O2.eq) (IX.dr 0 2) (kI 0))) (IX.tev (IX.b2 (O2.lt) (IX.dr 0 1) (IX.bi (Bi.len) (IX.cons (IX.dr 0 0) (IX.nil))))) (IX.ff)) (IS.seq (IS.drSet 0 2 (IX.bi (Bi.abs) (IX.cons (IX.bi (Bi.int) (IX.cons (IX.ix (IX.dr 0 0) (IX.dr 0 1)) (IX.nil))) (IX.nil)))) (IS.seq (IS.drSet 0 1 (IX.b2 (O2.add) (IX.dr 0 1) (kI 1))) (IS.ite (IX.tev (IX.b2 (O2.lt) (IX.dr 0 2) (IX.b2 (O2.pow) (kI 10) (kI 18)))) (IS.seq (IS.asg (Tg.nm 3) (IX.bi (Bi.int) (IX.cons (IX.dr 0 2) (IX.nil)))) (IS.seq (IS.drSet 0 2 (kI 0)) (IS.ret (IX.b2 (O2.mod) (IX.pk 3) (IX.pk 1))))) (IS.skip)))) (IS.skip)
theorem take1 (F : Nat → Fn) {m : Int} (hm : 0 < m) {s : Dr} (hs : DrOk s) (kk kb kc : En → Dr → R (D × Dr)) (hk : ∀ s, DrOk s → Took m (kk [.drw, .val (.int m), .no, .no] s)) : Took m (evS' F irTake1 kk kb kc [.drw, .val (.int m), .no, .no] s) := by
  unfold irTake1
  by_cases h0 : s.cur = 0
  · by_cases h1 : s.pos < s.scr.length
    · have hp := hs.pos
      obtain ⟨n, hn⟩ : ∃ n, s.scr[s.pos.toNat]? = some n := ⟨_, List.getElem?_eq_getElem (by omega)⟩
      have hn2 := (List.getElem?_eq_some_iff.mp hn).2
      have hat : L2.atI (s.scr.map PyData.int) s.pos = some (.int n) := by
        unfold L2.atI L2.ixN
        simp [hn, hn2, hp, h1]
      have ha : 0 ≤ (if n < 0 then -n else n) := by split <;> omega
      have hp1 : 0 ≤ s.pos + 1 := by omega
      obtain ⟨c, hc⟩ : ∃ c, c = (if n < 0 then -n else n) := ⟨_, rfl⟩
      rw [← hc] at ha
      by_cases h3 : c < 1000000000000000000
      · refine ⟨c % m, { s with cur := 0, pos := s.pos + 1 }, ?_, Int.emod_nonneg _ (by omega), Int.emod_lt_of_pos _ hm, ⟨hs.scr, hp1, Int.le_refl 0, hs.seed, hs.seed2⟩⟩
        simp [evS', sSeq, sIf, sAsg, sDrSet, evT, evIf, evE, evA, evB, evDr, evVar, onDrw, ev2, evB1, evCons, evNil, evC, evPk, O2.g, Bi.g, gI, gEq, dep, PyData.eqv, gLen, gIx, gAbs, gAdd, gPow, gMod, gDiv, gInt, Dr.get, Dr.put, R.bind, R.ofO, hm, h0, h1, hat, ← hc, ha, hp1, h3, sRet, frzE, frz1, kI, bindT, setE]
      · refine Took.of (y := kk [.drw, .val (.int m), .no, .no] { s with cur := c, pos := s.pos + 1 }) ?_ (hk _ ⟨hs.scr, hp1, ha, hs.seed, hs.seed2⟩)
        simp [evS', sSeq, sIf, sSkip, sAsg, sDrSet, evT, evIf, evE, evA, evB, evDr, evVar, onDrw, ev2, evB1, evCons, evNil, evC, evPk, O2.g, Bi.g, gI, gEq, dep, PyData.eqv, gLen, gIx, gAbs, gAdd, gPow, gMod, gDiv, gInt, Dr.get, Dr.put, R.bind, R.ofO, hm, h0, h1, hat, ← hc, ha, hp1, h3, sRet, frzE, frz1, kI, bindT, setE]
    · refine Took.of (y := kk [.drw, .val (.int m), .no, .no] s) ?_ (hk _ hs)
      simp [evS', sSeq, sIf, sSkip, evT, evIf, evE, evA, evB, evDr, onDrw, ev2, evB1, evCons, evNil, evC, O2.g, Bi.g, gI, gEq, dep, PyData.eqv, gLen, Dr.get, R.bind, R.ofO, h0, h1, kI]
  · refine Took.of (y := kk [.drw, .val (.int m), .no, .no] s) ?_ (hk _ hs)
    simp [evS', sSeq, sIf, sSkip, evT, evIf, evE, evA, evB, evFF, evDr, onDrw, ev2, evB1, evCons, evNil, evC, O2.g, Bi.g, gI, gEq, dep, PyData.eqv, gLen, Dr.get, R.bind, R.ofO, h0, kI]
/-- one draw -/
theorem take_ok (F : Nat → Fn) {d : DefI} {m : Int} (h1 : d.ir = irTake) (h2 : d.c.N.length = 4) (hm : 0 < m) (hb : divB m = true) {s : Dr} (hs : DrOk s) : Took m (run1 F d [.drw, .val (.int m)] s) := by
  unfold run1 startE
  rw [h1, h2]
  exact take1 F hm hs _ _ _ fun s hs => take2 F hm hb hs _ (fun k kb kc => take3 F hm hs k kb kc) _ _ _
end L2.DL

set_option Elab.async false
set_option linter.all false
set_option maxRecDepth 100000
set_option maxHeartbeats 4000000
set_option exponentiation.threshold 100000
/-! D layer 27: how the draws begin, in plain terms. -/
namespace L2.DL
open PySem PySem.Spec PyProof.Rows
variable [TabL]
def irBegin : IS := IS.seq (IS.asg (Tg.nm 1) (kI 1)) (IS.seq (IS.forS [] (IX.scI 0) (Tg.nm 2) (IS.asg (Tg.nm 1) (IX.b2 (O2.mod) (IX.b2 (O2.add) (IX.b2 (O2.add) (IX.b2 (O2.mul) (IX.pk 1) (kI 69621)) (IX.b2 (O2.mod) (IX.bi (Bi.int) (IX.cons (IX.pk 2) (IX.nil))) (kI 2147483629))) (kI 7)) (kI 2147483647)))) (IS.ret (IX.lst (IX.cons (IX.scL 0) (IX.cons (kI 0) (IX.cons (kI 0) (IX.cons (IX.var 1) (IX.nil))))))))
def seedF : List Int → Int → Int
  | [], c => c
  | n :: ns, c => seedF ns ((c * 69621 + n % 2147483629 + 7) % 2147483647)
theorem seedF_ok : ∀ (ns : List Int) {c : Int}, 0 ≤ c → c < 2147483647 → 0 ≤ seedF ns c ∧ seedF ns c < 2147483647
  | [], _, h, h2 => ⟨h, h2⟩
  | _ :: ns, _, _, _ => seedF_ok ns (Int.emod_nonneg _ (by decide)) (Int.emod_lt_of_pos _ (by decide))
theorem mulB_small {i j : Int} (h : i.natAbs < 2 ^ 1000) (h2 : j.natAbs < 2 ^ 1000) : mulB i j = true := by
  have lg : ∀ n : Nat, n < 2 ^ 1000 → n.log2 < 1000 := fun n h => by
    by_cases h0 : n = 0
    · rw [h0]; decide
    · exact (Nat.log2_lt h0).mpr h
  unfold mulB
  have := lg _ h
  have := lg _ h2
  rw [Nat.ble_eq]; omega
theorem mulB_i {i j : Int} (h : 0 ≤ i) (h2 : i < 2147483648) (h3 : 0 ≤ j) (h4 : j < 2147483648) : mulB i j = true := by
  have e : 2147483648 ≤ 2 ^ 1000 := by
    have : (2147483648 : Nat) = 2 ^ 31 := by decide
    rw [this]
    exact Nat.pow_le_pow_right (by decide) (by decide)
  exact mulB_small (Nat.lt_of_lt_of_le (by omega) e) (Nat.lt_of_lt_of_le (by omega) e)
theorem begin_for (F : Nat → Fn) (ms : List Int) (k kb kc : En → Dr → R (D × Dr)) : ∀ (ns : List Int) (c : Int) (x : Sl) (s : Dr), 0 ≤ c → c < 2147483647 → (∀ l xs, x ≠ .lst l xs) → ∃ y,
    forL (Tg.nm 2) (evS' F (IS.asg (Tg.nm 1) (IX.b2 (O2.mod) (IX.b2 (O2.add) (IX.b2 (O2.add) (IX.b2 (O2.mul) (IX.pk 1) (kI 69621)) (IX.b2 (O2.mod) (IX.bi (Bi.int) (IX.cons (IX.pk 2) (IX.nil))) (kI 2147483629))) (kI 7)) (kI 2147483647)))) [] k (ns.map .int) [.scr ms, .val (.int c), x] s = k [.scr ms, .val (.int (seedF ns c)), y] s
  | [], c, x, s, h, h2, hx => ⟨x, by simp [forL, lockE, seedF]⟩
  | n :: ns, c, x, s, h, h2, hx => by
    obtain ⟨y, e⟩ := begin_for F ms k kb kc ns ((c * 69621 + n % 2147483629 + 7) % 2147483647) (.val (.int n)) s (Int.emod_nonneg _ (by decide)) (Int.emod_lt_of_pos _ (by decide)) (fun _ _ => nofun)
    refine ⟨y, ?_⟩
    have hm : mulB c 69621 = true := mulB_i h (by omega) (by decide) (by decide)
    rw [seedF, ← e]
    have hs : bindT (.nm 2) (.int n) [Sl.scr ms, .val (.int c), x] = some [Sl.scr ms, .val (.int c), .val (.int n)] := by
      cases x with
      | lst l xs => exact (hx l xs rfl).elim
      | _ => rfl
    have hs1 : ∀ v, bindT (.nm 1) v [Sl.scr ms, .val (.int c), .val (.int n)] = some [Sl.scr ms, .val v, .val (.int n)] := fun _ => rfl
    simp [forL, evS', sAsg, evE, evA, evPk, ev2, evB1, evCons, evNil, evC, O2.g, Bi.g, gMul, gAdd, gMod, gInt, R.bind, R.ofO, hm, kI, hs, hs1]
theorem ev_for {F : Nat → Fn} {vs : List Nat} {it : IX} {t : Tg} {a b : IS} {k kb kc : Kn} {env : En} {s : Dr} : evS' F (IS.seq (IS.forS vs it t a) b) k kb kc env s = (evI F it env s).bind fun p => forL t (evS' F a) (openIn vs env) (evS' F b k kb kc) p.1 (lockE true (openIn vs env) env) p.2 := rfl
theorem R.ok_bind {α β : Type} {a : α} {f : α → R β} : (R.ok a).bind f = f a := rfl
theorem begin_ok (F : Nat → Fn) {d : DefI} (h1 : d.ir = irBegin) (h2 : d.c.N.length = 3) (ns : List Int) (hl : ns.length ≤ 64) (s : Dr) : run1 F d [.scr ns] s = .ok (.list [.list (ns.map .int), .int 0, .int 0, .int (seedF ns 1)], s) := by
  unfold run1 startE
  rw [h1, h2]
  unfold irBegin
  obtain ⟨y, e⟩ := begin_for F ns (evS' F (IS.ret (IX.lst (IX.cons (IX.scL 0) (IX.cons (kI 0) (IX.cons (kI 0) (IX.cons (IX.var 1) (IX.nil))))))) (fun _ s => .ok (.none, s)) (fun _ _ => .stuck) (fun _ _ => .stuck)) (fun _ _ => .stuck) (fun _ _ => .stuck) ns 1 .no s (by decide) (by decide) (fun _ _ => nofun)
  have hf : fitB ns.length = true := by
    unfold fitB
    rw [Nat.ble_eq]; omega
  have e2 : ∀ k kb kc, evS' F (IS.seq (IS.asg (Tg.nm 1) (kI 1)) k) (fun _ s => .ok (.none, s)) kb kc ([Sl.scr ns] ++ List.replicate (3 - [Sl.scr ns].length) .no) s = evS' F k (fun _ s => .ok (.none, s)) kb kc [Sl.scr ns, .val (.int 1), .no] s := fun k kb kc => by
    simp [evS', sSeq, sAsg, evE, evC, bindT, setE, R.bind, R.ofO, List.replicate, kI]
  rw [e2]
  rw [ev_for]
  have e3 : evI F (IX.scI 0) [Sl.scr ns, .val (.int 1), .no] s = .ok (ns.map .int, s) := by
    simp [evI, evScI, onScr, hf]
  rw [e3]
  rw [R.ok_bind]
  have e4 : lockE true (openIn [] [Sl.scr ns, .val (.int 1), .no]) [Sl.scr ns, .val (.int 1), .no] = [Sl.scr ns, .val (.int 1), .no] := by
    simp [openIn, lockE]
  have e5 : openIn [] [Sl.scr ns, .val (.int 1), .no] = [] := by simp [openIn]
  rw [e4, e5, e]
  simp [evS', sRet, evE, evA, evLst, evCons, evNil, evScL, onScr, evC, evVar, frzE, frz1, R.bind, R.ofO, kI]
  decide
end L2.DL

set_option Elab.async false
set_option linter.all false
set_option maxRecDepth 100000
set_option maxHeartbeats 4000000
/-! D layer 28: comprehensions in plain terms. -/
namespace L2.DL
open PySem PySem.Spec PyProof.Rows
variable [TabL]
/-- a comprehension that draws nothing: a filter and a map -/
theorem lc_map {t : Tg} {own : List Nat} {ft : Ev Bool} {fe : Ev D} {env : En} {s : Dr} (q : D → Bool) (f : D → D) : ∀ {xs : List D}, (∀ x ∈ xs, ∃ env2, bindT t x (wipeE env own) = some env2 ∧ ft env2 s = .ok (q x, s) ∧ (q x = true → fe env2 s = .ok (f x, s))) → lcLoop t own ft fe env xs s = .ok ((xs.filter q).map f, s)
  | [], _ => rfl
  | x :: xs, h => by
    obtain ⟨env2, h1, h2, h3⟩ := h x (List.mem_cons_self ..)
    have ih := lc_map q f (xs := xs) fun y hy => h y (List.mem_cons_of_mem _ hy)
    rw [lcLoop, h1]
    cases hq : q x with
    | false =>
      simp only [R.ofO, R.bind, h2, R.calm, hq, List.filter_cons, ih]
      rfl
    | true =>
      simp only [R.ofO, R.bind, h2, R.calm, hq, h3 hq, List.filter_cons, ih]
      rfl
/-- a comprehension of draws -/
theorem lc_draw {t : Tg} {own : List Nat} {ft : Ev Bool} {fe : Ev D} {env : En} (P : D → Prop) : ∀ {xs : List D} {s : Dr}, DrOk s → (∀ x ∈ xs, ∃ env2, bindT t x (wipeE env own) = some env2 ∧ ∀ s, DrOk s → ft env2 s = .ok (true, s) ∧ ∃ d s', fe env2 s = .ok (d, s') ∧ P d ∧ DrOk s') →
    ∃ ds s', lcLoop t own ft fe env xs s = .ok (ds, s') ∧ ds.length = xs.length ∧ (∀ d ∈ ds, P d) ∧ DrOk s'
  | [], s, hs, _ => ⟨[], s, rfl, rfl, (fun _ h => nomatch h), hs⟩
  | x :: xs, s, hs, h => by
    obtain ⟨env2, h1, h2⟩ := h x (List.mem_cons_self ..)
    obtain ⟨h3, d, s1, h4, h5, h6⟩ := h2 s hs
    obtain ⟨ds, s2, i1, i2, i3, i4⟩ := lc_draw P (xs := xs) h6 fun y hy => h y (List.mem_cons_of_mem _ hy)
    refine ⟨d :: ds, s2, ?_, by rw [List.length_cons, List.length_cons, i2], fun e he => ?_, i4⟩
    · rw [lcLoop, h1]
      simp only [R.ofO, R.bind, h3, R.calm, h4, i1, if_true]
    · rcases List.mem_cons.mp he with rfl | he
      · exact h5
      · exact i3 _ he
/-- a for that never leaves, drawing nothing: an invariant on the slots -/
theorem forL_inv {t : Tg} {f : Sf} {nl : List Nat} {k : Kn} {s : Dr} (I : List D → En → Prop) (r : R (D × Dr)) (hend : ∀ env, I [] env → k (lockE false nl env) s = r)
    (step : ∀ x xs env (kk kb : Kn), I (x :: xs) env → (∀ env', I xs env' → kk env' s = r) → ∃ env1, bindT t x env = some env1 ∧ f kk kb kk env1 s = r) : ∀ (xs : List D) (env : En), I xs env → forL t f nl k xs env s = r
  | [], env, h => by rw [forL]; exact hend env h
  | x :: xs, env, h => by
    obtain ⟨env1, h1, h2⟩ := step x xs env (forL t f nl k xs) (fun env s => k (lockE false nl env) s) h fun env' h' => forL_inv I r hend step xs env' h'
    rw [forL, h1]
    exact h2
/-- a for that leaves at the first item that says so, drawing nothing -/
theorem forL_first {t : Tg} {f : Sf} {nl : List Nat} {k : Kn} {s : Dr} (I : En → Prop) (g : D → Option (R (D × Dr))) (r : R (D × Dr)) (hend : ∀ env, I env → k (lockE false nl env) s = r) : ∀ (xs : List D)
    (step : ∀ x ∈ xs, ∀ env (kk kb : Kn), I env → ∃ env1, bindT t x env = some env1 ∧ ((∃ z, g x = some z ∧ f kk kb kk env1 s = z) ∨ (g x = none ∧ ∃ env2, I env2 ∧ f kk kb kk env1 s = kk env2 s))) (env : En), I env → forL t f nl k xs env s = (xs.findSome? g).getD r
  | [], _, env, h => by rw [forL]; exact hend env h
  | x :: xs, step, env, h => by
    obtain ⟨env1, h1, h2⟩ := step x (List.mem_cons_self ..) env (forL t f nl k xs) (fun env s => k (lockE false nl env) s) h
    rw [forL, h1, List.findSome?_cons]
    show f _ _ _ env1 s = _
    rcases h2 with ⟨z, h3, h4⟩ | ⟨h3, env2, h5, h6⟩
    · rw [h3]
      exact h4
    · rw [h3, h6]
      exact forL_first I g r hend xs (fun y hy => step y (List.mem_cons_of_mem _ hy)) env2 h5
end L2.DL

set_option Elab.async false
set_option linter.all false
set_option maxRecDepth 100000
set_option maxHeartbeats 4000000
set_option exponentiation.threshold 100000
/-! D layer 29: the plain run by rewriting. -/
namespace L2.DL
open PySem PySem.Spec PyProof.Rows
variable [TabL]

/-! ### the run goes on behind what is known -/
/-- what comes behind: an instance, so that rewriting does not go in -/
class Ct (α β : Type) where
  run : α → R β
def bnd {α β : Type} (r : R α) [f : Ct α β] : R β := r.bind f.run
/-- two ways -/
class Br (α : Type) where
  t : Unit → R α
  e : Unit → R α
def iteR {α : Type} (c : Bool) [b : Br α] : R α := if c = true then b.t () else b.e ()
@[simp] theorem iteR_t {α : Type} {c : Bool} {b : Br α} (h : c = true) : iteR c = b.t () := by
  unfold iteR
  exact if_pos h
@[simp] theorem iteR_f {α : Type} {c : Bool} {b : Br α} (h : c = false) : iteR c = b.e () := by
  unfold iteR
  exact if_neg (by rw [h]; decide)
@[simp] theorem bnd_ok {α β : Type} {a : α} {f : Ct α β} : bnd (.ok a) = f.run a := Eq.trans rfl rfl
@[simp] theorem bnd_err {α β : Type} {c : Str} {f : Ct α β} : @bnd α β (.err c) f = .err c := Eq.trans rfl rfl
@[simp] theorem bnd_stuck {α β : Type} {f : Ct α β} : @bnd α β .stuck f = .stuck := Eq.trans rfl rfl
@[simp] theorem bnd_bnd {α β γ : Type} {r : R α} {f : Ct α β} {g : Ct β γ} : @bnd β γ (@bnd α β r f) g = @bnd α γ r ⟨fun a => @bnd β γ (f.run a) g⟩ := by cases r <;> rfl
@[simp] theorem bnd_iteR {α β : Type} {c : Bool} {b : Br α} {f : Ct α β} : @bnd α β (@iteR α c b) f = @iteR β c ⟨fun _ => @bnd α β (b.t ()) f, fun _ => @bnd α β (b.e ()) f⟩ := by cases c <;> rfl
@[simp] theorem bind_is {α β : Type} {r : R α} {f : α → R β} : R.bind r f = bnd r (f := ⟨f⟩) := Eq.trans rfl rfl
@[simp] theorem R.ofO_some {α : Type} {a : α} : R.ofO (some a) = .ok a := Eq.trans rfl rfl
/-- ends well, and so -/
def Wp {α : Type} (r : R (α × Dr)) (Q : α → Dr → Prop) : Prop := ∃ a s, r = .ok (a, s) ∧ Q a s
theorem Wp.cong {α : Type} {r r' : R (α × Dr)} {Q : α → Dr → Prop} (h : r = r') : Wp r Q = Wp r' Q := by rw [h]
@[simp] theorem Wp.ok {α : Type} {a : α} {s : Dr} {Q : α → Dr → Prop} : Wp (.ok (a, s)) Q = Q a s := by
  apply propext
  constructor
  · rintro ⟨a, s, h, q⟩; cases h; exact q
  · exact fun q => ⟨_, _, rfl, q⟩
theorem Wp.eq {α : Type} {r : R (α × Dr)} {v : α} {s : Dr} (h : Wp r fun d s' => d = v ∧ s' = s) : r = .ok (v, s) := by
  obtain ⟨a, s', e, rfl, rfl⟩ := h
  exact e
theorem Wp.of {α : Type} {r r' : R (α × Dr)} {Q : α → Dr → Prop} (e : r = r') (h : Wp r' Q) : Wp r Q := e ▸ h
theorem R.bnd_ok {α β : Type} {a : α} {f : α → R β} : R.bind (.ok a) f = f a := rfl
theorem R.bind_bind {α β γ : Type} {r : R α} {f : α → R β} {g : β → R γ} : R.bind (R.bind r f) g = R.bind r fun a => R.bind (f a) g := by cases r <;> rfl
theorem Wp.ite_of {α : Type} {c : Bool} {b : Br (α × Dr)} {Q : α → Dr → Prop} (h1 : c = true → Wp (b.t ()) Q) (h2 : c = false → Wp (b.e ()) Q) : Wp (iteR c) Q := by
  cases c with
  | true => exact h1 rfl
  | false => exact h2 rfl
theorem Wp.bnd_of {α β : Type} {r : R (α × Dr)} {f : Ct (α × Dr) (β × Dr)} {Q : β → Dr → Prop} (P : α → Dr → Prop) (h : Wp r P) (h2 : ∀ a s, P a s → Wp (f.run (a, s)) Q) : Wp (bnd r) Q := by
  obtain ⟨a, s, rfl, p⟩ := h
  exact h2 a s p
theorem Wp.bind {α β : Type} {r : R (α × Dr)} {f : α × Dr → R (β × Dr)} {Q : β → Dr → Prop} (P : α → Dr → Prop) (h : Wp r P) (h2 : ∀ a s, P a s → Wp (f (a, s)) Q) : Wp (r.bind f) Q := by
  obtain ⟨a, s, rfl, p⟩ := h
  exact h2 a s p
theorem Wp.ite {α : Type} {c : Prop} [Decidable c] {a b : R (α × Dr)} {Q : α → Dr → Prop} (h1 : c → Wp a Q) (h2 : ¬c → Wp b Q) : Wp (if c then a else b) Q := by
  split
  · exact h1 ‹_›
  · exact h2 ‹_›

/-! ### slots -/
/-- a slot -/
def slot (i : Nat) (env : En) : Option Sl := env[i]?
@[simp] theorem slot_zero {x : Sl} {xs : En} : slot 0 (x :: xs) = some x := Eq.trans rfl rfl
@[simp] theorem slot_succ {i : Nat} {x : Sl} {xs : En} : slot (i + 1) (x :: xs) = slot i xs := by
  unfold slot
  rw [List.getElem?_cons_succ]
/-- no list of one's own -/
def Sl.nl : Sl → Bool
  | .lst _ _ => false
  | _ => true
@[simp] theorem Sl.nl_val {d : D} : (Sl.val d).nl = true := Eq.trans rfl rfl
@[simp] theorem Sl.nl_no : Sl.no.nl = true := Eq.trans rfl rfl
@[simp] theorem Sl.nl_drw : Sl.drw.nl = true := Eq.trans rfl rfl
def varR (o : Option Sl) (s : Dr) : R (D × Dr) := match o with
  | some (.val d) => .ok (d, s)
  | _ => .stuck
def pkR (o : Option Sl) (s : Dr) : R (D × Dr) := match o with
  | some (.val d) => .ok (d, s)
  | some (.lst _ xs) => .ok (.list xs, s)
  | _ => .stuck
@[simp] theorem varR_val {d : D} {s : Dr} : varR (some (.val d)) s = .ok (d, s) := Eq.trans rfl rfl
@[simp] theorem pkR_val {d : D} {s : Dr} : pkR (some (.val d)) s = .ok (d, s) := Eq.trans rfl rfl
@[simp] theorem pkR_lst {b : Bool} {xs : List D} {s : Dr} : pkR (some (.lst b xs)) s = .ok (.list xs, s) := Eq.trans rfl rfl
def argR (o : Option Sl) (fr : Ev (List Sl)) (env : En) (s : Dr) : R (List Sl × Dr) := match o with
  | some (.val d) => (fr env s).bind fun q => .ok (.val d :: q.1, q.2)
  | some .drw => (fr env s).bind fun q => .ok (.drw :: q.1, q.2)
  | some (.scr ns) => (fr env s).bind fun q => .ok (.scr ns :: q.1, q.2)
  | _ => .stuck
@[simp] theorem argR_val {d : D} {fr : Ev (List Sl)} {env : En} {s : Dr} : argR (some (.val d)) fr env s = bnd (fr env s) (f := ⟨fun q => .ok (.val d :: q.1, q.2)⟩) := Eq.trans rfl rfl
@[simp] theorem argR_drw {fr : Ev (List Sl)} {env : En} {s : Dr} : argR (some .drw) fr env s = bnd (fr env s) (f := ⟨fun q => .ok (.drw :: q.1, q.2)⟩) := Eq.trans rfl rfl
@[simp] theorem argR_scr {ns : List Int} {fr : Ev (List Sl)} {env : En} {s : Dr} : argR (some (.scr ns)) fr env s = bnd (fr env s) (f := ⟨fun q => .ok (.scr ns :: q.1, q.2)⟩) := Eq.trans rfl rfl
def setR (o : Option Sl) (i : Nat) (x : Sl) (env : En) : Option En := match o with
  | some (.lst true _) => none
  | some _ => some (env.set i x)
  | none => none
@[simp] theorem setR_val {d : D} {i : Nat} {x : Sl} {env : En} : setR (some (.val d)) i x env = some (env.set i x) := Eq.trans rfl rfl
@[simp] theorem setR_no {i : Nat} {x : Sl} {env : En} : setR (some .no) i x env = some (env.set i x) := Eq.trans rfl rfl
@[simp] theorem setR_lst {xs : List D} {i : Nat} {x : Sl} {env : En} : setR (some (.lst false xs)) i x env = some (env.set i x) := Eq.trans rfl rfl
@[simp] theorem setR_nl {y : Sl} {i : Nat} {x : Sl} {env : En} (h : y.nl = true) : setR (some y) i x env = some (env.set i x) := by
  cases y <;> first | rfl | cases h
@[simp] theorem setE_is {i : Nat} {x : Sl} {env : En} : setE i x env = setR (slot i env) i x env := by
  unfold setE setR
  rfl
@[simp] theorem bindT_nm {i : Nat} {d : D} {env : En} : bindT (.nm i) d env = setE i (.val d) env := by rw [bindT]
@[simp] theorem bindT_tup {ts : Tg} {ds : List D} {env : En} : bindT (.tup ts) (.tuple ds) env = bindTs ts ds env := by rw [bindT]
@[simp] theorem bindTs_nil {env : En} : bindTs .tnil [] env = some env := by rw [bindTs]
@[simp] theorem bindTs_cons {a r : Tg} {d : D} {ds : List D} {env : En} : bindTs (.tcons a r) (d :: ds) env = (bindT a d env).bind fun env' => bindTs r ds env' := by rw [bindTs]
@[simp] theorem wipeE_nil {env : En} : wipeE env [] = env := by rw [wipeE]
@[simp] theorem wipeE_cons {env : En} {v : Nat} {vs : List Nat} : wipeE env (v :: vs) = (wipeE env vs).set v .no := by rw [wipeE]
@[simp] theorem frz1_val {d : D} : frz1 (.val d) = .val d := Eq.trans rfl rfl
@[simp] theorem frz1_no : frz1 .no = .no := Eq.trans rfl rfl
@[simp] theorem frz1_drw : frz1 .drw = .drw := Eq.trans rfl rfl
@[simp] theorem frz1_scr {ns : List Int} : frz1 (.scr ns) = .scr ns := Eq.trans rfl rfl
@[simp] theorem frz1_lst {b : Bool} {xs : List D} : frz1 (.lst b xs) = .val (.list xs) := Eq.trans rfl rfl
@[simp] theorem frz1_nl {y : Sl} (h : y.nl = true) : frz1 y = y := by cases y <;> first | rfl | cases h
@[simp] theorem frzE_nil : frzE [] = [] := Eq.trans rfl rfl
@[simp] theorem frzE_cons {x : Sl} {xs : En} : frzE (x :: xs) = frz1 x :: frzE xs := Eq.trans rfl rfl
def frzR (o : Option Sl) (i : Nat) (env : En) : En := match o with
  | some (.lst false xs) => env.set i (.val (.list xs))
  | _ => env
@[simp] theorem frzR_lst {xs : List D} {i : Nat} {env : En} : frzR (some (.lst false xs)) i env = env.set i (.val (.list xs)) := Eq.trans rfl rfl
@[simp] theorem frzR_val {d : D} {i : Nat} {env : En} : frzR (some (.val d)) i env = env := Eq.trans rfl rfl
@[simp] theorem frzR_no {i : Nat} {env : En} : frzR (some .no) i env = env := Eq.trans rfl rfl
@[simp] theorem frzI_is {i : Nat} {env : En} : frzI i env = frzR (slot i env) i env := by
  unfold frzI frzR
  rfl
@[simp] theorem hide1_val {d : D} : hide1 (.val d) = .val d := Eq.trans rfl rfl
@[simp] theorem hide1_no : hide1 .no = .no := Eq.trans rfl rfl
@[simp] theorem hide1_drw : hide1 .drw = .no := Eq.trans rfl rfl
@[simp] theorem hide1_lst {b : Bool} {xs : List D} : hide1 (.lst b xs) = .lst b xs := Eq.trans rfl rfl
@[simp] theorem hideE_nil : hideE [] = [] := Eq.trans rfl rfl
@[simp] theorem hideE_cons {x : Sl} {xs : En} : hideE (x :: xs) = hide1 x :: hideE xs := Eq.trans rfl rfl
@[simp] theorem isOpen_val {d : D} : isOpen (some (.val d)) = false := Eq.trans rfl rfl
@[simp] theorem isOpen_no : isOpen (some .no) = false := Eq.trans rfl rfl
@[simp] theorem isOpen_lst {b : Bool} {xs : List D} : isOpen (some (.lst b xs)) = !b := by cases b <;> rfl
@[simp] theorem isOpen_nl {y : Sl} (h : y.nl = true) : isOpen (some y) = false := by cases y <;> first | rfl | cases h
@[simp] theorem openIn_nil {env : En} : openIn [] env = [] := Eq.trans rfl rfl
@[simp] theorem openIn_cons {i : Nat} {is : List Nat} {env : En} : openIn (i :: is) env = if isOpen (slot i env) then i :: openIn is env else openIn is env := by
  unfold openIn slot
  rw [List.filter_cons]
@[simp] theorem lockE_nil {b : Bool} {env : En} : lockE b [] env = env := Eq.trans rfl rfl
@[simp] theorem lockE_cons {b : Bool} {i : Nat} {is : List Nat} {env : En} : lockE b (i :: is) env = lockG b (i :: is) 0 env := Eq.trans rfl rfl
@[simp] theorem lockG_nil {b : Bool} {vs : List Nat} {n : Nat} : lockG b vs n [] = [] := Eq.trans rfl rfl
@[simp] theorem lockG_cons {b : Bool} {vs : List Nat} {n : Nat} {x : Sl} {xs : En} : lockG b vs n (x :: xs) = (if vs.contains n then lkS b x else x) :: lockG b vs (n + 1) xs := Eq.trans rfl rfl
@[simp] theorem lkS_lst {b c : Bool} {xs : List D} : lkS b (.lst c xs) = .lst b xs := Eq.trans rfl rfl
@[simp] theorem lkS_val {b : Bool} {d : D} : lkS b (.val d) = .val d := Eq.trans rfl rfl
@[simp] theorem lkS_no {b : Bool} : lkS b .no = .no := Eq.trans rfl rfl
def lstR (o : Option Sl) (f : List D → R (D × Dr)) : R (D × Dr) := match o with
  | some (.lst false xs) => f xs
  | _ => .stuck
@[simp] theorem lstR_lst {xs : List D} {f : List D → R (D × Dr)} : lstR (some (.lst false xs)) f = f xs := Eq.trans rfl rfl
@[simp] theorem onLst_is {i : Nat} {env : En} {f : List D → R (D × Dr)} : onLst i env f = lstR (slot i env) f := by
  unfold onLst lstR
  rfl

/-! ### expressions -/
section
variable {F : Nat → Fn} {env : En} {s : Dr} {a b c as it q e lo hi : IX}
@[simp] theorem xE_var {i : Nat} : evE F (.var i) env s = varR (slot i env) s := by rw [evE]; rfl
@[simp] theorem xE_pk {i : Nat} : evE F (.pk i) env s = pkR (slot i env) s := by rw [evE]; rfl
@[simp] theorem xE_c {d : D} : evE F (.c d) env s = .ok (d, s) := by rw [evE]; rfl
@[simp] theorem xE_b2 {g : O2} : evE F (.b2 g a b) env s = bnd (evE F a env s) (f := ⟨fun p => bnd (evE F b env p.2) (f := ⟨fun q => bnd (R.ofO (g.g p.1 q.1)) (f := ⟨fun z => .ok (z, q.2)⟩)⟩)⟩) := by rw [evE]; rfl
def chR (o : Option D) [b : Br (D × Dr)] : R (D × Dr) := match o with
  | some (.bool true) => b.t ()
  | some (.bool false) => b.e ()
  | _ => .stuck
@[simp] theorem chR_bl {k : Bool} {b : Br (D × Dr)} : chR (some (.bool k)) = iteR k := by cases k <;> rfl
@[simp] theorem xE_ch {g g' : O2} : evE F (.ch g g' a b c) env s = bnd (evE F a env s) (f := ⟨fun p => bnd (evE F b env p.2) (f := ⟨fun q => chR (g.g p.1 q.1) (b := ⟨fun _ => bnd (evE F c env q.2) (f := ⟨fun u => bnd (R.ofO (g'.g q.1 u.1)) (f := ⟨fun z => .ok (z, u.2)⟩)⟩), fun _ => .ok (.bool false, q.2)⟩)⟩)⟩) := by
  rw [evE]
  rfl
@[simp] theorem xE_andV : evE F (.andV a b) env s = bnd (evE F a env s) (f := ⟨fun p => bnd (R.ofO (gTru p.1)) (f := ⟨fun k => iteR k (b := ⟨fun _ => evE F b env p.2, fun _ => .ok p⟩)⟩)⟩) := by rw [evE]; rfl
@[simp] theorem xE_orV : evE F (.orV a b) env s = bnd (evE F a env s) (f := ⟨fun p => bnd (R.ofO (gTru p.1)) (f := ⟨fun k => iteR k (b := ⟨fun _ => .ok p, fun _ => evE F b env p.2⟩)⟩)⟩) := by rw [evE]; rfl
@[simp] theorem xE_notV : evE F (.notV a) env s = bnd (evE F a env s) (f := ⟨fun p => bnd (R.ofO (gTru p.1)) (f := ⟨fun k => .ok (.bool (!k), p.2)⟩)⟩) := by rw [evE]; rfl
@[simp] theorem xE_neg : evE F (.neg a) env s = bnd (evE F a env s) (f := ⟨fun p => bnd (R.ofO (gNeg p.1)) (f := ⟨fun z => .ok (z, p.2)⟩)⟩) := by rw [evE]; rfl
@[simp] theorem xE_ife : evE F (.ife c a b) env s = bnd (evT F c env s) (f := ⟨fun p => iteR p.1 (b := ⟨fun _ => evE F a env p.2, fun _ => evE F b env p.2⟩)⟩) := by rw [evE]; rfl
@[simp] theorem xE_ix : evE F (.ix a b) env s = bnd (evE F a env s) (f := ⟨fun p => bnd (evE F b env p.2) (f := ⟨fun q => bnd (R.ofO (gIx p.1 q.1)) (f := ⟨fun z => .ok (z, q.2)⟩)⟩)⟩) := by rw [evE]; rfl
@[simp] theorem xE_sl : evE F (.sl a lo hi) env s = bnd (evE F a env s) (f := ⟨fun p => bnd (evO F lo env p.2) (f := ⟨fun l => bnd (evO F hi env l.2) (f := ⟨fun h => bnd (R.ofO (gSl p.1 l.1 h.1)) (f := ⟨fun z => .ok (z, h.2)⟩)⟩)⟩)⟩) := by rw [evE]; rfl
@[simp] theorem xE_tup : evE F (.tup as) env s = bnd (evA F as env s) (f := ⟨fun p => if fitB p.1.length = true then .ok (.tuple p.1, p.2) else .stuck⟩) := by rw [evE]; rfl
@[simp] theorem xE_lst : evE F (.lst as) env s = bnd (evA F as env s) (f := ⟨fun p => if fitB p.1.length = true then .ok (.list p.1, p.2) else .stuck⟩) := by rw [evE]; rfl
@[simp] theorem xE_bi {f : Bi} : evE F (.bi f as) env s = bnd (evA F as env s) (f := ⟨fun p => bnd (R.ofO (f.g p.1)) (f := ⟨fun z => .ok (z, p.2)⟩)⟩) := by rw [evE]; rfl
def callR (n : Nat) (F : Fn) (p : List Sl × Dr) : R (D × Dr) := if p.1.length = n then (match drwN p.1 with
  | 0 => (F p.1 p.2).bind fun q => .ok (q.1, p.2)
  | 1 => F p.1 p.2
  | _ => .stuck) else .stuck
@[simp] theorem xE_call {f n : Nat} : evE F (.call f n as) env s = bnd (evS F as env s) (f := ⟨fun p => callR n (F f) p⟩) := by rw [evE]; rfl
@[simp] theorem xE_lc {t : Tg} {own : List Nat} : evE F (.lc it t own q e) env s = evLc (evI F it) t own (evT F q) (evE F e) env s := by rw [evE]
def lR (d : D) (s : Dr) : R (D × Dr) := match d with
  | .list xs => .ok (.list xs, s)
  | _ => .stuck
@[simp] theorem lR_list {xs : List D} : lR (.list xs) s = .ok (.list xs, s) := Eq.trans rfl rfl
@[simp] theorem xE_fl : evE F (.fl a) env s = bnd (evE F a env s) (f := ⟨fun p => lR p.1 p.2⟩) := by rw [evE]; rfl
def rgaR (ds : List D) (s : Dr) : R ((Int × Int) × Dr) := match ds with
  | [.int j] => if inR j && fitB j.toNat then .ok ((0, j), s) else .stuck
  | [.int i, .int j] => if inR i && inR j && fitB (j - i).toNat then .ok ((i, j), s) else .stuck
  | _ => .stuck
@[simp] theorem xE_listRg : evE F (.listRg as) env s = bnd (evA F as env s) (f := ⟨fun q => bnd (rgaR q.1 q.2) (f := ⟨fun p => .ok (.list (rngD p.1.1 (p.1.2 - p.1.1).toNat 1), p.2)⟩)⟩) := by
  rw [evE]
  show ((evA F as env s).bind _).bind _ = _
  rw [R.bind_bind]
  rfl
@[simp] theorem xE_tupRg : evE F (.tupRg as) env s = bnd (evA F as env s) (f := ⟨fun q => bnd (rgaR q.1 q.2) (f := ⟨fun p => .ok (.tuple (rngD p.1.1 (p.1.2 - p.1.1).toNat 1), p.2)⟩)⟩) := by
  rw [evE]
  show ((evA F as env s).bind _).bind _ = _
  rw [R.bind_bind]
  rfl
def toldR (r : R (D × Dr)) (s : Dr) : R (D × Dr) := match r with
  | .ok (d, _) => .ok (d, s)
  | .err c => .ok (.str c, s)
  | .stuck => .stuck
@[simp] theorem toldR_ok {d : D} {s' : Dr} : toldR (.ok (d, s')) s = .ok (d, s) := Eq.trans rfl rfl
@[simp] theorem toldR_err {c : Str} : toldR (.err c) s = .ok (.str c, s) := Eq.trans rfl rfl
@[simp] theorem xE_told : evE F (.told a) env s = toldR (evE F a (hideE env) s) s := by rw [evE]; rfl
@[simp] theorem xE_rev : evE F (.rev a) env s = bnd (evE F a env s) (f := ⟨fun p => bnd (R.ofO (gRev p.1)) (f := ⟨fun z => .ok (z, p.2)⟩)⟩) := by rw [evE]; rfl
def idxR (d : D) (f : List D → R (D × Dr)) : R (D × Dr) := match d with
  | .list ds => f ds
  | _ => .stuck
@[simp] theorem idxR_list {ds : List D} {f : List D → R (D × Dr)} : idxR (.list ds) f = f ds := Eq.trans rfl rfl
@[simp] theorem xE_idx {i : Nat} : evE F (.idx i a) env s = bnd (pkR (slot i env) s) (f := ⟨fun p => idxR p.1 fun ds => bnd (evE F a env p.2) (f := ⟨fun q => bnd (R.ofO (gIndex ds q.1)) (f := ⟨fun z => .ok (z, q.2)⟩)⟩)⟩) := by rw [evE]; rfl
@[simp] theorem xT_tru : evT F (.tru a) env s = bnd (evE F a env s) (f := ⟨fun p => bnd (R.ofO (gTru p.1)) (f := ⟨fun k => .ok (k, p.2)⟩)⟩) := by rw [evT]; rfl
def bR (d : D) (s : Dr) : R (Bool × Dr) := match d with
  | .bool b => .ok (b, s)
  | _ => .stuck
@[simp] theorem bR_bl {b : Bool} : bR (.bool b) s = .ok (b, s) := Eq.trans rfl rfl
@[simp] theorem xT_tev : evT F (.tev a) env s = bnd (evE F a env s) (f := ⟨fun p => bR p.1 p.2⟩) := by rw [evT]; rfl
@[simp] theorem xT_tnot : evT F (.tnot a) env s = bnd (evT F a env s) (f := ⟨fun p => .ok (!p.1, p.2)⟩) := by rw [evT]; rfl
@[simp] theorem xT_tif : evT F (.tif c a b) env s = bnd (evT F c env s) (f := ⟨fun p => iteR p.1 (b := ⟨fun _ => evT F a env p.2, fun _ => evT F b env p.2⟩)⟩) := by rw [evT]; rfl
@[simp] theorem xT_tt : evT F .tt env s = .ok (true, s) := by rw [evT]; rfl
@[simp] theorem xT_ff : evT F .ff env s = .ok (false, s) := by rw [evT]; rfl
@[simp] theorem xA_nil : evA F .nil env s = .ok ([], s) := by rw [evA]; rfl
@[simp] theorem xA_cons : evA F (.cons a as) env s = bnd (evE F a env s) (f := ⟨fun p => bnd (evA F as env p.2) (f := ⟨fun q => .ok (p.1 :: q.1, q.2)⟩)⟩) := by rw [evA]; rfl
@[simp] theorem xS_nil : evS F .nil env s = .ok ([], s) := by rw [evS]; rfl
@[simp] theorem xS_argC : evS F (.argC a as) env s = bnd (evE F a env s) (f := ⟨fun p => bnd (evS F as env p.2) (f := ⟨fun q => .ok (.val p.1 :: q.1, q.2)⟩)⟩) := by rw [evS]; rfl
@[simp] theorem xS_argV {i : Nat} : evS F (.argV i as) env s = argR (slot i env) (evS F as) env s := by rw [evS]; rfl
@[simp] theorem xI_seq : evI F (.seq a) env s = bnd (evE F a env s) (f := ⟨fun p => bnd (R.ofO (gSeq p.1)) (f := ⟨fun xs => .ok (xs, p.2)⟩)⟩) := by rw [evI]; rfl
def enR (ds : List D) (s : Dr) : R (List D × Dr) := match ds with
  | [d] => (R.ofO (gSeq d)).bind fun xs => .ok (enumD 0 xs, s)
  | _ => .stuck
@[simp] theorem enR_one {d : D} : enR [d] s = bnd (R.ofO (gSeq d)) (f := ⟨fun xs => .ok (enumD 0 xs, s)⟩) := Eq.trans rfl rfl
@[simp] theorem xI_enum : evI F (.enum as) env s = bnd (evA F as env s) (f := ⟨fun p => enR p.1 p.2⟩) := by rw [evI]; rfl
def z2R (ds : List D) (s : Dr) : R (List D × Dr) := match ds with
  | [d, e] => (R.ofO (gSeq d)).bind fun xs => (R.ofO (gSeq e)).bind fun ys => .ok (zipD2 xs ys, s)
  | _ => .stuck
@[simp] theorem z2R_two {d e : D} : z2R [d, e] s = bnd (R.ofO (gSeq d)) (f := ⟨fun xs => bnd (R.ofO (gSeq e)) (f := ⟨fun ys => .ok (zipD2 xs ys, s)⟩)⟩) := Eq.trans rfl rfl
@[simp] theorem xI_zip2 : evI F (.zip2 as) env s = bnd (evA F as env s) (f := ⟨fun p => z2R p.1 p.2⟩) := by rw [evI]; rfl
def z3R (ds : List D) (s : Dr) : R (List D × Dr) := match ds with
  | [d, e, g] => (R.ofO (gSeq d)).bind fun xs => (R.ofO (gSeq e)).bind fun ys => (R.ofO (gSeq g)).bind fun zs => .ok (zipD3 xs ys zs, s)
  | _ => .stuck
@[simp] theorem z3R_three {d e g : D} : z3R [d, e, g] s = bnd (R.ofO (gSeq d)) (f := ⟨fun xs => bnd (R.ofO (gSeq e)) (f := ⟨fun ys => bnd (R.ofO (gSeq g)) (f := ⟨fun zs => .ok (zipD3 xs ys zs, s)⟩)⟩)⟩) := Eq.trans rfl rfl
@[simp] theorem xI_zip3 : evI F (.zip3 as) env s = bnd (evA F as env s) (f := ⟨fun p => z3R p.1 p.2⟩) := by rw [evI]; rfl
def rg1R (ds : List D) (s : Dr) : R (List D × Dr) := match ds with
  | [.int j] => if inR j && fitB j.toNat then .ok (rngD 0 j.toNat 1, s) else .stuck
  | _ => .stuck
def rg2R (ds : List D) (s : Dr) : R (List D × Dr) := match ds with
  | [.int i, .int j] => if inR i && inR j && fitB (j - i).toNat then .ok (rngD i (j - i).toNat 1, s) else .stuck
  | _ => .stuck
@[simp] theorem xI_rng1 : evI F (.rng1 as) env s = bnd (evA F as env s) (f := ⟨fun p => rg1R p.1 p.2⟩) := by rw [evI]; rfl
@[simp] theorem xI_rng2 : evI F (.rng2 as) env s = bnd (evA F as env s) (f := ⟨fun p => rg2R p.1 p.2⟩) := by rw [evI]; rfl
def rg3R (ds : List D) (s : Dr) : R (List D × Dr) := match ds with
  | [.int i, .int j, .int c] => if decide (c ≠ 0) && decide (c.natAbs < 1073741824) && Builtin.Range.small i j c && decide (0 ≤ Builtin.Range.rangeSize i j c) && fitB (Builtin.Range.rangeSize i j c).toNat then .ok (rngD i (Builtin.Range.rangeSize i j c).toNat c, s) else .stuck
  | _ => .stuck
@[simp] theorem xI_rng3 : evI F (.rng3 as) env s = bnd (evA F as env s) (f := ⟨fun p => rg3R p.1 p.2⟩) := by rw [evI]; rfl
@[simp] theorem xO_none : evO F .none env s = .ok (none, s) := by rw [evO]; rfl
def oR (d : D) (s : Dr) : R (Option Int × Dr) := match d with
  | .int i => .ok (some i, s)
  | _ => .stuck
@[simp] theorem oR_int {i : Int} : oR (.int i) s = .ok (some i, s) := Eq.trans rfl rfl
@[simp] theorem xO_tru : evO F (.tru a) env s = bnd (evE F a env s) (f := ⟨fun p => oR p.1 p.2⟩) := by rw [evO]; rfl
end

/-! ### statements -/
section
variable {F : Nat → Fn} {env : En} {s : Dr} {e c it : IX} {a b : IS} {k kb kc : Kn} {t : Tg} {i j : Nat}
@[simp] theorem xS_skip : evS' F .skip k kb kc env s = k env s := Eq.trans rfl rfl
@[simp] theorem xS_brk : evS' F .brk k kb kc env s = kb env s := Eq.trans rfl rfl
@[simp] theorem xS_cnt : evS' F .cnt k kb kc env s = kc env s := Eq.trans rfl rfl
@[simp] theorem xS_retN : evS' F .retN k kb kc env s = .ok (.none, s) := Eq.trans rfl rfl
@[simp] theorem xS_ex : evS' F (.ex e) k kb kc env s = bnd (evE F e env s) (f := ⟨fun p => k env p.2⟩) := Eq.trans rfl rfl
@[simp] theorem xS_asg : evS' F (.asg t e) k kb kc env s = bnd (evE F e env s) (f := ⟨fun p => bnd (R.ofO (bindT t p.1 env)) (f := ⟨fun env' => k env' p.2⟩)⟩) := Eq.trans rfl rfl
def asgOR (d : D) (i : Nat) (env : En) (k : Kn) (s : Dr) : R (D × Dr) := match d with
  | .list xs => (R.ofO (setE i (.lst false xs) env)).bind fun env' => k env' s
  | _ => .stuck
@[simp] theorem asgOR_list {xs : List D} : asgOR (.list xs) i env k s = bnd (R.ofO (setE i (.lst false xs) env)) (f := ⟨fun env' => k env' s⟩) := Eq.trans rfl rfl
@[simp] theorem xS_asgO : evS' F (.asgO i e) k kb kc env s = bnd (evE F e env s) (f := ⟨fun p => asgOR p.1 i env k p.2⟩) := Eq.trans rfl rfl
@[simp] theorem xS_ret : evS' F (.ret e) k kb kc env s = evE F e (frzE env) s := Eq.trans rfl rfl
@[simp] theorem xS_frz : evS' F (.frz i a) k kb kc env s = evS' F a k kb kc (frzI i env) s := Eq.trans rfl rfl
@[simp] theorem xS_seqS : evS' F (.seq a b) k kb kc env s = evS' F a (evS' F b k kb kc) kb kc env s := Eq.trans rfl rfl
@[simp] theorem xS_ite : evS' F (.ite c a b) k kb kc env s = bnd (evT F c env s) (f := ⟨fun p => iteR p.1 (b := ⟨fun _ => evS' F a k kb kc env p.2, fun _ => evS' F b k kb kc env p.2⟩)⟩) := Eq.trans rfl rfl
@[simp] theorem xS_whl {n : Nat} : evS' F (.whl n c a) k kb kc env s = whileF (evT F c) (evS' F a) k n env s := Eq.trans rfl rfl
@[simp] theorem xS_for {vs : List Nat} : evS' F (.forS vs it t a) k kb kc env s = bnd (evI F it env s) (f := ⟨fun p => forL t (evS' F a) (openIn vs env) k p.1 (lockE true (openIn vs env) env) p.2⟩) := Eq.trans rfl rfl
@[simp] theorem xS_app : evS' F (.app i e) k kb kc env s = onLst i env fun xs => bnd (evE F e env s) (f := ⟨fun p => bnd (R.ofO (fApp p.1 xs)) (f := ⟨fun ys => k (env.set i (.lst false ys)) p.2⟩)⟩) := Eq.trans rfl rfl
@[simp] theorem xS_ins {e2 : IX} : evS' F (.ins i e e2) k kb kc env s = onLst i env fun xs => bnd (evE F e env s) (f := ⟨fun p => bnd (evE F e2 env p.2) (f := ⟨fun q => bnd (R.ofO (fIns p.1 q.1 xs)) (f := ⟨fun ys => k (env.set i (.lst false ys)) q.2⟩)⟩)⟩) := Eq.trans rfl rfl
@[simp] theorem xS_setIx {e2 : IX} : evS' F (.setIx i e e2) k kb kc env s = onLst i env fun xs => bnd (evE F e2 env s) (f := ⟨fun p => bnd (evE F e env p.2) (f := ⟨fun q => bnd (R.ofO (fSet q.1 p.1 xs)) (f := ⟨fun ys => k (env.set i (.lst false ys)) q.2⟩)⟩)⟩) := Eq.trans rfl rfl
def augR (g : D → D → Option D) (o : Option Sl) (i : Nat) (e : R (D × Dr)) (env : En) (k : Kn) : R (D × Dr) := match o with
  | some (.val x) => e.bind fun p => (R.ofO (g x p.1)).bind fun z => (R.ofO (setE i (.val z) env)).bind fun env' => k env' p.2
  | _ => .stuck
@[simp] theorem augR_val {g : D → D → Option D} {x : D} {e : R (D × Dr)} : augR g (some (.val x)) i e env k = bnd e (f := ⟨fun p => bnd (R.ofO (g x p.1)) (f := ⟨fun z => bnd (R.ofO (setE i (.val z) env)) (f := ⟨fun env' => k env' p.2⟩)⟩)⟩) := Eq.trans rfl rfl
@[simp] theorem xS_aug {g : O2} : evS' F (.aug g i e) k kb kc env s = augR (gInts g.g) (slot i env) i (evE F e env s) env k := by
  show sAug (gInts g.g) i (evE F e) k kb kc env s = _
  unfold sAug augR
  rfl
@[simp] theorem xS_par {e2 : IX} : evS' F (.par i j e e2) k kb kc env s = bnd (evE F e env s) (f := ⟨fun p => bnd (evE F e2 env p.2) (f := ⟨fun q => bnd (R.ofO (setE i (.val p.1) env)) (f := ⟨fun env1 => bnd (R.ofO (setE j (.val q.1) env1)) (f := ⟨fun env2 => k env2 q.2⟩)⟩)⟩)⟩) := Eq.trans rfl rfl
@[simp] theorem xS_raise {c : Str} : evS' F (.raise c) k kb kc env s = .err c := Eq.trans rfl rfl
end

/-! ### values -/
@[simp] theorem o2_add : O2.g .add = gAdd := Eq.trans rfl rfl
@[simp] theorem o2_sub : O2.g .sub = gSub := Eq.trans rfl rfl
@[simp] theorem o2_mul : O2.g .mul = gMul := Eq.trans rfl rfl
@[simp] theorem o2_pow : O2.g .pow = gPow := Eq.trans rfl rfl
@[simp] theorem o2_div : O2.g .div = gDiv := Eq.trans rfl rfl
@[simp] theorem o2_mod : O2.g .mod = gMod := Eq.trans rfl rfl
@[simp] theorem o2_xor : O2.g .xor = gXor := Eq.trans rfl rfl
@[simp] theorem o2_and : O2.g .and = gAnd := Eq.trans rfl rfl
@[simp] theorem o2_or : O2.g .or = gOr := Eq.trans rfl rfl
@[simp] theorem o2_eq : O2.g .eq = gEq := Eq.trans rfl rfl
@[simp] theorem o2_ne : O2.g .ne = gNe := Eq.trans rfl rfl
@[simp] theorem o2_lt : O2.g .lt = gI fun i j => decide (i < j) := Eq.trans rfl rfl
@[simp] theorem o2_le : O2.g .le = gI fun i j => decide (i ≤ j) := Eq.trans rfl rfl
@[simp] theorem o2_gt : O2.g .gt = gI fun i j => decide (j < i) := Eq.trans rfl rfl
@[simp] theorem o2_ge : O2.g .ge = gI fun i j => decide (j ≤ i) := Eq.trans rfl rfl
@[simp] theorem o2_in : O2.g .in_ = gIn false := Eq.trans rfl rfl
@[simp] theorem o2_nin : O2.g .nin = gIn true := Eq.trans rfl rfl
@[simp] theorem o2_is : O2.g .is = gIs false := Eq.trans rfl rfl
@[simp] theorem o2_isn : O2.g .isn = gIs true := Eq.trans rfl rfl
@[simp] theorem bi_len : Bi.g .len = gLen := Eq.trans rfl rfl
@[simp] theorem bi_any : Bi.g .any = gAny := Eq.trans rfl rfl
@[simp] theorem bi_all : Bi.g .all = gAll := Eq.trans rfl rfl
@[simp] theorem bi_sum : Bi.g .sum = gSum := Eq.trans rfl rfl
@[simp] theorem bi_max : Bi.g .max = gMax := Eq.trans rfl rfl
@[simp] theorem bi_min : Bi.g .min = gMin := Eq.trans rfl rfl
@[simp] theorem bi_abs : Bi.g .abs = gAbs := Eq.trans rfl rfl
@[simp] theorem bi_int : Bi.g .int = gInt := Eq.trans rfl rfl
@[simp] theorem bi_list : Bi.g .list = gList := Eq.trans rfl rfl
@[simp] theorem bi_tuple : Bi.g .tuple = gTuple := Eq.trans rfl rfl
@[simp] theorem gAdd_int {i j : Int} : gAdd (.int i) (.int j) = some (.int (i + j)) := Eq.trans rfl rfl
@[simp] theorem gSub_int {i j : Int} : gSub (.int i) (.int j) = some (.int (i - j)) := Eq.trans rfl rfl
@[simp] theorem gI_int {p : Int → Int → Bool} {i j : Int} : gI p (.int i) (.int j) = some (.bool (p i j)) := Eq.trans rfl rfl
@[simp] theorem gXor_int {i j : Int} : gXor (.int i) (.int j) = some (.int (Builtin.bitXor i j)) := Eq.trans rfl rfl
@[simp] theorem gNeg_int {i : Int} : gNeg (.int i) = some (.int (-i)) := Eq.trans rfl rfl
@[simp] theorem gInt_int {i : Int} : gInt [.int i] = some (.int i) := Eq.trans rfl rfl
@[simp] theorem gInts_is {g : D → D → Option D} {i j : Int} : gInts g (.int i) (.int j) = g (.int i) (.int j) := Eq.trans rfl rfl
@[simp] theorem gTru_bl {b : Bool} : gTru (.bool b) = some b := Eq.trans rfl rfl
@[simp] theorem gTru_non : gTru .none = some false := Eq.trans rfl rfl
@[simp] theorem gTru_int {i : Int} : gTru (.int i) = some (i != 0) := Eq.trans rfl rfl
@[simp] theorem gTru_list {xs : List D} : gTru (.list xs) = some (!xs.isEmpty) := Eq.trans rfl rfl
@[simp] theorem gTru_tuple {xs : List D} : gTru (.tuple xs) = some (!xs.isEmpty) := Eq.trans rfl rfl
@[simp] theorem gLen_list {xs : List D} : gLen [.list xs] = some (.int xs.length) := Eq.trans rfl rfl
@[simp] theorem gLen_tuple {xs : List D} : gLen [.tuple xs] = some (.int xs.length) := Eq.trans rfl rfl
@[simp] theorem gTuple_list {xs : List D} : gTuple [.list xs] = some (.tuple xs) := Eq.trans rfl rfl
@[simp] theorem gTuple_tuple {xs : List D} : gTuple [.tuple xs] = some (.tuple xs) := Eq.trans rfl rfl
@[simp] theorem gList_list {xs : List D} : gList [.list xs] = some (.list xs) := Eq.trans rfl rfl
@[simp] theorem gList_tuple {xs : List D} : gList [.tuple xs] = some (.list xs) := Eq.trans rfl rfl
@[simp] theorem gSeq_list {xs : List D} : gSeq (.list xs) = some xs := Eq.trans rfl rfl
@[simp] theorem gSeq_tuple {xs : List D} : gSeq (.tuple xs) = some xs := Eq.trans rfl rfl
@[simp] theorem gIs_none {neg : Bool} : gIs neg .none .none = some (.bool (!neg)) := Eq.trans rfl rfl
@[simp] theorem gIs_tup {xs : List D} {neg : Bool} : gIs neg (.tuple xs) .none = some (.bool neg) := Eq.trans rfl rfl
@[simp] theorem gIs_list {xs : List D} {neg : Bool} : gIs neg (.list xs) .none = some (.bool neg) := Eq.trans rfl rfl
@[simp] theorem gIs_int {i : Int} {neg : Bool} : gIs neg (.int i) .none = some (.bool neg) := Eq.trans rfl rfl
@[simp] theorem gIs_bl {a b neg : Bool} : gIs neg (.bool a) (.bool b) = some (.bool (if neg = true then !decide (a = b) else decide (a = b))) := Eq.trans rfl rfl
@[simp] theorem fitB_le' {n : Nat} : (fitB n = true) = (n ≤ 16777216) := by
  unfold fitB
  rw [Nat.ble_eq]
@[simp] theorem gMod_pos {i j : Int} (h : 0 < j) : gMod (.int i) (.int j) = some (.int (i % j)) := by
  show (if decide (0 < j) then _ else _) = _
  rw [decide_eq_true h]; rfl
theorem divB_small {j : Int} (h : 0 < j) (h2 : j < 1000000000000000000) : divB j = true := by
  unfold divB
  rw [decide_eq_true h, Bool.true_and, Nat.ble_eq]
  have h3 : j.natAbs < 2 ^ 60 := by omega
  by_cases h0 : j.natAbs = 0
  · rw [h0]; decide
  · have := (Nat.log2_lt h0).mpr h3
    omega
@[simp] theorem gDiv_pos {i j : Int} (h : 0 < j) (h2 : j < 1000000000000000000) : gDiv (.int i) (.int j) = some (.int (i / j)) := by
  show (if divB j then _ else _) = _
  rw [divB_small h h2]; rfl
theorem mulB_18 {i j : Int} (h : -1000000000000000000 < i) (h2 : i < 1000000000000000000) (h3 : -1000000000000000000 < j) (h4 : j < 1000000000000000000) : mulB i j = true := by
  have e : 2 ^ 60 ≤ 2 ^ 1000 := Nat.pow_le_pow_right (by decide) (by decide)
  exact mulB_small (Nat.lt_of_lt_of_le (by omega) e) (Nat.lt_of_lt_of_le (by omega) e)
@[simp] theorem gMul_small {i j : Int} (h : -1000000000000000000 < i) (h2 : i < 1000000000000000000) (h3 : -1000000000000000000 < j) (h4 : j < 1000000000000000000) : gMul (.int i) (.int j) = some (.int (i * j)) := by
  show (if mulB i j then _ else _) = _
  rw [mulB_18 h h2 h3 h4]; rfl
@[simp] theorem gEq_int {i j : Int} : gEq (.int i) (.int j) = some (.bool (decide (i = j))) := by
  show some (PyData.bool (PyData.eqv (.int i) (.int j))) = _
  rw [PyData.eqv]
  rfl
@[simp] theorem gNe_int {i j : Int} : gNe (.int i) (.int j) = some (.bool (!decide (i = j))) := by
  show some (PyData.bool (!PyData.eqv (.int i) (.int j))) = _
  rw [PyData.eqv]
  rfl
end L2.DL

set_option Elab.async false
set_option linter.all false
set_option maxRecDepth 100000
set_option maxHeartbeats 4000000
/-! D layer 30: values of plain types as data. -/
namespace L2.DL
open PySem PySem.Spec PyProof.Rows
variable [TabL]

/-- a plain value as data: tuples for lists and pairs -/
class Enc (α : Type) where
  enc : α → D
  lv : Nat
  dp : ∀ (a : α) (n : Nat), lv ≤ n → dep n (enc a) = true
  eqv : ∀ a b : α, PyData.eqv (enc a) (enc b) = true ↔ a = b
  nn : ∀ a : α, PyData.eqv (enc a) .none = false
  nn2 : ∀ a : α, PyData.eqv .none (enc a) = false
open Enc (enc)
instance : Enc Int where
  enc := .int
  lv := 0
  dp a n _ := by cases n <;> rfl
  eqv a b := by rw [PyData.eqv, beq_iff_eq]
  nn a := by rw [PyData.eqv]
  nn2 a := by rw [PyData.eqv]
instance : Enc Bool where
  enc := .bool
  lv := 0
  dp a n _ := by cases n <;> rfl
  eqv a b := by rw [PyData.eqv, beq_iff_eq]
  nn a := by rw [PyData.eqv]
  nn2 a := by rw [PyData.eqv]
theorem eqvAll_enc {α : Type} [Enc α] : ∀ xs ys : List α, PyData.eqvAll (xs.map enc) (ys.map enc) = true ↔ xs = ys
  | [], [] => by simp [PyData.eqvAll]
  | [], y :: ys => by simp [PyData.eqvAll]
  | x :: xs, [] => by simp [PyData.eqvAll]
  | x :: xs, y :: ys => by
    rw [List.map_cons, List.map_cons, PyData.eqvAll, Bool.and_eq_true, Enc.eqv, eqvAll_enc xs ys, List.cons.injEq]
instance {α : Type} [Enc α] : Enc (List α) where
  enc xs := .tuple (xs.map enc)
  lv := Enc.lv α + 1
  dp a n h := by
    cases n with
    | zero => omega
    | succ n =>
      rw [dep, List.all_eq_true]
      intro d hd
      obtain ⟨x, _, rfl⟩ := List.mem_map.mp hd
      exact Enc.dp x n (by omega)
  eqv a b := by rw [PyData.eqv]; exact eqvAll_enc a b
  nn a := by rw [PyData.eqv]
  nn2 a := by rw [PyData.eqv]
instance {α β : Type} [Enc α] [Enc β] : Enc (α × β) where
  enc p := .tuple [enc p.1, enc p.2]
  lv := max (Enc.lv α) (Enc.lv β) + 1
  dp a n h := by
    cases n with
    | zero => omega
    | succ n =>
      rw [dep, List.all_cons, List.all_cons, List.all_nil, Enc.dp a.1 n (by omega), Enc.dp a.2 n (by omega)]
      rfl
  eqv a b := by
    rw [PyData.eqv, PyData.eqvAll, PyData.eqvAll, PyData.eqvAll, Bool.and_true, Bool.and_eq_true, Enc.eqv, Enc.eqv, Prod.ext_iff]
  nn a := by rw [PyData.eqv]
  nn2 a := by rw [PyData.eqv]
/-- None or a value -/
def encO {α : Type} [Enc α] : Option α → D
  | none => .none
  | some a => enc a
@[simp] theorem encO_none {α : Type} [Enc α] : encO (none : Option α) = .none := Eq.trans rfl rfl
@[simp] theorem encO_some {α : Type} [Enc α] {a : α} : encO (some a) = enc a := Eq.trans rfl rfl
@[simp] theorem enc_int {i : Int} : enc i = .int i := Eq.trans rfl rfl
@[simp] theorem enc_bool {b : Bool} : enc b = .bool b := Eq.trans rfl rfl
theorem enc_pair {α β : Type} [Enc α] [Enc β] {p : α × β} : enc p = .tuple [enc p.1, enc p.2] := rfl
@[simp] theorem enc_mk {α β : Type} [Enc α] [Enc β] {a : α} {b : β} : enc (a, b) = .tuple [enc a, enc b] := Eq.trans rfl rfl
theorem enc_list {α : Type} [Enc α] {xs : List α} : enc xs = .tuple (xs.map enc) := rfl
section
variable {α β : Type} [Enc α] [Enc β]
theorem gTuple_enc {xs : List α} : gTuple [.list (xs.map enc)] = some (enc xs) := rfl
@[simp] theorem gTuple_encT {xs : List α} : gTuple [enc xs] = some (enc xs) := Eq.trans rfl rfl
theorem gList_encT {xs : List α} : gList [enc xs] = some (.list (xs.map enc)) := rfl
@[simp] theorem gLen_enc {xs : List α} : gLen [enc xs] = some (.int xs.length) := by
  show some (PyData.int ((xs.map enc).length : Int)) = _
  rw [List.length_map]
theorem gLen_encL {xs : List α} : gLen [.list (xs.map enc)] = some (.int xs.length) := gLen_enc
theorem gSeq_enc {xs : List α} : gSeq (enc xs) = some (xs.map enc) := rfl
@[simp] theorem bindT_pair {t : Tg} {p : α × β} {env : En} : bindT (.tup t) (enc p) env = bindTs t [enc p.1, enc p.2] env := by
  show bindT (.tup t) (.tuple [enc p.1, enc p.2]) env = _
  rw [bindT_tup]
@[simp] theorem gIs_encO {o : Option α} {neg : Bool} : gIs neg (encO o) .none = some (.bool (if o = none then !neg else neg)) := by
  cases o with
  | none => simp
  | some a =>
    have h := Enc.nn a
    simp only [encO_some, reduceCtorEq, if_false]
    cases hd : enc a with
    | none => rw [hd, PyData.eqv] at h; cases h
    | _ => rfl
@[simp] theorem gIs_enc {xs : List α} {neg : Bool} : gIs neg (enc xs) .none = some (.bool neg) := Eq.trans rfl rfl
@[simp] theorem gIs_encP {p : α × β} {neg : Bool} : gIs neg (enc p) .none = some (.bool neg) := Eq.trans rfl rfl
/-- an item by its place -/
def nth [Inhabited α] (xs : List α) (i : Int) : α := (xs[i.toNat]?).getD default
theorem atI_enc [Inhabited α] {xs : List α} {i : Int} (h : 0 ≤ i) (h2 : i < xs.length) : atI (xs.map enc) i = some (enc (nth xs i)) := by
  have h3 : i.toNat < xs.length := by omega
  unfold atI ixN nth
  simp [h, h2, h3]
@[simp] theorem gIx_enc [Inhabited α] {xs : List α} {i : Int} (h : 0 ≤ i) (h2 : i < xs.length) : gIx (enc xs) (.int i) = some (enc (nth xs i)) := atI_enc h h2
theorem gIx_encL [Inhabited α] {xs : List α} {i : Int} (h : 0 ≤ i) (h2 : i < xs.length) : gIx (.list (xs.map enc)) (.int i) = some (enc (nth xs i)) := atI_enc h h2
theorem gIx_last [Inhabited α] {xs : List α} (h : 0 < xs.length) : gIx (.list (xs.map enc)) (.int (-1)) = some (enc (nth xs (xs.length - 1 : Int))) := by
  show atI (xs.map enc) (-1) = _
  unfold atI ixN nth
  have h1 : xs.length - 1 < xs.length := by omega
  have h2 : ((-1 : Int) + xs.length).toNat = xs.length - 1 := by omega
  have h3 : ((xs.length : Int) - 1).toNat = xs.length - 1 := by omega
  have h4 : -(xs.length : Int) ≤ -1 := by omega
  simp [h1, h2, h3, h4, h]
@[simp] theorem gIx_lastT [Inhabited α] {xs : List α} (h : 0 < xs.length) : gIx (enc xs) (.int (-1)) = some (enc (nth xs (xs.length - 1 : Int))) := gIx_last h
@[simp] theorem gIx_fst {p : α × β} : gIx (enc p) (.int 0) = some (enc p.1) := Eq.trans rfl rfl
@[simp] theorem gIx_snd {p : α × β} : gIx (enc p) (.int 1) = some (enc p.2) := Eq.trans rfl rfl
@[simp] theorem gIx_t2_0 {x y : D} : gIx (.tuple [x, y]) (.int 0) = some x := Eq.trans rfl rfl
@[simp] theorem gIx_t2_1 {x y : D} : gIx (.tuple [x, y]) (.int 1) = some y := Eq.trans rfl rfl
theorem eqv_bool {a b : α} [DecidableEq α] : PyData.eqv (enc a) (enc b) = decide (a = b) := by
  by_cases h : a = b
  · rw [decide_eq_true h]; exact (Enc.eqv a b).mpr h
  · rw [decide_eq_false h]
    cases e : PyData.eqv (enc a) (enc b) with
    | false => rfl
    | true => exact (h ((Enc.eqv a b).mp e)).elim
@[simp] theorem gEq_enc [DecidableEq α] {a b : α} (h : Enc.lv α ≤ 40) : gEq (enc a) (enc b) = some (.bool (decide (a = b))) := by
  unfold gEq
  rw [Enc.dp a 40 h, Enc.dp b 40 h, eqv_bool]
  rfl
@[simp] theorem gNe_enc [DecidableEq α] {a b : α} (h : Enc.lv α ≤ 40) : gNe (enc a) (enc b) = some (.bool (!decide (a = b))) := by
  unfold gNe
  rw [Enc.dp a 40 h, Enc.dp b 40 h, eqv_bool]
  rfl
theorem eqv_encO [DecidableEq α] {a b : Option α} : PyData.eqv (encO a) (encO b) = decide (a = b) := by
  cases a with
  | none => cases b with
    | none => simp [PyData.eqv]
    | some b => simp [Enc.nn2]
  | some a => cases b with
    | none => simp [Enc.nn]
    | some b => simp [eqv_bool]
theorem dep_encO {a : Option α} (h : Enc.lv α ≤ 40) : dep 40 (encO a) = true := by
  cases a with
  | none => rfl
  | some a => exact Enc.dp a 40 h
@[simp] theorem gEq_encO [DecidableEq α] {a b : Option α} (h : Enc.lv α ≤ 40) : gEq (encO a) (encO b) = some (.bool (decide (a = b))) := by
  unfold gEq
  rw [dep_encO h, dep_encO h, eqv_encO]
  rfl
@[simp] theorem gNe_encO [DecidableEq α] {a b : Option α} (h : Enc.lv α ≤ 40) : gNe (encO a) (encO b) = some (.bool (!decide (a = b))) := by
  unfold gNe
  rw [dep_encO h, dep_encO h, eqv_encO]
  rfl
theorem dep_encL {xs : List α} (h : Enc.lv α ≤ 39) : dep 40 (.list (xs.map enc)) = true := by
  rw [dep, List.all_eq_true]
  intro d hd
  obtain ⟨x, _, rfl⟩ := List.mem_map.mp hd
  exact Enc.dp x 39 h
theorem gEq_encL [DecidableEq α] {a b : List α} (h : Enc.lv α ≤ 39) : gEq (.list (a.map enc)) (.list (b.map enc)) = some (.bool (decide (a = b))) := by
  unfold gEq
  rw [dep_encL h, dep_encL h, PyData.eqv]
  have := eqvAll_enc a b
  by_cases e : a = b
  · rw [this.mpr e, decide_eq_true e]; rfl
  · rw [decide_eq_false e]
    cases q : PyData.eqvAll (a.map enc) (b.map enc) with
    | false => rfl
    | true => exact (e (this.mp q)).elim
theorem any_eqv [DecidableEq α] {a : α} : ∀ {xs : List α}, ((xs.map enc).any fun z => PyData.eqv z (enc a)) = decide (a ∈ xs)
  | [] => rfl
  | x :: xs => by
    rw [List.map_cons, List.any_cons, eqv_bool, any_eqv (xs := xs)]
    by_cases h : x = a
    · subst h; simp
    · have h2 : a ≠ x := fun z => h z.symm
      simp [h, h2]
theorem gIn_l {d : D} {ds : List D} {neg : Bool} : gIn neg d (.list ds) = if (dep 40 d && dep 40 (.list ds)) = true then some (.bool (if neg then !(ds.any fun z => PyData.eqv z d) else ds.any fun z => PyData.eqv z d)) else none := by cases d <;> rfl
theorem gIn_t {d : D} {ds : List D} {neg : Bool} : gIn neg d (.tuple ds) = if (dep 40 d && dep 40 (.list ds)) = true then some (.bool (if neg then !(ds.any fun z => PyData.eqv z d) else ds.any fun z => PyData.eqv z d)) else none := by cases d <;> rfl
theorem gIn_encL [DecidableEq α] {a : α} {xs : List α} {neg : Bool} (h : Enc.lv α ≤ 39) : gIn neg (enc a) (.list (xs.map enc)) = some (.bool (if neg = true then !decide (a ∈ xs) else decide (a ∈ xs))) := by
  rw [gIn_l, Enc.dp a 40 (by omega), dep_encL h, any_eqv]
  cases neg <;> rfl
@[simp] theorem gIn_enc [DecidableEq α] {a : α} {xs : List α} {neg : Bool} (h : Enc.lv α ≤ 39) : gIn neg (enc a) (enc xs) = some (.bool (if neg = true then !decide (a ∈ xs) else decide (a ∈ xs))) := by
  show gIn neg (enc a) (.tuple (xs.map enc)) = _
  rw [gIn_t, Enc.dp a 40 (by omega), dep_encL h, any_eqv]
  cases neg <;> rfl
theorem gIn_int {a : Int} {xs : List Int} {neg : Bool} : gIn neg (.int a) (.list (xs.map enc)) = some (.bool (if neg = true then !decide (a ∈ xs) else decide (a ∈ xs))) := gIn_encL (α := Int) (by decide)
@[simp] theorem gIn_intT {a : Int} {xs : List Int} {neg : Bool} : gIn neg (.int a) (enc xs) = some (.bool (if neg = true then !decide (a ∈ xs) else decide (a ∈ xs))) := gIn_enc (α := Int) (by decide)
theorem fApp_enc {a : α} {xs : List α} (h : xs.length < 16777216) : fApp (enc a) (xs.map enc) = some ((xs ++ [a]).map enc) := by
  unfold fApp
  rw [if_pos (by rw [List.length_map, fitB_le']; omega), List.map_append]
  rfl
theorem fApp_int {a : Int} {xs : List Int} (h : xs.length < 16777216) : fApp (.int a) (xs.map enc) = some ((xs ++ [a]).map enc) := fApp_enc h
theorem fApp_pair {a : α} {b : β} {xs : List (α × β)} (h : xs.length < 16777216) : fApp (.tuple [enc a, enc b]) (xs.map enc) = some ((xs ++ [(a, b)]).map enc) := fApp_enc (a := (a, b)) h
@[simp] theorem gAdd_enc {xs ys : List α} (h : xs.length + ys.length ≤ 16777216) : gAdd (enc xs) (enc ys) = some (enc (xs ++ ys)) := by
  show (if fitB ((xs.map enc).length + (ys.map enc).length) then _ else _) = _
  rw [if_pos (by rw [List.length_map, List.length_map, fitB_le']; exact h), ← List.map_append]
  rfl
theorem gAdd_encL {xs ys : List α} (h : xs.length + ys.length ≤ 16777216) : gAdd (.list (xs.map enc)) (.list (ys.map enc)) = some (.list ((xs ++ ys).map enc)) := by
  show (if fitB ((xs.map enc).length + (ys.map enc).length) then _ else _) = _
  rw [if_pos (by rw [List.length_map, List.length_map, fitB_le']; exact h), ← List.map_append]
theorem cut_enc {xs : List α} {lo hi : Option Int} : cutD (xs.map enc) lo hi = ((xs.drop (HT.sIx xs.length 0 lo)).take (HT.sIx xs.length xs.length hi - HT.sIx xs.length 0 lo)).map enc := by
  unfold cutD
  rw [List.length_map, List.map_take, List.map_drop]
@[simp] theorem gRev_enc {xs : List α} : gRev (enc xs) = some (enc xs.reverse) := by
  show some (PyData.tuple (xs.map enc).reverse) = _
  rw [← List.map_reverse]
  rfl
@[simp] theorem gRev_pair {x y : D} : gRev (.tuple [x, y]) = some (.tuple [y, x]) := Eq.trans rfl rfl
end
theorem asI_enc : ∀ {xs : List Int}, asI (xs.map enc) = some xs
  | [] => rfl
  | x :: xs => by
    show (asI (xs.map enc)).map _ = _
    rw [asI_enc]; rfl
theorem asT_enc : ∀ {xs : List Bool}, asT (xs.map enc) = some xs
  | [] => rfl
  | x :: xs => by
    show (asT (xs.map enc)).map _ = _
    rw [asT_enc]; rfl
theorem gAll_enc {xs : List Bool} : gAll [.list (xs.map enc)] = some (.bool (xs.all id)) := by
  show (asT _).map _ = _
  rw [asT_enc]; rfl
theorem gAny_enc {xs : List Bool} : gAny [.list (xs.map enc)] = some (.bool (xs.any id)) := by
  show (asT _).map _ = _
  rw [asT_enc]; rfl
theorem gSum_enc {xs : List Int} : gSum [.list (xs.map enc)] = some (.int xs.sum) := by
  show (asI _).map _ = _
  rw [asI_enc]; rfl
@[simp] theorem gSum_encT {xs : List Int} : gSum [enc xs] = some (.int xs.sum) := gSum_enc
/-- the greatest item -/
def topL : List Int → Int
  | [] => 0
  | n :: r => topI n r
def lowL : List Int → Int
  | [] => 0
  | n :: r => lowI n r
theorem gMax_enc {xs : List Int} (h : 0 < xs.length) : gMax [.list (xs.map enc)] = some (.int (topL xs)) := by
  cases xs with
  | nil => exact absurd h (by decide)
  | cons n r =>
    show (asI ((n :: r).map enc)).bind _ = _
    rw [asI_enc]; rfl
theorem gMin_enc {xs : List Int} (h : 0 < xs.length) : gMin [.list (xs.map enc)] = some (.int (lowL xs)) := by
  cases xs with
  | nil => exact absurd h (by decide)
  | cons n r =>
    show (asI ((n :: r).map enc)).bind _ = _
    rw [asI_enc]; rfl
@[simp] theorem gMax_two {i j : Int} : gMax [.int i, .int j] = some (.int (if j > i then j else i)) := Eq.trans rfl rfl
@[simp] theorem gMin_two {i j : Int} : gMin [.int i, .int j] = some (.int (if j < i then j else i)) := Eq.trans rfl rfl

/-! ### ranges -/
def irange (a b : Int) : List Int := (List.range (b - a).toNat).map fun k => a + (k : Nat)
@[simp] theorem mem_irange {a b x : Int} : x ∈ irange a b ↔ a ≤ x ∧ x < b := by
  unfold irange
  rw [List.mem_map]
  constructor
  · rintro ⟨k, hk, rfl⟩
    have := List.mem_range.mp hk
    omega
  · intro h
    exact ⟨(x - a).toNat, List.mem_range.mpr (by omega), by omega⟩
@[simp] theorem irange_len {a b : Int} : (irange a b).length = (b - a).toNat := by
  unfold irange
  rw [List.length_map, List.length_range]
theorem rngD_irange {a : Int} {n : Nat} : rngD a n 1 = (irange a (a + n)).map enc := by
  unfold rngD irange
  rw [show (a + (n : Int) - a).toNat = n by omega, List.map_map]
  apply List.map_congr_left
  intro k _
  show PyData.int _ = PyData.int _
  rw [Int.mul_one]
theorem inR_18 {i : Int} (h : -1000000000000000000 ≤ i) (h2 : i ≤ 1000000000000000000) : inR i = true := by
  unfold inR
  have e : (2 : Int) ^ 62 = 4611686018427387904 := by decide +kernel
  rw [e, Bool.and_eq_true, decide_eq_true_eq, decide_eq_true_eq]
  omega
theorem rg1R_ok {j : Int} {s : Dr} (h : -16777216 ≤ j) (h2 : j ≤ 16777216) : rg1R [.int j] s = .ok ((irange 0 j).map enc, s) := by
  show (if (inR j && fitB j.toNat) = true then R.ok (rngD 0 j.toNat 1, s) else .stuck) = _
  rw [inR_18 (by omega) (by omega), if_pos (by rw [Bool.true_and, fitB_le']; omega), rngD_irange]
  unfold irange
  rw [show (0 + (j.toNat : Int) - 0).toNat = (j - 0).toNat by omega]
theorem rg2R_ok {i j : Int} {s : Dr} (h : -16777216 ≤ i) (h2 : i ≤ 8000000) (h3 : -16777216 ≤ j) (h4 : j ≤ 8000000) (h5 : j - i ≤ 16777216) : rg2R [.int i, .int j] s = .ok ((irange i j).map enc, s) := by
  show (if (inR i && inR j && fitB (j - i).toNat) = true then R.ok (rngD i (j - i).toNat 1, s) else .stuck) = _
  rw [inR_18 (by omega) (by omega), inR_18 (by omega) (by omega), if_pos (by rw [Bool.true_and, Bool.true_and, fitB_le']; omega), rngD_irange]
  unfold irange
  rw [show (i + ((j - i).toNat : Int) - i).toNat = (j - i).toNat by omega]
/-- each with its place -/
def enumL {α : Type} : Int → List α → List (Int × α)
  | _, [] => []
  | k, x :: xs => (k, x) :: enumL (k + 1) xs
theorem enumD_enc {α : Type} [Enc α] : ∀ {k : Nat} {xs : List α}, enumD k (xs.map enc) = (enumL (k : Int) xs).map enc
  | _, [] => rfl
  | k, x :: xs => by
    rw [List.map_cons, enumD, enumD_enc, enumL, List.map_cons]
    rfl
theorem enumD_enc0 {α : Type} [Enc α] {xs : List α} : enumD 0 (xs.map enc) = (enumL 0 xs).map enc := enumD_enc (k := 0)
theorem mem_enumL {α : Type} [Inhabited α] : ∀ {xs : List α} {k : Int} {p : Int × α}, p ∈ enumL k xs ↔ k ≤ p.1 ∧ p.1 < k + xs.length ∧ p.2 = nth xs (p.1 - k)
  | [], k, p => by
    simp only [enumL, List.length_nil]
    constructor
    · intro h; cases h
    · intro h; omega
  | x :: xs, k, (i, y) => by
    rw [enumL, List.mem_cons, mem_enumL, List.length_cons]
    constructor
    · rintro (h | h)
      · cases h
        refine ⟨Int.le_refl _, by omega, ?_⟩
        show x = nth (x :: xs) (k - k)
        rw [Int.sub_self]; rfl
      · obtain ⟨h1, h2, h3⟩ := h
        refine ⟨by omega, by omega, ?_⟩
        show y = _
        have h3 : y = _ := h3
        rw [h3]
        unfold nth
        have h1 : k + 1 ≤ i := h1
        rw [show (i - k).toNat = (i - (k + 1)).toNat + 1 by omega, List.getElem?_cons_succ]
    · rintro ⟨h1, h2, h3⟩
      have h1 : k ≤ i := h1
      have h2 : i < k + (xs.length + 1 : Nat) := h2
      have h3 : y = nth (x :: xs) (i - k) := h3
      by_cases h : i = k
      · subst h
        left
        rw [h3, Int.sub_self]; rfl
      · right
        refine ⟨by show k + 1 ≤ i; omega, by show i < _; omega, ?_⟩
        show y = _
        rw [h3]
        unfold nth
        rw [show (i - k).toNat = (i - (k + 1)).toNat + 1 by omega, List.getElem?_cons_succ]
theorem zipD2_enc {α β : Type} [Enc α] [Enc β] {xs : List α} {ys : List β} : zipD2 (xs.map enc) (ys.map enc) = (List.zip xs ys).map enc := by
  unfold zipD2
  rw [List.zipWith_map, List.zip, List.map_zipWith]
  rfl
theorem nth_map {α β : Type} [Inhabited α] [Inhabited β] {f : α → β} {xs : List α} {i : Int} (h : 0 ≤ i) (h2 : i < xs.length) : nth (xs.map f) i = f (nth xs i) := by
  have : i.toNat < xs.length := by omega
  unfold nth
  simp [this]
theorem nth_irange {a b i : Int} (h : 0 ≤ i) (h2 : i < b - a) : nth (irange a b) i = a + i := by
  have : i.toNat < (List.range (b - a).toNat).length := by rw [List.length_range]; omega
  unfold nth irange
  simp only [List.getElem?_map, List.getElem?_eq_getElem this, List.getElem_range, Option.map_some, Option.getD_some]
  omega
theorem nth_mem {α : Type} [Inhabited α] {xs : List α} {i : Int} (h : 0 ≤ i) (h2 : i < xs.length) : nth xs i ∈ xs := by
  have : i.toNat < xs.length := by omega
  unfold nth
  rw [List.getElem?_eq_getElem this]
  exact List.getElem_mem this
theorem mem_nth {α : Type} [Inhabited α] {xs : List α} {x : α} (h : x ∈ xs) : ∃ i : Int, 0 ≤ i ∧ i < xs.length ∧ x = nth xs i := by
  obtain ⟨i, hi, e⟩ := List.mem_iff_getElem.mp h
  refine ⟨i, by omega, by omega, ?_⟩
  unfold nth
  rw [Int.toNat_natCast, List.getElem?_eq_getElem hi]
  exact e.symm
theorem list_nth {α : Type} [Inhabited α] {xs : List α} : (irange 0 xs.length).map (nth xs) = xs := by
  apply List.ext_getElem?
  intro n
  unfold irange nth
  simp only [Int.sub_zero, Int.toNat_natCast, List.map_map, List.getElem?_map]
  by_cases h : n < xs.length
  · rw [List.getElem?_eq_getElem h, List.getElem?_eq_getElem (by rw [List.length_range]; exact h), List.getElem_range]
    simp [h]
  · have h2 : xs.length ≤ n := by omega
    simp [h2]
theorem ext_nth {α : Type} [Inhabited α] {xs ys : List α} (h : xs.length = ys.length) (h2 : ∀ i : Int, 0 ≤ i → i < xs.length → nth xs i = nth ys i) : xs = ys := by
  rw [← list_nth (xs := xs), ← list_nth (xs := ys), h]
  apply List.map_congr_left
  intro i hi
  obtain ⟨a, b⟩ := mem_irange.mp hi
  exact h2 i a (by omega)
theorem enumL_map {α : Type} [Inhabited α] {xs : List α} : enumL 0 xs = (irange 0 xs.length).map fun i => (i, nth xs i) := by
  have key : ∀ (xs : List α) (k : Int), enumL k xs = (irange 0 xs.length).map fun i => (k + i, nth xs i) := by
    intro xs
    induction xs with
    | nil => intro k; rfl
    | cons x xs ih =>
      intro k
      rw [enumL, ih]
      unfold irange nth
      simp only [Int.sub_zero, Int.toNat_natCast, List.length_cons, List.map_map, List.range_succ_eq_map, List.map_cons]
      congr 1
      · simp
      · apply List.map_congr_left
        intro i _
        simp only [Function.comp]
        rw [show ((0 : Int) + (i.succ : Nat)).toNat = i + 1 by omega, show ((0 : Int) + (i : Nat)).toNat = i by omega, List.getElem?_cons_succ]
        congr 1
        omega
  rw [key]
  simp

/-! ### values in a row, folded -/
def encs {α : Type} [Enc α] (xs : List α) : List D := xs.map enc
theorem encs_nil {α : Type} [Enc α] : encs ([] : List α) = [] := rfl
theorem encs_cons {α : Type} [Enc α] {x : α} {xs : List α} : encs (x :: xs) = enc x :: encs xs := rfl
@[simp] theorem encs_len {α : Type} [Enc α] {xs : List α} : (encs xs).length = xs.length := by
  unfold encs
  rw [List.length_map]
@[simp] theorem encs_emp {α : Type} [Enc α] {xs : List α} : (encs xs).isEmpty = xs.isEmpty := by cases xs <;> rfl
@[simp] theorem tup_encs {α : Type} [Enc α] {xs : List α} : PyData.tuple (encs xs) = enc xs := Eq.trans rfl rfl
@[simp] theorem gTru_enc {α : Type} [Enc α] {xs : List α} : gTru (enc xs) = some (!xs.isEmpty) := by cases xs <;> rfl
@[simp] theorem gTuple_enc_s {α : Type} [Enc α] {xs : List α} : gTuple [.list (encs xs)] = some (enc xs) := gTuple_enc 
@[simp] theorem gList_encT_s {α : Type} [Enc α] {xs : List α} : gList [enc xs] = some (.list (encs xs)) := gList_encT 
@[simp] theorem gLen_encL_s {α : Type} [Enc α] {xs : List α} : gLen [.list (encs xs)] = some (.int xs.length) := gLen_encL 
@[simp] theorem gSeq_enc_s {α : Type} [Enc α] {xs : List α} : gSeq (enc xs) = some (encs xs) := gSeq_enc 
@[simp] theorem gIx_encL_s {α : Type} [Enc α] [Inhabited α] {xs : List α} {i : Int} (h : 0 ≤ i) (h2 : i < xs.length) : gIx (.list (encs xs)) (.int i) = some (enc (nth xs i)) := gIx_encL h h2
@[simp] theorem gIx_last_s {α : Type} [Enc α] [Inhabited α] {xs : List α} (h : 0 < xs.length) : gIx (.list (encs xs)) (.int (-1)) = some (enc (nth xs (xs.length - 1 : Int))) := gIx_last h
@[simp] theorem gEq_encL_s {α : Type} [Enc α] [DecidableEq α] {a b : List α} (h : Enc.lv α ≤ 39) : gEq (.list (encs a)) (.list (encs b)) = some (.bool (decide (a = b))) := gEq_encL h
@[simp] theorem gIn_encL_s {α : Type} [Enc α] [DecidableEq α] {a : α} {xs : List α} {neg : Bool} (h : Enc.lv α ≤ 39) : gIn neg (enc a) (.list (encs xs)) = some (.bool (if neg = true then !decide (a ∈ xs) else decide (a ∈ xs))) := gIn_encL h
@[simp] theorem gIn_int_s {a : Int} {xs : List Int} {neg : Bool} : gIn neg (.int a) (.list (encs xs)) = some (.bool (if neg = true then !decide (a ∈ xs) else decide (a ∈ xs))) := gIn_int
@[simp] theorem fApp_enc_s {α : Type} [Enc α] {a : α} {xs : List α} (h : xs.length < 16777216) : fApp (enc a) (encs xs) = some (encs (xs ++ [a])) := fApp_enc h
@[simp] theorem fApp_int_s {a : Int} {xs : List Int} (h : xs.length < 16777216) : fApp (.int a) (encs xs) = some (encs (xs ++ [a])) := fApp_int h
@[simp] theorem fApp_pair_s {α β : Type} [Enc α] [Enc β] {a : α} {b : β} {xs : List (α × β)} (h : xs.length < 16777216) : fApp (.tuple [enc a, enc b]) (encs xs) = some (encs (xs ++ [(a, b)])) := fApp_pair h
@[simp] theorem gAdd_encL_s {α : Type} [Enc α] {xs ys : List α} (h : xs.length + ys.length ≤ 16777216) : gAdd (.list (encs xs)) (.list (encs ys)) = some (.list (encs (xs ++ ys))) := gAdd_encL h
@[simp] theorem asI_enc_s : ∀ {xs : List Int}, asI (encs xs) = some xs := asI_enc 
@[simp] theorem asT_enc_s : ∀ {xs : List Bool}, asT (encs xs) = some xs := asT_enc 
@[simp] theorem gAll_enc_s {xs : List Bool} : gAll [.list (encs xs)] = some (.bool (xs.all id)) := gAll_enc 
@[simp] theorem gAny_enc_s {xs : List Bool} : gAny [.list (encs xs)] = some (.bool (xs.any id)) := gAny_enc 
@[simp] theorem gSum_enc_s {xs : List Int} : gSum [.list (encs xs)] = some (.int xs.sum) := gSum_enc 
@[simp] theorem gMax_enc_s {xs : List Int} (h : 0 < xs.length) : gMax [.list (encs xs)] = some (.int (topL xs)) := gMax_enc h
@[simp] theorem gMin_enc_s {xs : List Int} (h : 0 < xs.length) : gMin [.list (encs xs)] = some (.int (lowL xs)) := gMin_enc h
@[simp] theorem rg1R_ok_s {j : Int} {s : Dr} (h : -16777216 ≤ j) (h2 : j ≤ 16777216) : rg1R [.int j] s = .ok (encs (irange 0 j), s) := rg1R_ok h h2
@[simp] theorem rg2R_ok_s {i j : Int} {s : Dr} (h : -16777216 ≤ i) (h2 : i ≤ 8000000) (h3 : -16777216 ≤ j) (h4 : j ≤ 8000000) (h5 : j - i ≤ 16777216) : rg2R [.int i, .int j] s = .ok (encs (irange i j), s) := rg2R_ok h h2 h3 h4 h5
@[simp] theorem enumD_enc0_s {α : Type} [Enc α] {xs : List α} : enumD 0 (encs xs) = encs (enumL 0 xs) := enumD_enc0
@[simp] theorem zipD2_enc_s {α β : Type} [Enc α] [Enc β] {xs : List α} {ys : List β} : zipD2 (encs xs) (encs ys) = encs (List.zip xs ys) := zipD2_enc
@[simp] theorem gIn_2 {a b c : Int} {neg : Bool} : gIn neg (.int a) (.tuple [.int b, .int c]) = some (.bool (if neg = true then !decide (a = b ∨ a = c) else decide (a = b ∨ a = c))) := by
  have := gIn_intT (a := a) (xs := [b, c]) (neg := neg)
  simp only [List.mem_cons, List.not_mem_nil, or_false] at this
  exact this
@[simp] theorem gIn_3 {a b c d : Int} {neg : Bool} : gIn neg (.int a) (.tuple [.int b, .int c, .int d]) = some (.bool (if neg = true then !decide (a = b ∨ a = c ∨ a = d) else decide (a = b ∨ a = c ∨ a = d))) := by
  have := gIn_intT (a := a) (xs := [b, c, d]) (neg := neg)
  simp only [List.mem_cons, List.not_mem_nil, or_false] at this
  exact this
@[simp] theorem gIn_4 {a b c d e : Int} {neg : Bool} : gIn neg (.int a) (.tuple [.int b, .int c, .int d, .int e]) = some (.bool (if neg = true then !decide (a = b ∨ a = c ∨ a = d ∨ a = e) else decide (a = b ∨ a = c ∨ a = d ∨ a = e))) := by
  have := gIn_intT (a := a) (xs := [b, c, d, e]) (neg := neg)
  simp only [List.mem_cons, List.not_mem_nil, or_false] at this
  exact this
/-! ### comprehensions, loops -/
section
variable {α β : Type} [Enc α] [Enc β] {t : Tg} {own : List Nat} {fi : Ev (List D)} {ft : Ev Bool} {fe : Ev D} {env : En} {s s1 : Dr}
theorem Wp.ofO_bnd {α β : Type} {o : Option α} {f : Ct α (β × Dr)} {Q : β → Dr → Prop} (h : Wp (@bnd _ _ (R.ofO o) f) Q) : ∃ a, o = some a ∧ Wp (f.run a) Q := by
  cases o with
  | none => obtain ⟨_, _, h, _⟩ := h; cases h
  | some a => exact ⟨a, rfl, h⟩
theorem Wp.bnd_inv {α β : Type} {r : R (α × Dr)} {f : Ct (α × Dr) (β × Dr)} {Q : β → Dr → Prop} (h : Wp (@bnd _ _ r f) Q) : ∃ a s, r = .ok (a, s) ∧ Wp (f.run (a, s)) Q := by
  cases r with
  | ok p => exact ⟨p.1, p.2, rfl, h⟩
  | err c => obtain ⟨_, _, h, _⟩ := h; cases h
  | stuck => obtain ⟨_, _, h, _⟩ := h; cases h
/-- a comprehension that draws nothing -/
theorem lc_enc {γ : Type} {K : Ct (D × Dr) (γ × Dr)} {Q : γ → Dr → Prop} (items : List α) (q : α → Bool) (f : α → β) (hi : fi env s = .ok (encs items, s1)) (hb : ∀ x ∈ items, Wp (bnd (R.ofO (bindT t (enc x) (wipeE env own))) (f := ⟨fun env2 => bnd (ft env2 s1) (f := ⟨fun p => .ok ((env2, p.1), p.2)⟩)⟩)) fun r s' => r.2 = q x ∧ s' = s1 ∧ (q x = true → Wp (fe r.1 s1) fun d s' => d = enc (f x) ∧ s' = s1)) (h : Wp (K.run (.list (encs ((items.filter q).map f)), s1)) Q) : Wp (@bnd _ _ (evLc fi t own ft fe env s) K) Q := by
  refine Wp.of ?_ h
  have e : evLc fi t own ft fe env s = .ok (.list (encs ((items.filter q).map f)), s1) := by
    unfold evLc
    rw [hi, R.bnd_ok]
    unfold encs
    have key : ∀ items : List α, (∀ x ∈ items, Wp (bnd (R.ofO (bindT t (enc x) (wipeE env own))) (f := ⟨fun env2 => bnd (ft env2 s1) (f := ⟨fun p => .ok ((env2, p.1), p.2)⟩)⟩)) fun r s' => r.2 = q x ∧ s' = s1 ∧ (q x = true → Wp (fe r.1 s1) fun d s' => d = enc (f x) ∧ s' = s1)) → lcLoop t own ft fe env (items.map enc) s1 = .ok (((items.filter q).map f).map enc, s1) := by
      intro items
      induction items with
      | nil => intro _; rfl
      | cons x xs ih =>
        intro hb
        obtain ⟨env2, h1, h2⟩ := Wp.ofO_bnd (hb x (List.mem_cons_self ..))
        obtain ⟨b, s2, h2, h3⟩ := Wp.bnd_inv h2
        obtain ⟨r, s3, h4, h5, h6, h7⟩ := h3
        cases h4
        subst h6
        have h5 : b = q x := h5
        subst h5
        have ih := ih fun y hy => hb y (List.mem_cons_of_mem _ hy)
        rw [List.map_cons, lcLoop, h1]
        cases hq : q x with
        | false =>
          simp only [R.ofO, R.bind, h2, R.calm, hq, List.filter_cons, ih]
          rfl
        | true =>
          simp only [R.ofO, R.bind, h2, R.calm, hq, Wp.eq (h7 hq), List.filter_cons, ih]
          rfl
    show (lcLoop t own ft fe env (items.map enc) s1).bind _ = _
    rw [key items hb]
    rfl
  rw [e]
  rfl
/-- .. that filters nothing -/
theorem lc_all {γ : Type} {K : Ct (D × Dr) (γ × Dr)} {Q : γ → Dr → Prop} (items : List α) (f : α → β) (hi : fi env s = .ok (encs items, s1)) (hb : ∀ x ∈ items, Wp (bnd (R.ofO (bindT t (enc x) (wipeE env own))) (f := ⟨fun env2 => bnd (ft env2 s1) (f := ⟨fun p => .ok ((env2, p.1), p.2)⟩)⟩)) fun r s' => r.2 = true ∧ s' = s1 ∧ Wp (fe r.1 s1) fun d s' => d = enc (f x) ∧ s' = s1) (h : Wp (K.run (.list (encs (items.map f)), s1)) Q) : Wp (@bnd _ _ (evLc fi t own ft fe env s) K) Q := by
  refine lc_enc items (fun _ => true) f hi (fun x hx => ?_) ?_
  · obtain ⟨r, s', h1, h2, h3, h4⟩ := hb x hx
    exact ⟨r, s', h1, h2, h3, fun _ => h4⟩
  · rw [List.filter_eq_self.mpr fun _ _ => rfl]
    exact h
/-- a comprehension of draws -/
theorem lc_draws {γ : Type} {K : Ct (D × Dr) (γ × Dr)} {Q : γ → Dr → Prop} (items : List α) (P : β → Prop) (hs : DrOk s1) (hi : fi env s = .ok (encs items, s1)) (hb : ∀ x ∈ items, ∀ s, DrOk s → Wp (bnd (R.ofO (bindT t (enc x) (wipeE env own))) (f := ⟨fun env2 => bnd (ft env2 s) (f := ⟨fun p => .ok ((env2, p.1), p.2)⟩)⟩)) fun r s' => r.2 = true ∧ s' = s ∧ Wp (fe r.1 s) fun d s' => ∃ y : β, d = enc y ∧ P y ∧ DrOk s')
    (h : ∀ (ys : List β) s', ys.length = items.length → (∀ y ∈ ys, P y) → DrOk s' → Wp (K.run (.list (encs ys), s')) Q) : Wp (@bnd _ _ (evLc fi t own ft fe env s) K) Q := by
  have key : ∀ (items : List α) (s1 : Dr), DrOk s1 → (∀ x ∈ items, ∀ s, DrOk s → Wp (bnd (R.ofO (bindT t (enc x) (wipeE env own))) (f := ⟨fun env2 => bnd (ft env2 s) (f := ⟨fun p => .ok ((env2, p.1), p.2)⟩)⟩)) fun r s' => r.2 = true ∧ s' = s ∧ Wp (fe r.1 s) fun d s' => ∃ y : β, d = enc y ∧ P y ∧ DrOk s') →
      ∃ (ys : List β) (s' : Dr), lcLoop t own ft fe env (items.map enc) s1 = .ok (ys.map enc, s') ∧ ys.length = items.length ∧ (∀ y ∈ ys, P y) ∧ DrOk s' := by
    intro items
    induction items with
    | nil => exact fun s1 hs _ => ⟨[], s1, rfl, rfl, (fun _ h => nomatch h), hs⟩
    | cons x xs ih =>
      intro s1 hs hb
      obtain ⟨env2, h1, h2⟩ := Wp.ofO_bnd (hb x (List.mem_cons_self ..) s1 hs)
      obtain ⟨b, s2, h2, h3⟩ := Wp.bnd_inv h2
      obtain ⟨r, s3, h4, h5, h6, h7⟩ := h3
      cases h4
      subst h6
      have h5 : b = true := h5
      subst h5
      obtain ⟨d, s4, h8, y, rfl, h9, h10⟩ := h7
      obtain ⟨ys, s5, i1, i2, i3, i4⟩ := ih s4 h10 fun y hy => hb y (List.mem_cons_of_mem _ hy)
      have h8 : fe env2 s2 = .ok (enc y, s4) := h8
      refine ⟨y :: ys, s5, ?_, by rw [List.length_cons, List.length_cons, i2], fun e he => ?_, i4⟩
      · rw [List.map_cons, lcLoop, h1]
        simp only [R.ofO, R.bind, h2, R.calm, h8, i1, if_true]
        rfl
      · rcases List.mem_cons.mp he with rfl | he
        · exact h9
        · exact i3 _ he
  obtain ⟨ys, s', e1, e2, e3, e4⟩ := key items s1 hs hb
  refine Wp.of ?_ (h ys s' e2 e3 e4)
  unfold evLc
  rw [hi, R.bnd_ok]
  show ((lcLoop t own ft fe env (items.map enc) s1).bind _).bind K.run = _
  rw [e1]
  rfl
/-- a for by an invariant over what is behind and what is ahead -/
theorem for_inv {γ : Type} [Enc γ] {f : Sf} {nl : List Nat} {k : Kn} {Q : D → Dr → Prop} {items : List γ} (I : List γ → List γ → En → Dr → Prop) (h0 : I [] items env s)
    (step : ∀ pre x post env s (kk kb : Kn), items = pre ++ x :: post → I pre (x :: post) env s → (∀ env' s', I (pre ++ [x]) post env' s' → Wp (kk env' s') Q) → (∀ env' s', kb env' s' = k (lockE false nl env') s') → Wp (bnd (R.ofO (bindT t (enc x) env)) (f := ⟨fun env1 => f kk kb kk env1 s⟩)) Q)
    (hend : ∀ env s, I items [] env s → Wp (k (lockE false nl env) s) Q) : Wp (forL t f nl k (encs items) env s) Q := by
  have key : ∀ (post pre : List γ) (env : En) (s : Dr), items = pre ++ post → I pre post env s → Wp (forL t f nl k (post.map enc) env s) Q := by
    intro post
    induction post with
    | nil =>
      intro pre env s e h
      rw [List.append_nil] at e
      subst e
      exact hend env s h
    | cons x post ih =>
      intro pre env s e h
      rw [List.map_cons, forL]
      exact step pre x post env s (forL t f nl k (post.map enc)) (fun env s => k (lockE false nl env) s) e h (fun env' s' h' => ih (pre ++ [x]) env' s' (by rw [e, List.append_assoc]; rfl) h') (fun _ _ => rfl)
  exact key items [] env s rfl h0
end
/-- a while by an invariant and a number that falls -/
theorem while_inv {fc : Ev Bool} {f : Sf} {k : Kn} {env : En} {s : Dr} {Q : D → Dr → Prop} {N : Nat} (I : Nat → En → Dr → Prop) {n0 : Nat} (h0 : I n0 env s) (hN : n0 < N)
    (step : ∀ n env s (kk : Kn), I n env s → (∀ m env' s', m < n → I m env' s' → Wp (kk env' s') Q) → Wp (bnd (fc env s) (f := ⟨fun p => iteR p.1 (b := ⟨fun _ => f kk k kk env p.2, fun _ => k env p.2⟩)⟩)) Q) : Wp (whileF fc f k N env s) Q := by
  have key : ∀ (N n : Nat) (env : En) (s : Dr), n < N → I n env s → Wp (whileF fc f k N env s) Q := by
    intro N
    induction N with
    | zero => intro n env s h; omega
    | succ N ih =>
      intro n env s h hi
      rw [whileF]
      exact step n env s (whileF fc f k N) hi fun m env' s' hm h' => ih m env' s' (by omega) h'
  exact key N n0 env s hN h0
/-! ### draws -/
theorem Took.wp {m : Int} {r : R (D × Dr)} (h : Took m r) : Wp r fun d s' => ∃ t : Int, d = .int t ∧ 0 ≤ t ∧ t < m ∧ DrOk s' := by
  obtain ⟨t, s', e, h1, h2, h3⟩ := h
  exact ⟨_, s', e, t, rfl, h1, h2, h3⟩
/-- one draw, and on -/
theorem wp_took {γ : Type} {m : Int} {r : R (D × Dr)} {K : Ct (D × Dr) (γ × Dr)} {Q : γ → Dr → Prop} (h : Took m r) (h2 : ∀ (t : Int) s', 0 ≤ t → t < m → DrOk s' → Wp (K.run (.int t, s')) Q) : Wp (@bnd _ _ r K) Q := by
  obtain ⟨t, s', rfl, a, b, c⟩ := h
  exact h2 t s' a b c
@[simp] theorem callR_drw1 {F : Fn} {x : D} {s : Dr} : callR 2 F ([.drw, .val x], s) = F [.drw, .val x] s := Eq.trans rfl rfl
@[simp] theorem callR_0 {F : Fn} {s : Dr} : callR 0 F ([], s) = bnd (F [] s) (f := ⟨fun q => .ok (q.1, s)⟩) := Eq.trans rfl rfl
@[simp] theorem callR_1 {F : Fn} {a : D} {s : Dr} : callR 1 F ([.val a], s) = bnd (F [.val a] s) (f := ⟨fun q => .ok (q.1, s)⟩) := Eq.trans rfl rfl
@[simp] theorem callR_2 {F : Fn} {a b : D} {s : Dr} : callR 2 F ([.val a, .val b], s) = bnd (F [.val a, .val b] s) (f := ⟨fun q => .ok (q.1, s)⟩) := Eq.trans rfl rfl
@[simp] theorem callR_3 {F : Fn} {a b c : D} {s : Dr} : callR 3 F ([.val a, .val b, .val c], s) = bnd (F [.val a, .val b, .val c] s) (f := ⟨fun q => .ok (q.1, s)⟩) := Eq.trans rfl rfl
@[simp] theorem callR_4 {F : Fn} {a b c d : D} {s : Dr} : callR 4 F ([.val a, .val b, .val c, .val d], s) = bnd (F [.val a, .val b, .val c, .val d] s) (f := ⟨fun q => .ok (q.1, s)⟩) := Eq.trans rfl rfl
@[simp] theorem callR_5 {F : Fn} {a b c d e : D} {s : Dr} : callR 5 F ([.val a, .val b, .val c, .val d, .val e], s) = bnd (F [.val a, .val b, .val c, .val d, .val e] s) (f := ⟨fun q => .ok (q.1, s)⟩) := Eq.trans rfl rfl
@[simp] theorem callR_drw2 {F : Fn} {a b : D} {s : Dr} : callR 3 F ([.drw, .val a, .val b], s) = F [.drw, .val a, .val b] s := Eq.trans rfl rfl
@[simp] theorem callR_drw3 {F : Fn} {a b c : D} {s : Dr} : callR 4 F ([.drw, .val a, .val b, .val c], s) = F [.drw, .val a, .val b, .val c] s := Eq.trans rfl rfl
@[simp] theorem callR_drw4 {F : Fn} {a b c d : D} {s : Dr} : callR 5 F ([.drw, .val a, .val b, .val c, .val d], s) = F [.drw, .val a, .val b, .val c, .val d] s := Eq.trans rfl rfl
@[simp] theorem callR_drw0 {F : Fn} {s : Dr} : callR 1 F ([.drw], s) = F [.drw] s := Eq.trans rfl rfl
end L2.DL

set_option Elab.async false
set_option linter.all false
set_option maxRecDepth 100000
set_option maxHeartbeats 4000000
/-! D layer 31: more of plain values. -/
namespace L2.DL
open PySem PySem.Spec PyProof.Rows
open Enc (enc)
variable [TabL]
/-- three together -/
structure T3 (α β γ : Type) where
  a : α
  b : β
  c : γ
  deriving DecidableEq
instance {α β γ : Type} [Enc α] [Enc β] [Enc γ] : Enc (T3 α β γ) where
  enc p := .tuple [enc p.a, enc p.b, enc p.c]
  lv := max (Enc.lv α) (max (Enc.lv β) (Enc.lv γ)) + 1
  dp a n h := by
    cases n with
    | zero => omega
    | succ n =>
      rw [dep, List.all_cons, List.all_cons, List.all_cons, List.all_nil, Enc.dp a.a n (by omega), Enc.dp a.b n (by omega), Enc.dp a.c n (by omega)]
      rfl
  eqv a b := by
    rw [PyData.eqv, PyData.eqvAll, PyData.eqvAll, PyData.eqvAll, PyData.eqvAll, Bool.and_true, Bool.and_eq_true, Bool.and_eq_true, Enc.eqv, Enc.eqv, Enc.eqv]
    cases a; cases b
    simp
  nn a := by rw [PyData.eqv]
  nn2 a := by rw [PyData.eqv]
section
variable {α β γ : Type} [Enc α] [Enc β] [Enc γ]
@[simp] theorem enc_t3 {a : α} {b : β} {c : γ} : enc (T3.mk a b c) = .tuple [enc a, enc b, enc c] := Eq.trans rfl rfl
@[simp] theorem bindT_t3 {t : Tg} {p : T3 α β γ} {env : En} : bindT (.tup t) (enc p) env = bindTs t [enc p.a, enc p.b, enc p.c] env := by
  show bindT (.tup t) (.tuple [enc p.a, enc p.b, enc p.c]) env = _
  rw [bindT_tup]
def zip3L (xs : List α) (ys : List β) (zs : List γ) : List (T3 α β γ) := List.zipWith (fun x p => ⟨x, p.1, p.2⟩) xs (List.zip ys zs)
@[simp] theorem zipD3_enc {xs : List α} {ys : List β} {zs : List γ} : zipD3 (encs xs) (encs ys) (encs zs) = encs (zip3L xs ys zs) := by
  unfold zipD3 encs zip3L
  rw [List.zip, List.zipWith_map, List.zipWith_map_left, List.map_zipWith, List.zip]
  rw [← List.map_uncurry_zip_eq_zipWith, ← List.map_uncurry_zip_eq_zipWith, ← List.map_uncurry_zip_eq_zipWith]
  rw [← List.map_uncurry_zip_eq_zipWith]
  rw [List.zip_map_right, List.zip_map_right, List.map_map, List.map_map]
  rfl
@[simp] theorem gLen_pair {p : α × β} : gLen [enc p] = some (.int 2) := Eq.trans rfl rfl
@[simp] theorem gLen_t2 {x y : D} : gLen [.tuple [x, y]] = some (.int 2) := Eq.trans rfl rfl
@[simp] theorem gSeq_pair {p : α × α} : gSeq (enc p) = some (encs [p.1, p.2]) := Eq.trans rfl rfl
@[simp] theorem all_true {xs : List α} : (xs.all fun _ => true) = true := by
  rw [List.all_eq_true]; exact fun _ _ => rfl
@[simp] theorem any_false {xs : List α} : (xs.any fun _ => false) = false := by
  rw [List.any_eq_false]; exact fun _ _ h => nomatch h
@[simp] theorem gSl_last {xs : List α} : gSl (enc xs) none (some (-1)) = some (enc xs.dropLast) := by
  show some (PyData.tuple (cutD (xs.map enc) none (some (-1)))) = _
  rw [cut_enc]
  have e : HT.sIx xs.length xs.length (some (-1)) = xs.length - 1 := by
    show (if (-1 : Int) < 0 then ((-1 : Int) + (xs.length : Int)).toNat else min (-1 : Int).toNat xs.length) = _
    rw [if_pos (by decide)]
    omega
  rw [e, HT.sIx_none, List.drop_zero, Nat.sub_zero, ← List.dropLast_eq_take]
  rfl
@[simp] theorem gSl_lastL {xs : List α} : gSl (.list (encs xs)) none (some (-1)) = some (.list (encs xs.dropLast)) := by
  have h := gSl_last (xs := xs)
  have e : gSl (.list (encs xs)) none (some (-1)) = some (.list (cutD (encs xs) none (some (-1)))) := rfl
  have e2 : gSl (enc xs) none (some (-1)) = some (.tuple (cutD (encs xs) none (some (-1)))) := rfl
  rw [e2] at h
  have h3 : PyData.tuple (cutD (encs xs) none (some (-1))) = PyData.tuple (encs xs.dropLast) := Option.some.inj h
  rw [e, PyData.tuple.inj h3]
end
/-- one of two -/
def pick {α : Type} (p : α × α) (b : Int) : α := if b = 0 then p.1 else p.2
theorem gIx_pick {α : Type} [Enc α] {p : α × α} {b : Int} (h : b = 0 ∨ b = 1) : gIx (enc p) (.int b) = some (enc (pick p b)) := by
  rcases h with rfl | rfl <;> rfl
@[simp] theorem gMul_one {xs : List D} : gMul (.tuple xs) (.int 1) = some (.tuple xs) := Eq.trans rfl rfl
theorem gMul_rep {α : Type} [Enc α] {xs : List α} {k : Int} (h : 0 < xs.length) (h1 : 1 ≤ k) (h2 : k ≤ 1000) (h3 : xs.length ≤ 1000) : gMul (enc xs) (.int k) = some (enc (List.replicate k.toNat xs).flatten) := by
  show (if decide (k = 1) = true then some (PyData.tuple (xs.map enc)) else if (!(xs.map enc).isEmpty && decide (2 ≤ k) && decide (k ≤ 1000) && Nat.ble (xs.map enc).length 1000) = true then some (.tuple (List.replicate k.toNat (xs.map enc)).flatten) else none) = _
  by_cases e : k = 1
  · subst e
    rw [if_pos (by decide)]
    show _ = some (enc ([xs].flatten))
    rw [List.flatten_cons, List.flatten_nil, List.append_nil]
    rfl
  · rw [if_neg (by rw [decide_eq_true_eq]; exact e)]
    have e1 : (xs.map enc).isEmpty = false := by
      cases xs with
      | nil => cases h
      | cons => rfl
    rw [e1, decide_eq_true (show 2 ≤ k by omega), decide_eq_true h2, List.length_map, if_pos (by rw [Bool.not_false, Bool.true_and, Bool.true_and, Bool.true_and, Nat.ble_eq]; exact h3)]
    show some (PyData.tuple _) = some (PyData.tuple _)
    congr 2
    rw [List.map_flatten, List.map_replicate]
@[simp] theorem forL_nil {t : Tg} {f : Sf} {nl : List Nat} {k : Kn} {env : En} {s : Dr} : forL t f nl k [] env s = k (lockE false nl env) s := Eq.trans rfl rfl
theorem forL_cons {t : Tg} {f : Sf} {nl : List Nat} {k : Kn} {x : D} {xs : List D} {env : En} {s : Dr} : forL t f nl k (x :: xs) env s = bnd (R.ofO (bindT t x env)) (f := ⟨fun env' => f (forL t f nl k xs) (fun env s => k (lockE false nl env) s) (forL t f nl k xs) env' s⟩) := Eq.trans rfl rfl
theorem irange_cons {a b : Int} (h : a < b) : irange a b = a :: irange (a + 1) b := by
  unfold irange
  rw [show (b - a).toNat = (b - (a + 1)).toNat + 1 by omega, List.range_succ_eq_map, List.map_cons, List.map_map]
  congr 1
  · simp
  · apply List.map_congr_left
    intro k _
    show a + ((k + 1 : Nat) : Int) = a + 1 + (k : Int)
    omega
theorem irange_split {a b c : Int} (h : a ≤ b) (h2 : b ≤ c) : irange a c = irange a b ++ irange b c := by
  unfold irange
  rw [show (c - a).toNat = (b - a).toNat + (c - b).toNat by omega, List.range_add, List.map_append, List.map_map]
  congr 1
  apply List.map_congr_left
  intro k _
  show a + (((b - a).toNat + k : Nat) : Int) = b + k
  omega
theorem irange_nil {a b : Int} (h : b ≤ a) : irange a b = [] := by
  unfold irange
  rw [show (b - a).toNat = 0 by omega]
  rfl
theorem irange_snoc {a b : Int} (h : a ≤ b) : irange a (b + 1) = irange a b ++ [b] := by
  unfold irange
  rw [show (b + 1 - a).toNat = (b - a).toNat + 1 by omega, List.range_succ, List.map_append]
  congr 1
  show [a + ((b - a).toNat : Int)] = [b]
  congr 1
  omega
/-- the split of a range, its item -/
theorem irange_at {a b x : Int} {pre post : List Int} (h : irange a b = pre ++ x :: post) : x = a + pre.length ∧ a ≤ x ∧ x < b ∧ (pre.length : Int) + post.length + 1 = b - a := by
  have hl : (irange a b).length = pre.length + (post.length + 1) := by rw [h, List.length_append, List.length_cons]
  rw [irange_len] at hl
  have hx : x = a + pre.length := by
    have e : (irange a b)[pre.length]? = some x := by rw [h]; simp
    unfold irange at e
    rw [List.getElem?_map] at e
    have hlt : pre.length < (List.range (b - a).toNat).length := by rw [List.length_range]; omega
    rw [List.getElem?_eq_getElem hlt, List.getElem_range] at e
    exact (Option.some.inj e).symm
  refine ⟨hx, by omega, by omega, by omega⟩
theorem nth_append_l {α : Type} [Inhabited α] {xs ys : List α} {i : Int} (h : i.toNat < xs.length) : nth (xs ++ ys) i = nth xs i := by
  unfold nth
  rw [List.getElem?_append_left h]
theorem nth_last {α : Type} [Inhabited α] {xs : List α} {x : α} {i : Int} (h : i = xs.length) : nth (xs ++ [x]) i = x := by
  subst h
  unfold nth
  simp
theorem nth_split {α : Type} [Inhabited α] {xs ys : List α} {x : α} {i : Int} (h : i = xs.length) : nth (xs ++ x :: ys) i = x := by
  subst h
  unfold nth
  simp
theorem enumL_at {α : Type} [Inhabited α] {xs : List α} {p : Int × α} {pre post : List (Int × α)} (h : enumL 0 xs = pre ++ p :: post) : p.1 = pre.length ∧ p.1 < xs.length ∧ p.2 = nth xs p.1 ∧ (pre.length : Int) + post.length + 1 = xs.length := by
  rw [enumL_map] at h
  have hl : (irange 0 xs.length).length = pre.length + (post.length + 1) := by
    have := congrArg List.length h
    rw [List.length_map, List.length_append, List.length_cons] at this
    exact this
  rw [irange_len] at hl
  have e : ((irange 0 xs.length).map fun i => (i, nth xs i))[pre.length]? = some p := by rw [h]; simp
  unfold irange at e
  rw [List.map_map, List.getElem?_map] at e
  have hlt : pre.length < (List.range ((xs.length : Int) - 0).toNat).length := by rw [List.length_range]; omega
  rw [List.getElem?_eq_getElem hlt, List.getElem_range] at e
  have e := Option.some.inj e
  subst e
  refine ⟨?_, ?_, ?_, by omega⟩
  · show (0 : Int) + (pre.length : Int) = _; omega
  · show (0 : Int) + (pre.length : Int) < _; omega
  · rfl
theorem zip_nth {α β : Type} [Inhabited α] [Inhabited β] {xs : List α} {ys : List β} (h : xs.length = ys.length) : List.zip xs ys = (irange 0 xs.length).map fun i => (nth xs i, nth ys i) := by
  apply ext_nth
  · rw [List.length_zip, List.length_map, irange_len]; omega
  · intro i h0 h1
    rw [List.length_zip] at h1
    rw [nth_map h0 (by rw [irange_len]; omega), nth_irange h0 (by omega)]
    have a : i.toNat < xs.length := by omega
    have b : i.toNat < ys.length := by omega
    unfold nth
    rw [List.getElem?_eq_getElem (by rw [List.length_zip]; omega), List.getElem_zip, Int.zero_add, List.getElem?_eq_getElem a, List.getElem?_eq_getElem b]
    rfl
theorem zip3_nth {α β γ : Type} [Inhabited α] [Inhabited β] [Inhabited γ] {xs : List α} {ys : List β} {zs : List γ} (h : xs.length = ys.length) (h2 : xs.length = zs.length) : zip3L xs ys zs = (irange 0 xs.length).map fun i => ⟨nth xs i, nth ys i, nth zs i⟩ := by
  unfold zip3L
  rw [zip_nth (by omega : ys.length = zs.length)]
  conv => lhs; arg 2; rw [← list_nth (xs := xs)]
  rw [← h, List.zipWith_map, List.zipWith_self]
@[simp] theorem gNe_bl {a b : Bool} : gNe (.bool a) (.bool b) = some (.bool (!decide (a = b))) := gNe_enc (α := Bool) (Nat.zero_le _)
@[simp] theorem gEq_bl {a b : Bool} : gEq (.bool a) (.bool b) = some (.bool (decide (a = b))) := gEq_enc (α := Bool) (Nat.zero_le _)
@[simp] theorem gNe_non : gNe .none .none = some (.bool false) := gNe_encO (α := Int) (a := none) (b := none) (Nat.zero_le _)
@[simp] theorem gEq_non : gEq .none .none = some (.bool true) := gEq_encO (α := Int) (a := none) (b := none) (Nat.zero_le _)
@[simp] theorem fApp_ii {a b : Int} {xs : List (Int × Int)} (h : xs.length < 16777216) : fApp (.tuple [.int a, .int b]) (encs xs) = some (encs (xs ++ [(a, b)])) := fApp_enc (a := (a, b)) h
@[simp] theorem gEq_ii {a b c d : Int} : gEq (.tuple [.int a, .int b]) (.tuple [.int c, .int d]) = some (.bool (decide ((a, b) = (c, d)))) := gEq_enc (a := (a, b)) (b := (c, d)) (Nat.le_of_ble_eq_true rfl)
@[simp] theorem gNe_ii {a b c d : Int} : gNe (.tuple [.int a, .int b]) (.tuple [.int c, .int d]) = some (.bool (!decide ((a, b) = (c, d)))) := gNe_enc (a := (a, b)) (b := (c, d)) (Nat.le_of_ble_eq_true rfl)
@[simp] theorem gIn_ii {a b : Int} {xs : List (Int × Int)} {neg : Bool} : gIn neg (.tuple [.int a, .int b]) (.list (encs xs)) = some (.bool (if neg = true then !decide ((a, b) ∈ xs) else decide ((a, b) ∈ xs))) := by
  refine (gIn_encL (a := (a, b)) (xs := xs) (neg := neg) (Nat.le_of_ble_eq_true rfl)).trans ?_
  cases neg <;> simp
theorem shaped_encs {xs : List Int} : SeqAt.shaped (.list (encs xs)) = true := by
  unfold encs
  induction xs with
  | nil => rfl
  | cons x xs ih => exact ih
theorem gIndex_int {xs : List Int} {a : Int} (h : a ∈ xs) : gIndex (encs xs) (.int a) = some (.int (xs.idxOf a : Int)) := by
  unfold gIndex
  rw [shaped_encs]
  have : ∀ xs : List Int, a ∈ xs → (encs xs).findIdx? (fun z => PyData.eqv z (.int a)) = some (xs.idxOf a) := by
    intro xs
    induction xs with
    | nil => intro h; cases h
    | cons x xs ih =>
      intro h
      rw [encs_cons, List.findIdx?_cons]
      have e : PyData.eqv (enc x) (.int a) = decide (x = a) := eqv_bool (a := x) (b := a)
      rw [e, List.idxOf_cons]
      by_cases hx : x = a
      · subst hx; simp
      · have : a ∈ xs := by
          rcases List.mem_cons.mp h with h | h
          · exact absurd h.symm hx
          · exact h
        rw [ih this, decide_eq_false hx]
        have : (x == a) = false := beq_eq_false_iff_ne.mpr hx
        rw [this]
        simp
  rw [this xs h]
  rfl
theorem length_flatMap_le {α β : Type} {f : α → List β} {c : Nat} : ∀ {l : List α}, (∀ x ∈ l, (f x).length ≤ c) → (l.flatMap f).length ≤ l.length * c
  | [], _ => Nat.zero_le _
  | x :: l, h => by
    rw [List.flatMap_cons, List.length_append, List.length_cons, Nat.succ_mul]
    have := h x (List.mem_cons_self ..)
    have := length_flatMap_le (f := f) (c := c) (l := l) fun y hy => h y (List.mem_cons_of_mem _ hy)
    omega
/-- once or not at all -/
def once {α : Type} (a : Int) (p : α) : List α := if a = 0 then [] else [p]
theorem once_len {α : Type} {a : Int} {p : α} : (once a p).length ≤ 1 := by
  unfold once
  split
  · exact Nat.zero_le _
  · exact Nat.le_refl _
theorem mem_once {α : Type} {a : Int} {p x : α} (h : x ∈ once a p) : x = p := by
  unfold once at h
  split at h
  · cases h
  · exact List.mem_singleton.mp h
theorem gMul_once {α β : Type} [Enc α] [Enc β] {x : α} {y : β} {a : Int} (h : a = 0 ∨ a = 1) : gMul (.list [.tuple [enc x, enc y]]) (.int a) = some (.list (encs (once a (x, y)))) := by
  rcases h with rfl | rfl
  · show (if (decide (-(2 ^ 63) ≤ (0 : Int)) && decide ((0 : Int) < 2 ^ 63) && fitB (1 * (0 : Int).toNat)) = true then some (PyData.list (List.replicate (0 : Int).toNat [PyData.tuple [enc x, enc y]]).flatten) else none) = _
    rw [if_pos (by decide +kernel)]
    rfl
  · show (if (decide (-(2 ^ 63) ≤ (1 : Int)) && decide ((1 : Int) < 2 ^ 63) && fitB (1 * (1 : Int).toNat)) = true then some (PyData.list (List.replicate (1 : Int).toNat [PyData.tuple [enc x, enc y]]).flatten) else none) = _
    rw [if_pos (by decide +kernel)]
    rfl
theorem _root_.L2.DL.Took.draw {m : Int} {r : R (D × Dr)} (h : Took m r) : Wp r fun d s' => ∃ y : Int, d = .int y ∧ (0 ≤ y ∧ y < m) ∧ DrOk s' := by
  obtain ⟨t, s', e, h1, h2, h3⟩ := h
  exact ⟨_, s', e, t, rfl, ⟨h1, h2⟩, h3⟩
theorem head_nth {α : Type} [Inhabited α] {xs : List α} (h : 0 < xs.length) : xs.head? = some (nth xs 0) := by
  cases xs with
  | nil => cases h
  | cons x xs => rfl
theorem dropLast_snoc {α : Type} {xs : List α} {x : α} : (xs ++ [x]).dropLast = xs := by simp
end L2.DL

set_option Elab.async false
set_option linter.all false
set_option maxRecDepth 100000
set_option maxHeartbeats 4000000
/-! D layer 32: rules for what came later. -/
namespace L2.DL
open PySem PySem.Spec PyProof.Rows
open Enc (enc)
variable [TabL]
def intR (d : D) : R Int := match d with
  | .int n => .ok n
  | _ => .stuck
@[simp] theorem intR_int {n : Int} : intR (.int n) = .ok n := Eq.trans rfl rfl
def itR (xs : List D) (n : Int) : R D := if decide (0 ≤ n) && decide (n < 2 ^ 63) then R.ofO xs[n.toNat]? else .stuck
section
variable {F : Nat → Fn} {env : En} {s : Dr} {e a : IX} {k kb kc : Kn} {i j : Nat}
@[simp] theorem xS_augIx {g : O2} : evS' F (.augIx g i a e) k kb kc env s = onLst i env fun xs => bnd (evE F a env s) (f := ⟨fun p => bnd (intR p.1) (f := ⟨fun n => bnd (itR xs n) (f := ⟨fun old => bnd (evE F e env p.2) (f := ⟨fun q => bnd (R.ofO (gInts g.g old q.1)) (f := ⟨fun z => bnd (R.ofO (fSet (.int n) z xs)) (f := ⟨fun ys => k (env.set i (.lst false ys)) q.2⟩)⟩)⟩)⟩)⟩)⟩) := by
  show sAugIx (gInts g.g) i (evE F a) (evE F e) k kb kc env s = _
  unfold sAugIx
  congr 1
  funext xs
  show R.bind _ _ = R.bind _ _
  congr 1
  funext p
  obtain ⟨d, s1⟩ := p
  cases d with
  | int n =>
    have e2 : ∀ f : D → R (D × Dr), (if (decide (0 ≤ n) && decide (n < 2 ^ 63)) = true then R.bind (R.ofO xs[n.toNat]?) f else R.stuck) = R.bind (itR xs n) f := fun f => by
      unfold itR
      split <;> rfl
    exact e2 _
  | _ => rfl
@[simp] theorem xS_appPop : evS' F (.appPop i j e) k kb kc env s = onLst i env fun xs => onLst j env fun ys => if i = j then .stuck else bnd (evE F e env s) (f := ⟨fun p => bnd (R.ofO (popD ys p.1)) (f := ⟨fun q => bnd (R.ofO (fApp q.1 xs)) (f := ⟨fun zs => k ((env.set j (.lst false q.2)).set i (.lst false zs)) p.2⟩)⟩)⟩) := by
  show sAppPop i j (evE F e) k kb kc env s = _
  rfl
@[simp] theorem xS_ext : evS' F (.ext i e) k kb kc env s = onLst i env fun xs => bnd (evE F e env s) (f := ⟨fun p => bnd (R.ofO (fExt p.1 xs)) (f := ⟨fun ys => k (env.set i (.lst false ys)) p.2⟩)⟩) := by
  show sMeth1 fExt i (evE F e) k kb kc env s = _
  rfl
end
section
variable {α : Type} [Enc α]
@[simp] theorem itR_encs [Inhabited α] {xs : List α} {n : Int} (h0 : 0 ≤ n) (h1 : n < xs.length) (h2 : xs.length ≤ 16777216) : itR (encs xs) n = .ok (enc (nth xs n)) := by
  unfold itR
  have e : (2 : Int) ^ 63 = 9223372036854775808 := by decide +kernel
  have h3 : n.toNat < xs.length := by omega
  rw [e, decide_eq_true h0, decide_eq_true (by omega)]
  unfold encs nth
  simp [h3]
/-- a list with an item put -/
def setN (xs : List α) (n : Int) (x : α) : List α := xs.set n.toNat x
@[simp] theorem setN_len {xs : List α} {n : Int} {x : α} : (setN xs n x).length = xs.length := List.length_set
theorem fSet_enc {xs : List α} {n : Int} {x : α} (h0 : 0 ≤ n) (h1 : n < xs.length) : fSet (.int n) (enc x) (encs xs) = some (encs (setN xs n x)) := by
  show (ixN (encs xs).length n).map (fun j => (encs xs).set j (enc x)) = _
  unfold ixN
  rw [encs_len, if_pos h0, if_pos h1]
  show some ((xs.map enc).set n.toNat (enc x)) = some ((xs.set n.toNat x).map enc)
  rw [List.map_set]
@[simp] theorem fSet_int {xs : List Int} {n x : Int} (h0 : 0 ≤ n) (h1 : n < xs.length) : fSet (.int n) (.int x) (encs xs) = some (encs (setN xs n x)) := fSet_enc h0 h1
theorem erase_map {β γ : Type} {f : β → γ} : ∀ {xs : List β} {k : Nat}, (xs.map f).eraseIdx k = (xs.eraseIdx k).map f
  | [], _ => rfl
  | _ :: _, 0 => rfl
  | x :: xs, k + 1 => by
    show f x :: (xs.map f).eraseIdx k = f x :: (xs.eraseIdx k).map f
    rw [erase_map]
@[simp] theorem popD_enc [Inhabited α] {ys : List α} {n : Int} (h0 : 0 ≤ n) (h1 : n < ys.length) (h2 : ys.length ≤ 16777216) : popD (encs ys) (.int n) = some (enc (nth ys n), encs (ys.eraseIdx n.toNat)) := by
  have e : (2 : Int) ^ 63 = 9223372036854775808 := by decide +kernel
  have h3 : n.toNat < ys.length := by omega
  show (ixN (encs ys).length n).bind (fun q => if decide (-(2 ^ 63) ≤ n) && decide (n < 2 ^ 63) then ((encs ys)[q]?).map fun d => (d, (encs ys).eraseIdx q) else none) = _
  unfold ixN
  rw [encs_len, if_pos h0, if_pos h1, Option.bind_some, e, decide_eq_true (show -9223372036854775808 ≤ n by omega), decide_eq_true (show n < 9223372036854775808 by omega)]
  unfold encs nth
  rw [if_pos (by rfl), List.getElem?_map, List.getElem?_eq_getElem h3, erase_map]
  rfl
@[simp] theorem fExt_encs {xs ys : List α} (h : xs.length + ys.length ≤ 16777216) : fExt (.list (encs ys)) (encs xs) = some (encs (xs ++ ys)) := by
  show (if fitB ((encs xs).length + (encs ys).length) = true then some (encs xs ++ encs ys) else none) = _
  rw [if_pos (by rw [encs_len, encs_len, fitB_le']; exact h)]
  unfold encs
  rw [List.map_append]
@[simp] theorem gSl_from1 {xs : List α} : gSl (enc xs) (some 1) none = some (enc xs.tail) := by
  show some (PyData.tuple (cutD (xs.map enc) (some 1) none)) = _
  rw [cut_enc]
  have e : HT.sIx xs.length 0 (some 1) = min 1 xs.length := rfl
  have e2 : HT.sIx xs.length xs.length none = xs.length := rfl
  rw [e, e2]
  have e3 : (xs.drop (min 1 xs.length)).take (xs.length - min 1 xs.length) = xs.tail := by
    cases xs with
    | nil => rfl
    | cons x xs => simp
  rw [e3]
  rfl
end
@[simp] theorem gAnd_int {i j : Int} : gAnd (.int i) (.int j) = some (.int (Builtin.bitAnd i j)) := Eq.trans rfl rfl
@[simp] theorem gOr_int {i j : Int} : gOr (.int i) (.int j) = some (.int (Builtin.bitOr i j)) := Eq.trans rfl rfl
@[simp] theorem gAbs_int {i : Int} : gAbs [.int i] = some (.int (if i < 0 then -i else i)) := Eq.trans rfl rfl
@[simp] theorem gMax_encT {xs : List Int} (h : 0 < xs.length) : gMax [enc xs] = some (.int (topL xs)) := by
  cases xs with
  | nil => exact absurd h (by show ¬ 0 < 0; omega)
  | cons n r =>
    show (asI ((n :: r).map enc)).bind _ = _
    rw [asI_enc]; rfl
theorem gMul_zeros {n : Nat} (h : n ≤ 16777216) : gMul (.list [.int 0]) (.int n) = some (.list (encs (List.replicate n (0 : Int)))) := by
  have e : (2 : Int) ^ 63 = 9223372036854775808 := by decide +kernel
  have hf : fitB ([PyData.int 0].length * (n : Int).toNat) = true := by rw [fitB_le', List.length_singleton]; omega
  unfold gMul
  dsimp only
  rw [e, decide_eq_true (show -9223372036854775808 ≤ (n : Int) by omega), decide_eq_true (show (n : Int) < 9223372036854775808 by omega), hf, if_pos (by rfl), Int.toNat_natCast]
  have : ∀ n : Nat, (List.replicate n [PyData.int 0]).flatten = encs (List.replicate n (0 : Int)) := by
    intro n
    induction n with
    | zero => rfl
    | succ n ih => rw [List.replicate_succ, List.flatten_cons, ih]; rfl
  rw [this]
theorem nth_replicate {α : Type} [Inhabited α] {n : Nat} {x : α} {i : Int} (h0 : 0 ≤ i) (h1 : i < n) : nth (List.replicate n x) i = x := by
  have : i.toNat < n := by omega
  unfold nth
  simp [List.getElem?_replicate, this]
theorem replicate_irange {α : Type} {n : Nat} {x : α} : List.replicate n x = (irange 0 n).map fun _ => x := by
  unfold irange
  rw [List.map_map]
  apply List.ext_getElem?
  intro i
  by_cases h : i < n
  · simp [h]
  · simp [h]
theorem setN_map {f g : Int → Int} {n : Nat} {i v : Int} (h0 : 0 ≤ i) (h1 : i < n) (h2 : g i = v) (h3 : ∀ d : Int, 0 ≤ d → d < n → d ≠ i → g d = f d) : setN ((irange 0 n).map f) i v = (irange 0 n).map g := by
  apply ext_nth
  · rw [setN_len, List.length_map, List.length_map]
  · intro d d0 d1
    rw [setN_len, List.length_map, irange_len] at d1
    rw [nth_map d0 (by rw [irange_len]; omega), nth_irange d0 (by omega), Int.zero_add]
    unfold setN nth
    by_cases hd : d = i
    · subst hd
      rw [List.getElem?_set_self (by rw [List.length_map, irange_len]; omega), h2]
      rfl
    · have hne : i.toNat ≠ d.toNat := by omega
      rw [List.getElem?_set_ne hne, h3 d d0 (by omega) hd]
      have := nth_map (f := f) (xs := irange 0 n) (i := d) d0 (by rw [irange_len]; omega)
      rw [nth_irange d0 (by omega), Int.zero_add] at this
      exact this
@[simp] theorem gSSet_l {xs : List Int} (h : xs.length < 64) : Bi.sset.g [.list (encs xs)] = some (.list (encs (sortU xs))) := by
  show (asI (xs.map Enc.enc)).bind _ = _
  rw [asI_enc, Option.bind_some, if_pos h]; rfl
@[simp] theorem gSSet_t {xs : List Int} (h : xs.length < 64) : Bi.sset.g [Enc.enc xs] = some (.list (encs (sortU xs))) := by
  show (asI (xs.map Enc.enc)).bind _ = _
  rw [asI_enc, Option.bind_some, if_pos h]; rfl
@[simp] theorem gSorted_b {xs : List D} : Bi.sorted.g xs = gSorted xs := Eq.trans rfl rfl
end L2.DL

set_option Elab.async false
set_option linter.all false
set_option maxRecDepth 100000
set_option maxHeartbeats 4000000
/-! D layer 33: more rules. -/
namespace L2.DL
open PySem PySem.Spec PyProof.Rows
open Enc (enc)
variable [TabL]
section
variable {a b c d e f : D} {xs : List D}
@[simp] theorem gIx_l0 : gIx (.list (a :: xs)) (.int 0) = some a := by
  show atI (a :: xs) 0 = _
  unfold atI ixN
  rw [if_pos (by decide), if_pos (by rw [List.length_cons]; omega)]
  rfl
@[simp] theorem gIx_l1 : gIx (.list [a, b]) (.int 1) = some b := Eq.trans rfl rfl
@[simp] theorem gIx_l1a : gIx (.list [a, b, c]) (.int 1) = some b := Eq.trans rfl rfl
@[simp] theorem gIx_l2a : gIx (.list [a, b, c]) (.int 2) = some c := Eq.trans rfl rfl
@[simp] theorem gIx_l1b : gIx (.list [a, b, c, d]) (.int 1) = some b := Eq.trans rfl rfl
@[simp] theorem gIx_l2b : gIx (.list [a, b, c, d]) (.int 2) = some c := Eq.trans rfl rfl
@[simp] theorem gIx_l3b : gIx (.list [a, b, c, d]) (.int 3) = some d := Eq.trans rfl rfl
@[simp] theorem gIx_t0 : gIx (.tuple (a :: xs)) (.int 0) = some a := by
  show atI (a :: xs) 0 = _
  unfold atI ixN
  rw [if_pos (by decide), if_pos (by rw [List.length_cons]; omega)]
  rfl
@[simp] theorem gIx_t1a : gIx (.tuple [a, b, c]) (.int 1) = some b := Eq.trans rfl rfl
@[simp] theorem gIx_t2a : gIx (.tuple [a, b, c]) (.int 2) = some c := Eq.trans rfl rfl
@[simp] theorem gIx_t1b : gIx (.tuple [a, b, c, d]) (.int 1) = some b := Eq.trans rfl rfl
@[simp] theorem gIx_t2b : gIx (.tuple [a, b, c, d]) (.int 2) = some c := Eq.trans rfl rfl
@[simp] theorem gIx_t3b : gIx (.tuple [a, b, c, d]) (.int 3) = some d := Eq.trans rfl rfl
end
@[simp] theorem callR_6 {F : Fn} {a0 a1 a2 a3 a4 a5 : D} {s : Dr} : callR 6 F ([.val a0, .val a1, .val a2, .val a3, .val a4, .val a5], s) = bnd (F [.val a0, .val a1, .val a2, .val a3, .val a4, .val a5] s) (f := ⟨fun q => .ok (q.1, s)⟩) := Eq.trans rfl rfl
@[simp] theorem callR_7 {F : Fn} {a0 a1 a2 a3 a4 a5 a6 : D} {s : Dr} : callR 7 F ([.val a0, .val a1, .val a2, .val a3, .val a4, .val a5, .val a6], s) = bnd (F [.val a0, .val a1, .val a2, .val a3, .val a4, .val a5, .val a6] s) (f := ⟨fun q => .ok (q.1, s)⟩) := Eq.trans rfl rfl
@[simp] theorem callR_8 {F : Fn} {a0 a1 a2 a3 a4 a5 a6 a7 : D} {s : Dr} : callR 8 F ([.val a0, .val a1, .val a2, .val a3, .val a4, .val a5, .val a6, .val a7], s) = bnd (F [.val a0, .val a1, .val a2, .val a3, .val a4, .val a5, .val a6, .val a7] s) (f := ⟨fun q => .ok (q.1, s)⟩) := Eq.trans rfl rfl
@[simp] theorem callR_9 {F : Fn} {a0 a1 a2 a3 a4 a5 a6 a7 a8 : D} {s : Dr} : callR 9 F ([.val a0, .val a1, .val a2, .val a3, .val a4, .val a5, .val a6, .val a7, .val a8], s) = bnd (F [.val a0, .val a1, .val a2, .val a3, .val a4, .val a5, .val a6, .val a7, .val a8] s) (f := ⟨fun q => .ok (q.1, s)⟩) := Eq.trans rfl rfl
@[simp] theorem callR_10 {F : Fn} {a0 a1 a2 a3 a4 a5 a6 a7 a8 a9 : D} {s : Dr} : callR 10 F ([.val a0, .val a1, .val a2, .val a3, .val a4, .val a5, .val a6, .val a7, .val a8, .val a9], s) = bnd (F [.val a0, .val a1, .val a2, .val a3, .val a4, .val a5, .val a6, .val a7, .val a8, .val a9] s) (f := ⟨fun q => .ok (q.1, s)⟩) := Eq.trans rfl rfl
@[simp] theorem callR_11 {F : Fn} {a0 a1 a2 a3 a4 a5 a6 a7 a8 a9 a10 : D} {s : Dr} : callR 11 F ([.val a0, .val a1, .val a2, .val a3, .val a4, .val a5, .val a6, .val a7, .val a8, .val a9, .val a10], s) = bnd (F [.val a0, .val a1, .val a2, .val a3, .val a4, .val a5, .val a6, .val a7, .val a8, .val a9, .val a10] s) (f := ⟨fun q => .ok (q.1, s)⟩) := Eq.trans rfl rfl
@[simp] theorem callR_12 {F : Fn} {a0 a1 a2 a3 a4 a5 a6 a7 a8 a9 a10 a11 : D} {s : Dr} : callR 12 F ([.val a0, .val a1, .val a2, .val a3, .val a4, .val a5, .val a6, .val a7, .val a8, .val a9, .val a10, .val a11], s) = bnd (F [.val a0, .val a1, .val a2, .val a3, .val a4, .val a5, .val a6, .val a7, .val a8, .val a9, .val a10, .val a11] s) (f := ⟨fun q => .ok (q.1, s)⟩) := Eq.trans rfl rfl
@[simp] theorem callR_drw5 {F : Fn} {a0 a1 a2 a3 a4 : D} {s : Dr} : callR 6 F ([.drw, .val a0, .val a1, .val a2, .val a3, .val a4], s) = F [.drw, .val a0, .val a1, .val a2, .val a3, .val a4] s := Eq.trans rfl rfl
@[simp] theorem callR_drw6 {F : Fn} {a0 a1 a2 a3 a4 a5 : D} {s : Dr} : callR 7 F ([.drw, .val a0, .val a1, .val a2, .val a3, .val a4, .val a5], s) = F [.drw, .val a0, .val a1, .val a2, .val a3, .val a4, .val a5] s := Eq.trans rfl rfl
@[simp] theorem callR_drw7 {F : Fn} {a0 a1 a2 a3 a4 a5 a6 : D} {s : Dr} : callR 8 F ([.drw, .val a0, .val a1, .val a2, .val a3, .val a4, .val a5, .val a6], s) = F [.drw, .val a0, .val a1, .val a2, .val a3, .val a4, .val a5, .val a6] s := Eq.trans rfl rfl
@[simp] theorem callR_drw8 {F : Fn} {a0 a1 a2 a3 a4 a5 a6 a7 : D} {s : Dr} : callR 9 F ([.drw, .val a0, .val a1, .val a2, .val a3, .val a4, .val a5, .val a6, .val a7], s) = F [.drw, .val a0, .val a1, .val a2, .val a3, .val a4, .val a5, .val a6, .val a7] s := Eq.trans rfl rfl
@[simp] theorem callR_drw9 {F : Fn} {a0 a1 a2 a3 a4 a5 a6 a7 a8 : D} {s : Dr} : callR 10 F ([.drw, .val a0, .val a1, .val a2, .val a3, .val a4, .val a5, .val a6, .val a7, .val a8], s) = F [.drw, .val a0, .val a1, .val a2, .val a3, .val a4, .val a5, .val a6, .val a7, .val a8] s := Eq.trans rfl rfl
@[simp] theorem callR_drw10 {F : Fn} {a0 a1 a2 a3 a4 a5 a6 a7 a8 a9 : D} {s : Dr} : callR 11 F ([.drw, .val a0, .val a1, .val a2, .val a3, .val a4, .val a5, .val a6, .val a7, .val a8, .val a9], s) = F [.drw, .val a0, .val a1, .val a2, .val a3, .val a4, .val a5, .val a6, .val a7, .val a8, .val a9] s := Eq.trans rfl rfl
@[simp] theorem callR_drw11 {F : Fn} {a0 a1 a2 a3 a4 a5 a6 a7 a8 a9 a10 : D} {s : Dr} : callR 12 F ([.drw, .val a0, .val a1, .val a2, .val a3, .val a4, .val a5, .val a6, .val a7, .val a8, .val a9, .val a10], s) = F [.drw, .val a0, .val a1, .val a2, .val a3, .val a4, .val a5, .val a6, .val a7, .val a8, .val a9, .val a10] s := Eq.trans rfl rfl
@[simp] theorem callR_drw12 {F : Fn} {a0 a1 a2 a3 a4 a5 a6 a7 a8 a9 a10 a11 : D} {s : Dr} : callR 13 F ([.drw, .val a0, .val a1, .val a2, .val a3, .val a4, .val a5, .val a6, .val a7, .val a8, .val a9, .val a10, .val a11], s) = F [.drw, .val a0, .val a1, .val a2, .val a3, .val a4, .val a5, .val a6, .val a7, .val a8, .val a9, .val a10, .val a11] s := Eq.trans rfl rfl
@[simp] theorem callR_drw13 {F : Fn} {a0 a1 a2 a3 a4 a5 a6 a7 a8 a9 a10 a11 a12 : D} {s : Dr} : callR 14 F ([.drw, .val a0, .val a1, .val a2, .val a3, .val a4, .val a5, .val a6, .val a7, .val a8, .val a9, .val a10, .val a11, .val a12], s) = F [.drw, .val a0, .val a1, .val a2, .val a3, .val a4, .val a5, .val a6, .val a7, .val a8, .val a9, .val a10, .val a11, .val a12] s := Eq.trans rfl rfl
end L2.DL

set_option Elab.async false
set_option linter.all false
set_option maxRecDepth 100000
set_option maxHeartbeats 0
namespace Row
open PySem PySem.Spec PyProof.Rows L2 L2.DL
def top (i : Nat) : Stmt := PySem.Challenge.pw_secrethall_k19_whole_boxes.main.body.getD i (.Pass ⟨0, 0, 0, 0⟩)
def fns : List (Str × Nat × Nat) := [(("check", 0, 2) : Str × Nat × Nat), (("power_of", 1, 1) : Str × Nat × Nat), (("odd", 2, 1) : Str × Nat × Nat), (("is_order", 3, 2) : Str × Nat × Nat), (("turned", 4, 2) : Str × Nat × Nat), (("gaps", 5, 2) : Str × Nat × Nat), (("most_gap", 6, 2) : Str × Nat × Nat), (("masks", 7, 2) : Str × Nat × Nat), (("most_mask", 8, 2) : Str × Nat × Nat), (("far", 9, 2) : Str × Nat × Nat), (("forms", 10, 2) : Str × Nat × Nat), (("degree", 11, 2) : Str × Nat × Nat), (("size_of", 12, 1) : Str × Nat × Nat), (("check_half", 13, 2) : Str × Nat × Nat), (("rounds", 14, 5) : Str × Nat × Nat), (("back_rounds", 15, 5) : Str × Nat × Nat), (("whole_box", 16, 3) : Str × Nat × Nat), (("keyed", 17, 4) : Str × Nat × Nat), (("keys_for", 18, 3) : Str × Nat × Nat), (("by_gap", 19, 4) : Str × Nat × Nat)] ++ [(("joined", 20, 3) : Str × Nat × Nat), (("is_straight", 21, 2) : Str × Nat × Nat), (("_law_begin", 22, 1) : Str × Nat × Nat), (("_law_take", 23, 2) : Str × Nat × Nat), (("_law_xor", 25, 2) : Str × Nat × Nat), (("_law_and", 26, 2) : Str × Nat × Nat), (("_law_ones", 27, 1) : Str × Nat × Nat), (("_law_box", 28, 2) : Str × Nat × Nat), (("_law_wrong", 29, 0) : Str × Nat × Nat), (("_law_part1", 30, 6) : Str × Nat × Nat)]
def csts : List (Str × D) := [("MOST_BITS", .int (6))]
def N_check : List Str := ["bits", "box", "one"]
def cc_check : CC := ⟨N_check, defScope (top 4), defScope (top 4), fns, csts, [], [], "check", false, true, 2⟩
def mu_check : List Nat := []
def N_power_of : List Str := ["number", "found", "_"]
def cc_power_of : CC := ⟨N_power_of, defScope (top 5), defScope (top 5), fns, csts, [], [], "power_of", false, true, 2⟩
def mu_power_of : List Nat := []
def N_odd : List Str := ["number", "found"]
def cc_odd : CC := ⟨N_odd, defScope (top 6), defScope (top 6), fns, csts, [], [], "odd", false, true, 2⟩
def mu_odd : List Nat := []
def N_is_order : List Str := ["bits", "box", "one", "other"]
def cc_is_order : CC := ⟨N_is_order, defScope (top 7), defScope (top 7), fns, csts, [], [], "is_order", false, true, 2⟩
def mu_is_order : List Nat := []
def N_turned : List Str := ["bits", "box", "found", "one", "told"]
def cc_turned : CC := ⟨N_turned, defScope (top 8), defScope (top 8), fns, csts, [], [], "turned", false, true, 2⟩
def mu_turned : List Nat := [2]
def N_gaps : List Str := ["bits", "box", "found", "gap", "row", "one"]
def cc_gaps : CC := ⟨N_gaps, defScope (top 9), defScope (top 9), fns, csts, [], [], "gaps", false, true, 2⟩
def mu_gaps : List Nat := [2, 4]
def N_most_gap : List Str := ["bits", "box", "row"]
def cc_most_gap : CC := ⟨N_most_gap, defScope (top 10), defScope (top 10), fns, csts, [], [], "most_gap", false, true, 2⟩
def mu_most_gap : List Nat := []
def N_masks : List Str := ["bits", "box", "found", "ahead", "row", "behind", "one"]
def cc_masks : CC := ⟨N_masks, defScope (top 11), defScope (top 11), fns, csts, [], [], "masks", false, true, 2⟩
def mu_masks : List Nat := [2, 4]
def N_most_mask : List Str := ["bits", "box", "row", "one"]
def cc_most_mask : CC := ⟨N_most_mask, defScope (top 12), defScope (top 12), fns, csts, [], [], "most_mask", false, true, 2⟩
def mu_most_mask : List Nat := []
def N_far : List Str := ["bits", "box"]
def cc_far : CC := ⟨N_far, defScope (top 13), defScope (top 13), fns, csts, [], [], "far", false, true, 2⟩
def mu_far : List Nat := []
def N_forms : List Str := ["bits", "box", "found", "bit", "row", "step", "one", "k"]
def cc_forms : CC := ⟨N_forms, defScope (top 14), defScope (top 14), fns, csts, [], [], "forms", false, true, 2⟩
def mu_forms : List Nat := [2]
def N_degree : List Str := ["bits", "box", "found", "row", "product"]
def cc_degree : CC := ⟨N_degree, defScope (top 15), defScope (top 15), fns, csts, [], [], "degree", false, true, 2⟩
def mu_degree : List Nat := []
def N_size_of : List Str := ["number", "found"]
def cc_size_of : CC := ⟨N_size_of, defScope (top 16), defScope (top 16), fns, csts, [], [], "size_of", false, true, 2⟩
def mu_size_of : List Nat := []
def N_check_half : List Str := ["bits", "number"]
def cc_check_half : CC := ⟨N_check_half, defScope (top 17), defScope (top 17), fns, csts, [], [], "check_half", false, true, 2⟩
def mu_check_half : List Nat := []
def N_rounds : List Str := ["bits", "boxes", "keys", "left", "right", "box", "key"]
def cc_rounds : CC := ⟨N_rounds, defScope (top 18), defScope (top 18), fns, csts, [], [], "rounds", false, true, 2⟩
def mu_rounds : List Nat := []
def N_back_rounds : List Str := ["bits", "boxes", "keys", "left", "right", "right_first"]
def cc_back_rounds : CC := ⟨N_back_rounds, defScope (top 19), defScope (top 19), fns, csts, [], [], "back_rounds", false, true, 2⟩
def mu_back_rounds : List Nat := []
def N_whole_box : List Str := ["bits", "boxes", "keys", "size", "found", "number", "left", "right"]
def cc_whole_box : CC := ⟨N_whole_box, defScope (top 20), defScope (top 20), fns, csts, [], [], "whole_box", false, true, 2⟩
def mu_whole_box : List Nat := [4]
def N_keyed : List Str := ["bits", "box", "first", "last", "one"]
def cc_keyed : CC := ⟨N_keyed, defScope (top 21), defScope (top 21), fns, csts, [], [], "keyed", false, true, 2⟩
def mu_keyed : List Nat := []
def N_keys_for : List Str := ["bits", "box", "pairs", "found", "first", "one", "other", "last"]
def cc_keys_for : CC := ⟨N_keys_for, defScope (top 22), defScope (top 22), fns, csts, [], [], "keys_for", false, true, 2⟩
def mu_keys_for : List Nat := [3]
def N_by_gap : List Str := ["bits", "box", "one", "other", "number", "gap", "key"]
def cc_by_gap : CC := ⟨N_by_gap, defScope (top 23), defScope (top 23), fns, csts, [], [], "by_gap", false, true, 2⟩
def mu_by_gap : List Nat := []
def N_joined : List Str := ["bits", "first", "second", "one"]
def cc_joined : CC := ⟨N_joined, defScope (top 24), defScope (top 24), fns, csts, [], [], "joined", false, true, 2⟩
def mu_joined : List Nat := []
def N_is_straight : List Str := ["bits", "box", "one", "other"]
def cc_is_straight : CC := ⟨N_is_straight, defScope (top 25), defScope (top 25), fns, csts, [], [], "is_straight", false, true, 2⟩
def mu_is_straight : List Nat := []
def N__law_begin : List Str := ["script", "seed", "cell"]
def cc__law_begin : CC := ⟨N__law_begin, defScope (top 27), defScope (top 27), fns, csts, [], ["script"], "_law_begin", false, true, 2⟩
def mu__law_begin : List Nat := []
def N__law_take : List Str := ["d", "many", "digit", "small"]
def cc__law_take : CC := ⟨N__law_take, defScope (top 28), defScope (top 28), fns, csts, ["d"], [], "_law_take", false, true, 2⟩
def mu__law_take : List Nat := []
def N__law_told : List Str := ["call", "e"]
def cc__law_told : CC := ⟨N__law_told, defScope (top 29), defScope (top 29), fns, csts, [], [], "_law_told", false, true, 2⟩
def mu__law_told : List Nat := []
def N__law_xor : List Str := ["one", "other", "found", "bit", "k"]
def cc__law_xor : CC := ⟨N__law_xor, defScope (top 30), defScope (top 30), fns, csts, [], [], "_law_xor", false, true, 2⟩
def mu__law_xor : List Nat := []
def N__law_and : List Str := ["one", "other", "found", "bit", "k"]
def cc__law_and : CC := ⟨N__law_and, defScope (top 31), defScope (top 31), fns, csts, [], [], "_law_and", false, true, 2⟩
def mu__law_and : List Nat := []
def N__law_ones : List Str := ["number", "k"]
def cc__law_ones : CC := ⟨N__law_ones, defScope (top 32), defScope (top 32), fns, csts, [], [], "_law_ones", false, true, 2⟩
def mu__law_ones : List Nat := []
def N__law_box : List Str := ["d", "size", "left", "row", "k"]
def cc__law_box : CC := ⟨N__law_box, defScope (top 33), defScope (top 33), fns, csts, [], [], "_law_box", false, true, 2⟩
def mu__law_box : List Nat := [2, 3]
def N__law_wrong : List Str := ["good", "bits", "box", "code"]
def cc__law_wrong : CC := ⟨N__law_wrong, defScope (top 34), defScope (top 34), fns, csts, [], [], "_law_wrong", true, true, 2⟩
def mu__law_wrong : List Nat := []
def N__law_part1 : List Str := ["d", "bits", "size", "box", "table", "told", "sizes", "line", "bad", "one", "boxes", "keys", "left", "right", "now", "k", "wide", "first", "last", "locked", "known", "due", "a", "two", "found", "product", "other", "b"]
def cc__law_part1 : CC := ⟨N__law_part1, defScope (top 35), defScope (top 35), fns, csts, [], [], "_law_part1", false, true, 2⟩
def mu__law_part1 : List Nat := []
def N_law : List Str := ["script", "d", "bits", "size", "box", "pairs", "one", "table", "gap", "rows", "ahead", "most", "behind", "told", "back", "line", "bit", "same", "count", "row", "other", "after", "product", "k", "j"]
def cc_law : CC := ⟨N_law, defScope (top 36), defScope (top 36), fns, csts, [], [], "law", false, true, 2⟩
def mu_law : List Nat := [7, 9, 15]
def ir_check : IS := IS.seq (IS.ite (IX.tnot (IX.tev (IX.ch (O2.le) (O2.le) (IX.c (PyData.int 1)) (IX.pk 0) (IX.c (PyData.int 6))))) (IS.raise { cps := #[98, 105, 116, 115] }) (IS.skip)) (IS.ite (IX.tif (IX.tev (IX.b2 (O2.ne) (IX.bi (Bi.len) (IX.cons (IX.pk 1) (IX.nil))) (IX.call 1 1 (IX.argV 0 (IX.nil))))) (IX.tt) (IX.tnot (IX.tru (IX.bi (Bi.all) (IX.cons (IX.lc (IX.seq (IX.pk 1)) (Tg.nm 2) [2] (IX.tt) (IX.ch (O2.le) (O2.lt) (IX.c (PyData.int 0)) (IX.pk 2) (IX.call 1 1 (IX.argV 0 (IX.nil))))) (IX.nil)))))) (IS.raise { cps := #[98, 111, 120] }) (IS.skip))
def di_check : DefI := ⟨["bits", "box"], cc_check, ir_check⟩
def dd_check : He.DefD := ⟨("check", none), "check", "check", defArgs (top 4), defBody (top 4), defScope (top 4), [], []⟩
def ir_power_of : IS := IS.seq (IS.asg (Tg.nm 1) (IX.c (PyData.int 1))) (IS.seq (IS.forS [] (IX.rng1 (IX.cons (IX.var 0) (IX.nil))) (Tg.nm 2) (IS.aug (O2.mul) 1 (IX.c (PyData.int 2)))) (IS.ret (IX.var 1)))
def di_power_of : DefI := ⟨["number"], cc_power_of, ir_power_of⟩
def dd_power_of : He.DefD := ⟨("power_of", none), "power_of", "power_of", defArgs (top 5), defBody (top 5), defScope (top 5), [], []⟩
def ir_odd : IS := IS.seq (IS.asg (Tg.nm 1) (IX.c (PyData.int 0))) (IS.seq (IS.whl 100000 (IX.tev (IX.b2 (O2.gt) (IX.pk 0) (IX.c (PyData.int 0)))) (IS.seq (IS.aug (O2.xor) 1 (IX.b2 (O2.mod) (IX.pk 0) (IX.c (PyData.int 2)))) (IS.aug (O2.div) 0 (IX.c (PyData.int 2))))) (IS.ret (IX.var 1)))
def di_odd : DefI := ⟨["number"], cc_odd, ir_odd⟩
def dd_odd : He.DefD := ⟨("odd", none), "odd", "odd", defArgs (top 6), defBody (top 6), defScope (top 6), [], []⟩
def ir_is_order : IS := IS.seq (IS.ex (IX.call 0 2 (IX.argV 0 (IX.argV 1 (IX.nil))))) (IS.seq (IS.forS [] (IX.rng1 (IX.cons (IX.bi (Bi.len) (IX.cons (IX.pk 1) (IX.nil))) (IX.nil))) (Tg.nm 2) (IS.forS [] (IX.rng2 (IX.cons (IX.b2 (O2.add) (IX.pk 2) (IX.c (PyData.int 1))) (IX.cons (IX.bi (Bi.len) (IX.cons (IX.pk 1) (IX.nil))) (IX.nil)))) (Tg.nm 3) (IS.ite (IX.tev (IX.b2 (O2.eq) (IX.ix (IX.pk 1) (IX.pk 2)) (IX.ix (IX.pk 1) (IX.pk 3)))) (IS.ret (IX.tup (IX.cons (IX.var 2) (IX.cons (IX.var 3) (IX.nil))))) (IS.skip)))) (IS.ret (IX.c (PyData.none))))
def di_is_order : DefI := ⟨["bits", "box"], cc_is_order, ir_is_order⟩
def dd_is_order : He.DefD := ⟨("is_order", none), "is_order", "is_order", defArgs (top 7), defBody (top 7), defScope (top 7), [], []⟩
def ir_turned : IS := IS.seq (IS.ite (IX.tev (IX.b2 (O2.isn) (IX.call 3 2 (IX.argV 0 (IX.argV 1 (IX.nil)))) (IX.c (PyData.none)))) (IS.raise { cps := #[111, 114, 100, 101, 114] }) (IS.skip)) (IS.seq (IS.asgO 2 (IX.fl (IX.b2 (O2.mul) (IX.lst (IX.cons (IX.c (PyData.int 0)) (IX.nil))) (IX.bi (Bi.len) (IX.cons (IX.pk 1) (IX.nil)))))) (IS.seq (IS.forS [1] (IX.enum (IX.cons (IX.pk 1) (IX.nil))) (Tg.tup (Tg.tcons (Tg.nm 3) (Tg.tcons (Tg.nm 4) (Tg.tnil)))) (IS.setIx 2 (IX.var 4) (IX.var 3))) (IS.ret (IX.bi (Bi.tuple) (IX.cons (IX.pk 2) (IX.nil))))))
def di_turned : DefI := ⟨["bits", "box"], cc_turned, ir_turned⟩
def dd_turned : He.DefD := ⟨("turned", none), "turned", "turned", defArgs (top 8), defBody (top 8), defScope (top 8), [], []⟩
def ir_gaps : IS := IS.seq (IS.ex (IX.call 0 2 (IX.argV 0 (IX.argV 1 (IX.nil))))) (IS.seq (IS.asgO 2 (IX.lst (IX.nil))) (IS.seq (IS.forS [] (IX.rng1 (IX.cons (IX.bi (Bi.len) (IX.cons (IX.pk 1) (IX.nil))) (IX.nil))) (Tg.nm 3) (IS.seq (IS.asgO 4 (IX.fl (IX.b2 (O2.mul) (IX.lst (IX.cons (IX.c (PyData.int 0)) (IX.nil))) (IX.bi (Bi.len) (IX.cons (IX.pk 1) (IX.nil)))))) (IS.seq (IS.forS [] (IX.rng1 (IX.cons (IX.bi (Bi.len) (IX.cons (IX.pk 1) (IX.nil))) (IX.nil))) (Tg.nm 5) (IS.augIx (O2.add) 4 (IX.b2 (O2.xor) (IX.ix (IX.pk 1) (IX.pk 5)) (IX.ix (IX.pk 1) (IX.b2 (O2.xor) (IX.pk 5) (IX.pk 3)))) (IX.c (PyData.int 1)))) (IS.app 2 (IX.bi (Bi.tuple) (IX.cons (IX.pk 4) (IX.nil))))))) (IS.ret (IX.bi (Bi.tuple) (IX.cons (IX.pk 2) (IX.nil))))))
def di_gaps : DefI := ⟨["bits", "box"], cc_gaps, ir_gaps⟩
def dd_gaps : He.DefD := ⟨("gaps", none), "gaps", "gaps", defArgs (top 9), defBody (top 9), defScope (top 9), [], []⟩
def ir_most_gap : IS := IS.ret (IX.bi (Bi.max) (IX.cons (IX.lc (IX.seq (IX.sl (IX.call 5 2 (IX.argV 0 (IX.argV 1 (IX.nil)))) (IX.tru (IX.c (PyData.int 1))) (IX.none))) (Tg.nm 2) [2] (IX.tt) (IX.bi (Bi.max) (IX.cons (IX.pk 2) (IX.nil)))) (IX.nil)))
def di_most_gap : DefI := ⟨["bits", "box"], cc_most_gap, ir_most_gap⟩
def dd_most_gap : He.DefD := ⟨("most_gap", none), "most_gap", "most_gap", defArgs (top 10), defBody (top 10), defScope (top 10), [], []⟩
def ir_masks : IS := IS.seq (IS.ex (IX.call 0 2 (IX.argV 0 (IX.argV 1 (IX.nil))))) (IS.seq (IS.asgO 2 (IX.lst (IX.nil))) (IS.seq (IS.forS [] (IX.rng1 (IX.cons (IX.bi (Bi.len) (IX.cons (IX.pk 1) (IX.nil))) (IX.nil))) (Tg.nm 3) (IS.seq (IS.asgO 4 (IX.lst (IX.nil))) (IS.seq (IS.forS [] (IX.rng1 (IX.cons (IX.bi (Bi.len) (IX.cons (IX.pk 1) (IX.nil))) (IX.nil))) (Tg.nm 5) (IS.app 4 (IX.bi (Bi.sum) (IX.cons (IX.lc (IX.rng1 (IX.cons (IX.bi (Bi.len) (IX.cons (IX.pk 1) (IX.nil))) (IX.nil))) (Tg.nm 6) [6] (IX.tt) (IX.b2 (O2.sub) (IX.c (PyData.int 1)) (IX.b2 (O2.mul) (IX.c (PyData.int 2)) (IX.b2 (O2.xor) (IX.call 2 1 (IX.argC (IX.b2 (O2.and) (IX.pk 6) (IX.pk 3)) (IX.nil))) (IX.call 2 1 (IX.argC (IX.b2 (O2.and) (IX.ix (IX.pk 1) (IX.pk 6)) (IX.pk 5)) (IX.nil))))))) (IX.nil))))) (IS.app 2 (IX.bi (Bi.tuple) (IX.cons (IX.pk 4) (IX.nil))))))) (IS.ret (IX.bi (Bi.tuple) (IX.cons (IX.pk 2) (IX.nil))))))
def di_masks : DefI := ⟨["bits", "box"], cc_masks, ir_masks⟩
def dd_masks : He.DefD := ⟨("masks", none), "masks", "masks", defArgs (top 11), defBody (top 11), defScope (top 11), [], []⟩
def ir_most_mask : IS := IS.ret (IX.bi (Bi.max) (IX.cons (IX.lc (IX.seq (IX.call 7 2 (IX.argV 0 (IX.argV 1 (IX.nil))))) (Tg.nm 2) [2] (IX.tt) (IX.bi (Bi.max) (IX.cons (IX.lc (IX.seq (IX.sl (IX.pk 2) (IX.tru (IX.c (PyData.int 1))) (IX.none))) (Tg.nm 3) [3] (IX.tt) (IX.bi (Bi.abs) (IX.cons (IX.pk 3) (IX.nil)))) (IX.nil)))) (IX.nil)))
def di_most_mask : DefI := ⟨["bits", "box"], cc_most_mask, ir_most_mask⟩
def dd_most_mask : He.DefD := ⟨("most_mask", none), "most_mask", "most_mask", defArgs (top 12), defBody (top 12), defScope (top 12), [], []⟩
def ir_far : IS := IS.ret (IX.b2 (O2.div) (IX.b2 (O2.sub) (IX.bi (Bi.len) (IX.cons (IX.pk 1) (IX.nil))) (IX.call 8 2 (IX.argV 0 (IX.argV 1 (IX.nil))))) (IX.c (PyData.int 2)))
def di_far : DefI := ⟨["bits", "box"], cc_far, ir_far⟩
def dd_far : He.DefD := ⟨("far", none), "far", "far", defArgs (top 13), defBody (top 13), defScope (top 13), [], []⟩
def ir_forms : IS := IS.seq (IS.ex (IX.call 0 2 (IX.argV 0 (IX.argV 1 (IX.nil))))) (IS.seq (IS.asgO 2 (IX.lst (IX.nil))) (IS.seq (IS.forS [] (IX.rng1 (IX.cons (IX.var 0) (IX.nil))) (Tg.nm 3) (IS.seq (IS.asg (Tg.nm 4) (IX.lc (IX.seq (IX.pk 1)) (Tg.nm 6) [6] (IX.tt) (IX.b2 (O2.mod) (IX.b2 (O2.div) (IX.pk 6) (IX.call 1 1 (IX.argV 3 (IX.nil)))) (IX.c (PyData.int 2))))) (IS.seq (IS.asg (Tg.nm 5) (IX.c (PyData.int 1))) (IS.seq (IS.whl 100000 (IX.tev (IX.b2 (O2.lt) (IX.pk 5) (IX.bi (Bi.len) (IX.cons (IX.pk 4) (IX.nil))))) (IS.seq (IS.asg (Tg.nm 4) (IX.lc (IX.rng1 (IX.cons (IX.bi (Bi.len) (IX.cons (IX.pk 4) (IX.nil))) (IX.nil))) (Tg.nm 7) [7] (IX.tt) (IX.b2 (O2.xor) (IX.ix (IX.pk 4) (IX.pk 7)) (IX.ife (IX.tev (IX.b2 (O2.eq) (IX.b2 (O2.mod) (IX.b2 (O2.div) (IX.pk 7) (IX.pk 5)) (IX.c (PyData.int 2))) (IX.c (PyData.int 1)))) (IX.ix (IX.pk 4) (IX.b2 (O2.sub) (IX.pk 7) (IX.pk 5))) (IX.c (PyData.int 0)))))) (IS.aug (O2.mul) 5 (IX.c (PyData.int 2))))) (IS.app 2 (IX.bi (Bi.tuple) (IX.cons (IX.lc (IX.rng1 (IX.cons (IX.bi (Bi.len) (IX.cons (IX.pk 4) (IX.nil))) (IX.nil))) (Tg.nm 7) [7] (IX.tev (IX.b2 (O2.eq) (IX.ix (IX.pk 4) (IX.pk 7)) (IX.c (PyData.int 1)))) (IX.var 7)) (IX.nil)))))))) (IS.ret (IX.bi (Bi.tuple) (IX.cons (IX.pk 2) (IX.nil))))))
def di_forms : DefI := ⟨["bits", "box"], cc_forms, ir_forms⟩
def dd_forms : He.DefD := ⟨("forms", none), "forms", "forms", defArgs (top 14), defBody (top 14), defScope (top 14), [], []⟩
def ir_degree : IS := IS.seq (IS.asg (Tg.nm 2) (IX.c (PyData.int 0))) (IS.seq (IS.forS [] (IX.seq (IX.call 10 2 (IX.argV 0 (IX.argV 1 (IX.nil))))) (Tg.nm 3) (IS.asg (Tg.nm 2) (IX.bi (Bi.max) (IX.cons (IX.b2 (O2.add) (IX.lst (IX.cons (IX.var 2) (IX.nil))) (IX.lc (IX.seq (IX.pk 3)) (Tg.nm 4) [4] (IX.tt) (IX.call 12 1 (IX.argV 4 (IX.nil))))) (IX.nil))))) (IS.ret (IX.var 2)))
def di_degree : DefI := ⟨["bits", "box"], cc_degree, ir_degree⟩
def dd_degree : He.DefD := ⟨("degree", none), "degree", "degree", defArgs (top 15), defBody (top 15), defScope (top 15), [], []⟩
def ir_size_of : IS := IS.seq (IS.asg (Tg.nm 1) (IX.c (PyData.int 0))) (IS.seq (IS.whl 100000 (IX.tev (IX.b2 (O2.gt) (IX.pk 0) (IX.c (PyData.int 0)))) (IS.seq (IS.aug (O2.add) 1 (IX.b2 (O2.mod) (IX.pk 0) (IX.c (PyData.int 2)))) (IS.aug (O2.div) 0 (IX.c (PyData.int 2))))) (IS.ret (IX.var 1)))
def di_size_of : DefI := ⟨["number"], cc_size_of, ir_size_of⟩
def dd_size_of : He.DefD := ⟨("size_of", none), "size_of", "size_of", defArgs (top 16), defBody (top 16), defScope (top 16), [], []⟩
def ir_check_half : IS := IS.ite (IX.tnot (IX.tev (IX.ch (O2.le) (O2.lt) (IX.c (PyData.int 0)) (IX.pk 1) (IX.call 1 1 (IX.argV 0 (IX.nil)))))) (IS.raise { cps := #[110, 117, 109, 98, 101, 114] }) (IS.skip)
def di_check_half : DefI := ⟨["bits", "number"], cc_check_half, ir_check_half⟩
def dd_check_half : He.DefD := ⟨("check_half", none), "check_half", "check_half", defArgs (top 17), defBody (top 17), defScope (top 17), [], []⟩
def ir_rounds : IS := IS.seq (IS.ite (IX.tif (IX.tev (IX.b2 (O2.ne) (IX.bi (Bi.len) (IX.cons (IX.pk 1) (IX.nil))) (IX.bi (Bi.len) (IX.cons (IX.pk 2) (IX.nil))))) (IX.tt) (IX.tev (IX.b2 (O2.gt) (IX.bi (Bi.len) (IX.cons (IX.pk 1) (IX.nil))) (IX.c (PyData.int 16))))) (IS.raise { cps := #[114, 111, 117, 110, 100, 115] }) (IS.skip)) (IS.seq (IS.forS [1, 2] (IX.zip2 (IX.cons (IX.pk 1) (IX.cons (IX.pk 2) (IX.nil)))) (Tg.tup (Tg.tcons (Tg.nm 5) (Tg.tcons (Tg.nm 6) (Tg.tnil)))) (IS.seq (IS.ex (IX.call 0 2 (IX.argV 0 (IX.argV 5 (IX.nil))))) (IS.ex (IX.call 13 2 (IX.argV 0 (IX.argV 6 (IX.nil))))))) (IS.seq (IS.ex (IX.call 13 2 (IX.argV 0 (IX.argV 3 (IX.nil))))) (IS.seq (IS.ex (IX.call 13 2 (IX.argV 0 (IX.argV 4 (IX.nil))))) (IS.seq (IS.forS [1, 2] (IX.zip2 (IX.cons (IX.pk 1) (IX.cons (IX.pk 2) (IX.nil)))) (Tg.tup (Tg.tcons (Tg.nm 5) (Tg.tcons (Tg.nm 6) (Tg.tnil)))) (IS.par 3 4 (IX.var 4) (IX.b2 (O2.xor) (IX.pk 3) (IX.ix (IX.pk 5) (IX.b2 (O2.xor) (IX.pk 4) (IX.pk 6)))))) (IS.ret (IX.tup (IX.cons (IX.var 3) (IX.cons (IX.var 4) (IX.nil)))))))))
def di_rounds : DefI := ⟨["bits", "boxes", "keys", "left", "right"], cc_rounds, ir_rounds⟩
def dd_rounds : He.DefD := ⟨("rounds", none), "rounds", "rounds", defArgs (top 18), defBody (top 18), defScope (top 18), [], []⟩
def ir_back_rounds : IS := IS.seq (IS.asg (Tg.nm 5) (IX.call 14 5 (IX.argV 0 (IX.argC (IX.rev (IX.pk 1)) (IX.argC (IX.rev (IX.pk 2)) (IX.argV 4 (IX.argV 3 (IX.nil)))))))) (IS.ret (IX.tup (IX.cons (IX.ix (IX.pk 5) (IX.c (PyData.int 1))) (IX.cons (IX.ix (IX.pk 5) (IX.c (PyData.int 0))) (IX.nil)))))
def di_back_rounds : DefI := ⟨["bits", "boxes", "keys", "left", "right"], cc_back_rounds, ir_back_rounds⟩
def dd_back_rounds : He.DefD := ⟨("back_rounds", none), "back_rounds", "back_rounds", defArgs (top 19), defBody (top 19), defScope (top 19), [], []⟩
def ir_whole_box : IS := IS.seq (IS.ite (IX.tnot (IX.tev (IX.ch (O2.le) (O2.le) (IX.c (PyData.int 1)) (IX.pk 0) (IX.c (PyData.int 3))))) (IS.raise { cps := #[98, 105, 116, 115] }) (IS.skip)) (IS.seq (IS.asg (Tg.nm 3) (IX.call 1 1 (IX.argV 0 (IX.nil)))) (IS.seq (IS.asgO 4 (IX.lst (IX.nil))) (IS.seq (IS.forS [] (IX.rng1 (IX.cons (IX.b2 (O2.mul) (IX.pk 3) (IX.pk 3)) (IX.nil))) (Tg.nm 5) (IS.seq (IS.asg (Tg.tup (Tg.tcons (Tg.nm 6) (Tg.tcons (Tg.nm 7) (Tg.tnil)))) (IX.call 14 5 (IX.argV 0 (IX.argV 1 (IX.argV 2 (IX.argC (IX.b2 (O2.div) (IX.pk 5) (IX.pk 3)) (IX.argC (IX.b2 (O2.mod) (IX.pk 5) (IX.pk 3)) (IX.nil)))))))) (IS.app 4 (IX.b2 (O2.add) (IX.b2 (O2.mul) (IX.pk 6) (IX.pk 3)) (IX.pk 7))))) (IS.ret (IX.bi (Bi.tuple) (IX.cons (IX.pk 4) (IX.nil)))))))
def di_whole_box : DefI := ⟨["bits", "boxes", "keys"], cc_whole_box, ir_whole_box⟩
def dd_whole_box : He.DefD := ⟨("whole_box", none), "whole_box", "whole_box", defArgs (top 20), defBody (top 20), defScope (top 20), [], []⟩
def ir_keyed : IS := IS.seq (IS.ex (IX.call 0 2 (IX.argV 0 (IX.argV 1 (IX.nil))))) (IS.seq (IS.ex (IX.call 13 2 (IX.argV 0 (IX.argV 2 (IX.nil))))) (IS.seq (IS.ex (IX.call 13 2 (IX.argV 0 (IX.argV 3 (IX.nil))))) (IS.ret (IX.bi (Bi.tuple) (IX.cons (IX.lc (IX.rng1 (IX.cons (IX.bi (Bi.len) (IX.cons (IX.pk 1) (IX.nil))) (IX.nil))) (Tg.nm 4) [4] (IX.tt) (IX.b2 (O2.xor) (IX.ix (IX.pk 1) (IX.b2 (O2.xor) (IX.pk 4) (IX.pk 2))) (IX.pk 3))) (IX.nil))))))
def di_keyed : DefI := ⟨["bits", "box", "first", "last"], cc_keyed, ir_keyed⟩
def dd_keyed : He.DefD := ⟨("keyed", none), "keyed", "keyed", defArgs (top 21), defBody (top 21), defScope (top 21), [], []⟩
def ir_keys_for : IS := IS.seq (IS.ex (IX.call 0 2 (IX.argV 0 (IX.argV 1 (IX.nil))))) (IS.seq (IS.forS [2] (IX.seq (IX.pk 2)) (Tg.tup (Tg.tcons (Tg.nm 5) (Tg.tcons (Tg.nm 6) (Tg.tnil)))) (IS.seq (IS.ex (IX.call 13 2 (IX.argV 0 (IX.argV 5 (IX.nil))))) (IS.ex (IX.call 13 2 (IX.argV 0 (IX.argV 6 (IX.nil))))))) (IS.seq (IS.asgO 3 (IX.lst (IX.nil))) (IS.seq (IS.forS [] (IX.rng1 (IX.cons (IX.bi (Bi.len) (IX.cons (IX.pk 1) (IX.nil))) (IX.nil))) (Tg.nm 4) (IS.forS [] (IX.rng1 (IX.cons (IX.bi (Bi.len) (IX.cons (IX.pk 1) (IX.nil))) (IX.nil))) (Tg.nm 7) (IS.ite (IX.tru (IX.bi (Bi.all) (IX.cons (IX.lc (IX.seq (IX.pk 2)) (Tg.tup (Tg.tcons (Tg.nm 5) (Tg.tcons (Tg.nm 6) (Tg.tnil)))) [5, 6] (IX.tt) (IX.b2 (O2.eq) (IX.b2 (O2.xor) (IX.ix (IX.pk 1) (IX.b2 (O2.xor) (IX.pk 5) (IX.pk 4))) (IX.pk 7)) (IX.pk 6))) (IX.nil)))) (IS.app 3 (IX.tup (IX.cons (IX.var 4) (IX.cons (IX.var 7) (IX.nil))))) (IS.skip)))) (IS.ret (IX.bi (Bi.tuple) (IX.cons (IX.pk 3) (IX.nil)))))))
def di_keys_for : DefI := ⟨["bits", "box", "pairs"], cc_keys_for, ir_keys_for⟩
def dd_keys_for : He.DefD := ⟨("keys_for", none), "keys_for", "keys_for", defArgs (top 22), defBody (top 22), defScope (top 22), [], []⟩
def ir_by_gap : IS := IS.seq (IS.ex (IX.call 0 2 (IX.argV 0 (IX.argV 1 (IX.nil))))) (IS.seq (IS.forS [] (IX.seq (IX.b2 (O2.add) (IX.pk 2) (IX.pk 3))) (Tg.nm 4) (IS.ex (IX.call 13 2 (IX.argV 0 (IX.argV 4 (IX.nil)))))) (IS.seq (IS.asg (Tg.nm 5) (IX.b2 (O2.xor) (IX.ix (IX.pk 2) (IX.c (PyData.int 1))) (IX.ix (IX.pk 3) (IX.c (PyData.int 1))))) (IS.ret (IX.bi (Bi.tuple) (IX.cons (IX.lc (IX.rng1 (IX.cons (IX.bi (Bi.len) (IX.cons (IX.pk 1) (IX.nil))) (IX.nil))) (Tg.nm 6) [6] (IX.tev (IX.b2 (O2.eq) (IX.b2 (O2.xor) (IX.ix (IX.pk 1) (IX.b2 (O2.xor) (IX.ix (IX.pk 2) (IX.c (PyData.int 0))) (IX.pk 6))) (IX.ix (IX.pk 1) (IX.b2 (O2.xor) (IX.ix (IX.pk 3) (IX.c (PyData.int 0))) (IX.pk 6)))) (IX.pk 5))) (IX.var 6)) (IX.nil))))))
def di_by_gap : DefI := ⟨["bits", "box", "one", "other"], cc_by_gap, ir_by_gap⟩
def dd_by_gap : He.DefD := ⟨("by_gap", none), "by_gap", "by_gap", defArgs (top 23), defBody (top 23), defScope (top 23), [], []⟩
def ir_joined : IS := IS.seq (IS.ex (IX.call 0 2 (IX.argV 0 (IX.argV 1 (IX.nil))))) (IS.seq (IS.ex (IX.call 0 2 (IX.argV 0 (IX.argV 2 (IX.nil))))) (IS.ret (IX.bi (Bi.tuple) (IX.cons (IX.lc (IX.seq (IX.pk 1)) (Tg.nm 3) [3] (IX.tt) (IX.ix (IX.pk 2) (IX.pk 3))) (IX.nil)))))
def di_joined : DefI := ⟨["bits", "first", "second"], cc_joined, ir_joined⟩
def dd_joined : He.DefD := ⟨("joined", none), "joined", "joined", defArgs (top 24), defBody (top 24), defScope (top 24), [], []⟩
def ir_is_straight : IS := IS.seq (IS.ex (IX.call 0 2 (IX.argV 0 (IX.argV 1 (IX.nil))))) (IS.seq (IS.forS [] (IX.rng1 (IX.cons (IX.bi (Bi.len) (IX.cons (IX.pk 1) (IX.nil))) (IX.nil))) (Tg.nm 2) (IS.forS [] (IX.rng2 (IX.cons (IX.var 2) (IX.cons (IX.bi (Bi.len) (IX.cons (IX.pk 1) (IX.nil))) (IX.nil)))) (Tg.nm 3) (IS.ite (IX.tev (IX.b2 (O2.ne) (IX.ix (IX.pk 1) (IX.b2 (O2.xor) (IX.pk 2) (IX.pk 3))) (IX.b2 (O2.xor) (IX.b2 (O2.xor) (IX.ix (IX.pk 1) (IX.pk 2)) (IX.ix (IX.pk 1) (IX.pk 3))) (IX.ix (IX.pk 1) (IX.c (PyData.int 0)))))) (IS.ret (IX.tup (IX.cons (IX.var 2) (IX.cons (IX.var 3) (IX.nil))))) (IS.skip)))) (IS.ret (IX.c (PyData.none))))
def di_is_straight : DefI := ⟨["bits", "box"], cc_is_straight, ir_is_straight⟩
def dd_is_straight : He.DefD := ⟨("is_straight", none), "is_straight", "is_straight", defArgs (top 25), defBody (top 25), defScope (top 25), [], []⟩
def ir__law_begin : IS := IS.seq (IS.asg (Tg.nm 1) (IX.c (PyData.int 1))) (IS.seq (IS.forS [] (IX.scI 0) (Tg.nm 2) (IS.asg (Tg.nm 1) (IX.b2 (O2.mod) (IX.b2 (O2.add) (IX.b2 (O2.add) (IX.b2 (O2.mul) (IX.pk 1) (IX.c (PyData.int 69621))) (IX.b2 (O2.mod) (IX.bi (Bi.int) (IX.cons (IX.pk 2) (IX.nil))) (IX.c (PyData.int 2147483629)))) (IX.c (PyData.int 7))) (IX.c (PyData.int 2147483647))))) (IS.ret (IX.lst (IX.cons (IX.scL 0) (IX.cons (IX.c (PyData.int 0)) (IX.cons (IX.c (PyData.int 0)) (IX.cons (IX.var 1) (IX.nil))))))))
def di__law_begin : DefI := ⟨["script"], cc__law_begin, ir__law_begin⟩
def dd__law_begin : He.DefD := ⟨("_law_begin", none), "_law_begin", "_law_begin", defArgs (top 27), defBody (top 27), defScope (top 27), [], []⟩
def ir__law_take : IS := IS.seq (IS.ite (IX.tif (IX.tev (IX.b2 (O2.eq) (IX.dr 0 2) (IX.c (PyData.int 0)))) (IX.tev (IX.b2 (O2.lt) (IX.dr 0 1) (IX.bi (Bi.len) (IX.cons (IX.dr 0 0) (IX.nil))))) (IX.ff)) (IS.seq (IS.drSet 0 2 (IX.bi (Bi.abs) (IX.cons (IX.bi (Bi.int) (IX.cons (IX.ix (IX.dr 0 0) (IX.dr 0 1)) (IX.nil))) (IX.nil)))) (IS.seq (IS.drSet 0 1 (IX.b2 (O2.add) (IX.dr 0 1) (IX.c (PyData.int 1)))) (IS.ite (IX.tev (IX.b2 (O2.lt) (IX.dr 0 2) (IX.b2 (O2.pow) (IX.c (PyData.int 10)) (IX.c (PyData.int 18))))) (IS.seq (IS.asg (Tg.nm 3) (IX.bi (Bi.int) (IX.cons (IX.dr 0 2) (IX.nil)))) (IS.seq (IS.drSet 0 2 (IX.c (PyData.int 0))) (IS.ret (IX.b2 (O2.mod) (IX.pk 3) (IX.pk 1))))) (IS.skip)))) (IS.skip)) (IS.seq (IS.ite (IX.tev (IX.b2 (O2.gt) (IX.dr 0 2) (IX.c (PyData.int 0)))) (IS.seq (IS.asg (Tg.nm 2) (IX.b2 (O2.mod) (IX.bi (Bi.int) (IX.cons (IX.dr 0 2) (IX.nil))) (IX.pk 1))) (IS.seq (IS.drSet 0 2 (IX.b2 (O2.div) (IX.bi (Bi.int) (IX.cons (IX.dr 0 2) (IX.nil))) (IX.pk 1))) (IS.ret (IX.var 2)))) (IS.skip)) (IS.seq (IS.drSet 0 3 (IX.b2 (O2.mod) (IX.bi (Bi.int) (IX.cons (IX.b2 (O2.add) (IX.b2 (O2.mul) (IX.dr 0 3) (IX.c (PyData.int 48271))) (IX.c (PyData.int 11))) (IX.nil))) (IX.c (PyData.int 2147483647)))) (IS.ret (IX.b2 (O2.mod) (IX.bi (Bi.int) (IX.cons (IX.b2 (O2.div) (IX.dr 0 3) (IX.c (PyData.int 3))) (IX.nil))) (IX.pk 1)))))
def di__law_take : DefI := ⟨["d", "many"], cc__law_take, ir__law_take⟩
def dd__law_take : He.DefD := ⟨("_law_take", none), "_law_take", "_law_take", defArgs (top 28), defBody (top 28), defScope (top 28), [], []⟩
def ir__law_xor : IS := IS.seq (IS.asg (Tg.nm 2) (IX.c (PyData.int 0))) (IS.seq (IS.asg (Tg.nm 3) (IX.c (PyData.int 1))) (IS.seq (IS.forS [] (IX.rng1 (IX.cons (IX.c (PyData.int 6)) (IX.nil))) (Tg.nm 4) (IS.seq (IS.asg (Tg.nm 2) (IX.b2 (O2.add) (IX.pk 2) (IX.b2 (O2.mul) (IX.pk 3) (IX.bi (Bi.int) (IX.cons (IX.b2 (O2.ne) (IX.b2 (O2.mod) (IX.bi (Bi.int) (IX.cons (IX.b2 (O2.div) (IX.pk 0) (IX.pk 3)) (IX.nil))) (IX.c (PyData.int 2))) (IX.b2 (O2.mod) (IX.bi (Bi.int) (IX.cons (IX.b2 (O2.div) (IX.pk 1) (IX.pk 3)) (IX.nil))) (IX.c (PyData.int 2)))) (IX.nil)))))) (IS.asg (Tg.nm 3) (IX.b2 (O2.mul) (IX.c (PyData.int 2)) (IX.pk 3))))) (IS.ret (IX.var 2))))
def di__law_xor : DefI := ⟨["one", "other"], cc__law_xor, ir__law_xor⟩
def dd__law_xor : He.DefD := ⟨("_law_xor", none), "_law_xor", "_law_xor", defArgs (top 30), defBody (top 30), defScope (top 30), [], []⟩
def ir__law_and : IS := IS.seq (IS.asg (Tg.nm 2) (IX.c (PyData.int 0))) (IS.seq (IS.asg (Tg.nm 3) (IX.c (PyData.int 1))) (IS.seq (IS.forS [] (IX.rng1 (IX.cons (IX.c (PyData.int 6)) (IX.nil))) (Tg.nm 4) (IS.seq (IS.asg (Tg.nm 2) (IX.b2 (O2.add) (IX.pk 2) (IX.b2 (O2.mul) (IX.pk 3) (IX.bi (Bi.int) (IX.cons (IX.andV (IX.b2 (O2.eq) (IX.b2 (O2.mod) (IX.bi (Bi.int) (IX.cons (IX.b2 (O2.div) (IX.pk 0) (IX.pk 3)) (IX.nil))) (IX.c (PyData.int 2))) (IX.c (PyData.int 1))) (IX.b2 (O2.eq) (IX.b2 (O2.mod) (IX.bi (Bi.int) (IX.cons (IX.b2 (O2.div) (IX.pk 1) (IX.pk 3)) (IX.nil))) (IX.c (PyData.int 2))) (IX.c (PyData.int 1)))) (IX.nil)))))) (IS.asg (Tg.nm 3) (IX.b2 (O2.mul) (IX.c (PyData.int 2)) (IX.pk 3))))) (IS.ret (IX.var 2))))
def di__law_and : DefI := ⟨["one", "other"], cc__law_and, ir__law_and⟩
def dd__law_and : He.DefD := ⟨("_law_and", none), "_law_and", "_law_and", defArgs (top 31), defBody (top 31), defScope (top 31), [], []⟩
def ir__law_ones : IS := IS.ret (IX.bi (Bi.len) (IX.cons (IX.lc (IX.rng1 (IX.cons (IX.c (PyData.int 6)) (IX.nil))) (Tg.nm 1) [1] (IX.tev (IX.b2 (O2.eq) (IX.b2 (O2.mod) (IX.bi (Bi.int) (IX.cons (IX.b2 (O2.div) (IX.pk 0) (IX.ix (IX.lst (IX.cons (IX.c (PyData.int 1)) (IX.cons (IX.c (PyData.int 2)) (IX.cons (IX.c (PyData.int 4)) (IX.cons (IX.c (PyData.int 8)) (IX.cons (IX.c (PyData.int 16)) (IX.cons (IX.c (PyData.int 32)) (IX.nil)))))))) (IX.pk 1))) (IX.nil))) (IX.c (PyData.int 2))) (IX.c (PyData.int 1)))) (IX.var 1)) (IX.nil)))
def di__law_ones : DefI := ⟨["number"], cc__law_ones, ir__law_ones⟩
def dd__law_ones : He.DefD := ⟨("_law_ones", none), "_law_ones", "_law_ones", defArgs (top 32), defBody (top 32), defScope (top 32), [], []⟩
def ir__law_box : IS := IS.seq (IS.ite (IX.tev (IX.b2 (O2.eq) (IX.call 23 2 (IX.argV 0 (IX.argC (IX.c (PyData.int 2)) (IX.nil)))) (IX.c (PyData.int 0)))) (IS.ret (IX.bi (Bi.tuple) (IX.cons (IX.lc (IX.rng1 (IX.cons (IX.var 1) (IX.nil))) (Tg.nm 4) [4] (IX.tt) (IX.call 23 2 (IX.argV 0 (IX.argV 1 (IX.nil))))) (IX.nil)))) (IS.skip)) (IS.seq (IS.asgO 2 (IX.listRg (IX.cons (IX.var 1) (IX.nil)))) (IS.seq (IS.asgO 3 (IX.lst (IX.nil))) (IS.seq (IS.whl 100000 (IX.tev (IX.b2 (O2.gt) (IX.bi (Bi.len) (IX.cons (IX.pk 2) (IX.nil))) (IX.c (PyData.int 0)))) (IS.appPop 3 2 (IX.call 23 2 (IX.argV 0 (IX.argC (IX.bi (Bi.len) (IX.cons (IX.pk 2) (IX.nil))) (IX.nil)))))) (IS.ret (IX.bi (Bi.tuple) (IX.cons (IX.pk 3) (IX.nil)))))))
def di__law_box : DefI := ⟨["d", "size"], cc__law_box, ir__law_box⟩
def dd__law_box : He.DefD := ⟨("_law_box", none), "_law_box", "_law_box", defArgs (top 33), defBody (top 33), defScope (top 33), [], []⟩
def ir__law_wrong : IS := IS.seq (IS.asg (Tg.nm 0) (IX.tup (IX.cons (IX.c (PyData.int 0)) (IX.cons (IX.c (PyData.int 1)) (IX.nil))))) (IS.seq (IS.forS [] (IX.seq (IX.lst (IX.cons (IX.tup (IX.cons (IX.c (PyData.int 0)) (IX.cons (IX.tup (IX.cons (IX.c (PyData.int 0)) (IX.nil))) (IX.cons (IX.c (PyData.str { cps := #[98, 105, 116, 115] })) (IX.nil))))) (IX.cons (IX.tup (IX.cons (IX.c (PyData.int 7)) (IX.cons (IX.tup (IX.cons (IX.c (PyData.int 0)) (IX.nil))) (IX.cons (IX.c (PyData.str { cps := #[98, 105, 116, 115] })) (IX.nil))))) (IX.cons (IX.tup (IX.cons (IX.c (PyData.int 1)) (IX.cons (IX.tup (IX.cons (IX.c (PyData.int 0)) (IX.nil))) (IX.cons (IX.c (PyData.str { cps := #[98, 111, 120] })) (IX.nil))))) (IX.cons (IX.tup (IX.cons (IX.c (PyData.int 1)) (IX.cons (IX.tup (IX.cons (IX.c (PyData.int 0)) (IX.cons (IX.c (PyData.int 2)) (IX.nil)))) (IX.cons (IX.c (PyData.str { cps := #[98, 111, 120] })) (IX.nil))))) (IX.cons (IX.tup (IX.cons (IX.c (PyData.int 1)) (IX.cons (IX.tup (IX.cons (IX.neg (IX.c (PyData.int 1))) (IX.cons (IX.c (PyData.int 0)) (IX.nil)))) (IX.cons (IX.c (PyData.str { cps := #[98, 111, 120] })) (IX.nil))))) (IX.nil)))))))) (Tg.tup (Tg.tcons (Tg.nm 1) (Tg.tcons (Tg.nm 2) (Tg.tcons (Tg.nm 3) (Tg.tnil))))) (IS.ite (IX.tif (IX.tev (IX.b2 (O2.ne) (IX.told (IX.call 5 2 (IX.argV 1 (IX.argV 2 (IX.nil))))) (IX.pk 3))) (IX.tt) (IX.tif (IX.tev (IX.b2 (O2.ne) (IX.told (IX.call 3 2 (IX.argV 1 (IX.argV 2 (IX.nil))))) (IX.pk 3))) (IX.tt) (IX.tev (IX.b2 (O2.ne) (IX.told (IX.call 10 2 (IX.argV 1 (IX.argV 2 (IX.nil))))) (IX.pk 3))))) (IS.ret (IX.c (PyData.bool false))) (IS.skip))) (IS.seq (IS.ite (IX.tif (IX.tev (IX.b2 (O2.ne) (IX.told (IX.call 4 2 (IX.argC (IX.c (PyData.int 1)) (IX.argC (IX.tup (IX.cons (IX.c (PyData.int 0)) (IX.cons (IX.c (PyData.int 0)) (IX.nil)))) (IX.nil))))) (IX.c (PyData.str { cps := #[111, 114, 100, 101, 114] })))) (IX.tt) (IX.tif (IX.tev (IX.b2 (O2.ne) (IX.told (IX.call 14 5 (IX.argC (IX.c (PyData.int 1)) (IX.argC (IX.tup (IX.cons (IX.var 0) (IX.nil))) (IX.argC (IX.tup (IX.nil)) (IX.argC (IX.c (PyData.int 0)) (IX.argC (IX.c (PyData.int 0)) (IX.nil)))))))) (IX.c (PyData.str { cps := #[114, 111, 117, 110, 100, 115] })))) (IX.tt) (IX.tif (IX.tev (IX.b2 (O2.ne) (IX.told (IX.call 14 5 (IX.argC (IX.c (PyData.int 1)) (IX.argC (IX.tup (IX.cons (IX.var 0) (IX.nil))) (IX.argC (IX.tup (IX.cons (IX.c (PyData.int 2)) (IX.nil))) (IX.argC (IX.c (PyData.int 0)) (IX.argC (IX.c (PyData.int 0)) (IX.nil)))))))) (IX.c (PyData.str { cps := #[110, 117, 109, 98, 101, 114] })))) (IX.tt) (IX.tev (IX.b2 (O2.ne) (IX.told (IX.call 14 5 (IX.argC (IX.c (PyData.int 1)) (IX.argC (IX.tup (IX.nil)) (IX.argC (IX.tup (IX.nil)) (IX.argC (IX.c (PyData.int 2)) (IX.argC (IX.c (PyData.int 0)) (IX.nil)))))))) (IX.c (PyData.str { cps := #[110, 117, 109, 98, 101, 114] }))))))) (IS.ret (IX.c (PyData.bool false))) (IS.skip)) (IS.seq (IS.ite (IX.tif (IX.tev (IX.b2 (O2.ne) (IX.told (IX.call 16 3 (IX.argC (IX.c (PyData.int 4)) (IX.argC (IX.tup (IX.nil)) (IX.argC (IX.tup (IX.nil)) (IX.nil)))))) (IX.c (PyData.str { cps := #[98, 105, 116, 115] })))) (IX.tt) (IX.tif (IX.tev (IX.b2 (O2.ne) (IX.told (IX.call 17 4 (IX.argC (IX.c (PyData.int 1)) (IX.argV 0 (IX.argC (IX.c (PyData.int 2)) (IX.argC (IX.c (PyData.int 0)) (IX.nil))))))) (IX.c (PyData.str { cps := #[110, 117, 109, 98, 101, 114] })))) (IX.tt) (IX.tif (IX.tev (IX.b2 (O2.ne) (IX.told (IX.call 18 3 (IX.argC (IX.c (PyData.int 1)) (IX.argV 0 (IX.argC (IX.tup (IX.cons (IX.tup (IX.cons (IX.c (PyData.int 0)) (IX.cons (IX.c (PyData.int 2)) (IX.nil)))) (IX.nil))) (IX.nil)))))) (IX.c (PyData.str { cps := #[110, 117, 109, 98, 101, 114] })))) (IX.tt) (IX.tev (IX.b2 (O2.ne) (IX.told (IX.call 19 4 (IX.argC (IX.c (PyData.int 1)) (IX.argV 0 (IX.argC (IX.tup (IX.cons (IX.c (PyData.int 0)) (IX.cons (IX.c (PyData.int 0)) (IX.nil)))) (IX.argC (IX.tup (IX.cons (IX.c (PyData.int 2)) (IX.cons (IX.c (PyData.int 0)) (IX.nil)))) (IX.nil))))))) (IX.c (PyData.str { cps := #[110, 117, 109, 98, 101, 114] }))))))) (IS.ret (IX.c (PyData.bool false))) (IS.skip)) (IS.ret (IX.andV (IX.b2 (O2.eq) (IX.call 14 5 (IX.argC (IX.c (PyData.int 1)) (IX.argC (IX.tup (IX.nil)) (IX.argC (IX.tup (IX.nil)) (IX.argC (IX.c (PyData.int 0)) (IX.argC (IX.c (PyData.int 1)) (IX.nil))))))) (IX.tup (IX.cons (IX.c (PyData.int 0)) (IX.cons (IX.c (PyData.int 1)) (IX.nil))))) (IX.andV (IX.b2 (O2.eq) (IX.call 11 2 (IX.argC (IX.c (PyData.int 1)) (IX.argC (IX.tup (IX.cons (IX.c (PyData.int 0)) (IX.cons (IX.c (PyData.int 0)) (IX.nil)))) (IX.nil)))) (IX.c (PyData.int 0))) (IX.andV (IX.b2 (O2.eq) (IX.call 10 2 (IX.argC (IX.c (PyData.int 1)) (IX.argC (IX.tup (IX.cons (IX.c (PyData.int 1)) (IX.cons (IX.c (PyData.int 1)) (IX.nil)))) (IX.nil)))) (IX.tup (IX.cons (IX.tup (IX.cons (IX.c (PyData.int 0)) (IX.nil))) (IX.nil)))) (IX.b2 (O2.eq) (IX.call 16 3 (IX.argC (IX.c (PyData.int 1)) (IX.argC (IX.tup (IX.nil)) (IX.argC (IX.tup (IX.nil)) (IX.nil))))) (IX.tup (IX.cons (IX.c (PyData.int 0)) (IX.cons (IX.c (PyData.int 1)) (IX.cons (IX.c (PyData.int 2)) (IX.cons (IX.c (PyData.int 3)) (IX.nil))))))))))))))
def di__law_wrong : DefI := ⟨[], cc__law_wrong, ir__law_wrong⟩
def dd__law_wrong : He.DefD := ⟨("_law_wrong", none), "_law_wrong", "_law_wrong", defArgs (top 34), defBody (top 34), defScope (top 34), [], []⟩
def ir__law_part1 : IS := IS.seq (IS.asg (Tg.nm 6) (IX.lst (IX.cons (IX.c (PyData.int 0)) (IX.nil)))) (IS.seq (IS.forS [5] (IX.seq (IX.pk 5)) (Tg.nm 7) (IS.asg (Tg.nm 6) (IX.b2 (O2.add) (IX.pk 6) (IX.lc (IX.seq (IX.pk 7)) (Tg.nm 25) [25] (IX.tt) (IX.call 27 1 (IX.argV 25 (IX.nil))))))) (IS.seq (IS.ite (IX.tev (IX.b2 (O2.ne) (IX.call 11 2 (IX.argV 1 (IX.argV 3 (IX.nil)))) (IX.bi (Bi.max) (IX.cons (IX.pk 6) (IX.nil))))) (IS.ret (IX.c (PyData.bool false))) (IS.skip)) (IS.seq (IS.asg (Tg.nm 8) (IX.lst (IX.nil))) (IS.seq (IS.forS [] (IX.rng1 (IX.cons (IX.var 2) (IX.nil))) (Tg.nm 9) (IS.asg (Tg.nm 8) (IX.b2 (O2.add) (IX.pk 8) (IX.lc (IX.rng2 (IX.cons (IX.var 9) (IX.cons (IX.var 2) (IX.nil)))) (Tg.nm 26) [26] (IX.tev (IX.b2 (O2.ne) (IX.ix (IX.pk 3) (IX.call 25 2 (IX.argV 9 (IX.argV 26 (IX.nil))))) (IX.call 25 2 (IX.argC (IX.call 25 2 (IX.argC (IX.ix (IX.pk 3) (IX.pk 9)) (IX.argC (IX.ix (IX.pk 3) (IX.pk 26)) (IX.nil)))) (IX.argC (IX.ix (IX.pk 3) (IX.c (PyData.int 0))) (IX.nil)))))) (IX.tup (IX.cons (IX.var 9) (IX.cons (IX.var 26) (IX.nil)))))))) (IS.seq (IS.ite (IX.tif (IX.tev (IX.b2 (O2.ne) (IX.call 21 2 (IX.argV 1 (IX.argV 3 (IX.nil)))) (IX.ife (IX.tev (IX.b2 (O2.gt) (IX.bi (Bi.len) (IX.cons (IX.pk 8) (IX.nil))) (IX.c (PyData.int 0)))) (IX.ix (IX.pk 8) (IX.c (PyData.int 0))) (IX.c (PyData.none))))) (IX.tt) (IX.tev (IX.b2 (O2.ne) (IX.b2 (O2.eq) (IX.bi (Bi.len) (IX.cons (IX.pk 8) (IX.nil))) (IX.c (PyData.int 0))) (IX.b2 (O2.lt) (IX.call 11 2 (IX.argV 1 (IX.argV 3 (IX.nil)))) (IX.c (PyData.int 2)))))) (IS.ret (IX.c (PyData.bool false))) (IS.skip)) (IS.seq (IS.asg (Tg.nm 10) (IX.bi (Bi.tuple) (IX.cons (IX.lc (IX.rng1 (IX.cons (IX.call 23 2 (IX.argV 0 (IX.argC (IX.c (PyData.int 4)) (IX.nil)))) (IX.nil))) (Tg.nm 15) [15] (IX.tt) (IX.call 28 2 (IX.argV 0 (IX.argV 2 (IX.nil))))) (IX.nil)))) (IS.seq (IS.asg (Tg.nm 11) (IX.bi (Bi.tuple) (IX.cons (IX.lc (IX.seq (IX.pk 10)) (Tg.nm 9) [9] (IX.tt) (IX.call 23 2 (IX.argV 0 (IX.argV 2 (IX.nil))))) (IX.nil)))) (IS.seq (IS.asg (Tg.nm 12) (IX.call 23 2 (IX.argV 0 (IX.argV 2 (IX.nil))))) (IS.seq (IS.asg (Tg.nm 13) (IX.call 23 2 (IX.argV 0 (IX.argV 2 (IX.nil))))) (IS.seq (IS.asg (Tg.nm 14) (IX.tup (IX.cons (IX.var 12) (IX.cons (IX.var 13) (IX.nil))))) (IS.seq (IS.forS [] (IX.rng1 (IX.cons (IX.bi (Bi.len) (IX.cons (IX.pk 10) (IX.nil))) (IX.nil))) (Tg.nm 15) (IS.asg (Tg.nm 14) (IX.tup (IX.cons (IX.ix (IX.pk 14) (IX.c (PyData.int 1))) (IX.cons (IX.call 25 2 (IX.argC (IX.ix (IX.pk 14) (IX.c (PyData.int 0))) (IX.argC (IX.ix (IX.ix (IX.pk 10) (IX.pk 15)) (IX.call 25 2 (IX.argC (IX.ix (IX.pk 14) (IX.c (PyData.int 1))) (IX.argC (IX.ix (IX.pk 11) (IX.pk 15)) (IX.nil))))) (IX.nil)))) (IX.nil)))))) (IS.seq (IS.ite (IX.tif (IX.tev (IX.b2 (O2.ne) (IX.call 14 5 (IX.argV 1 (IX.argV 10 (IX.argV 11 (IX.argV 12 (IX.argV 13 (IX.nil))))))) (IX.pk 14))) (IX.tt) (IX.tev (IX.b2 (O2.ne) (IX.call 15 5 (IX.argV 1 (IX.argV 10 (IX.argV 11 (IX.argC (IX.ix (IX.pk 14) (IX.c (PyData.int 0))) (IX.argC (IX.ix (IX.pk 14) (IX.c (PyData.int 1))) (IX.nil))))))) (IX.tup (IX.cons (IX.var 12) (IX.cons (IX.var 13) (IX.nil))))))) (IS.ret (IX.c (PyData.bool false))) (IS.skip)) (IS.seq (IS.asg (Tg.nm 16) (IX.call 16 3 (IX.argV 1 (IX.argV 10 (IX.argV 11 (IX.nil)))))) (IS.seq (IS.ite (IX.tif (IX.tev (IX.b2 (O2.ne) (IX.ix (IX.pk 16) (IX.b2 (O2.add) (IX.b2 (O2.mul) (IX.pk 12) (IX.pk 2)) (IX.pk 13))) (IX.b2 (O2.add) (IX.b2 (O2.mul) (IX.ix (IX.pk 14) (IX.c (PyData.int 0))) (IX.pk 2)) (IX.ix (IX.pk 14) (IX.c (PyData.int 1)))))) (IX.tt) (IX.tev (IX.b2 (O2.ne) (IX.bi (Bi.sorted) (IX.cons (IX.pk 16) (IX.nil))) (IX.listRg (IX.cons (IX.b2 (O2.mul) (IX.pk 2) (IX.pk 2)) (IX.nil)))))) (IS.ret (IX.c (PyData.bool false))) (IS.skip)) (IS.seq (IS.asg (Tg.nm 17) (IX.call 23 2 (IX.argV 0 (IX.argV 2 (IX.nil))))) (IS.seq (IS.asg (Tg.nm 18) (IX.call 23 2 (IX.argV 0 (IX.argV 2 (IX.nil))))) (IS.seq (IS.asg (Tg.nm 19) (IX.call 17 4 (IX.argV 1 (IX.argV 3 (IX.argV 17 (IX.argV 18 (IX.nil))))))) (IS.seq (IS.ite (IX.tif (IX.tev (IX.b2 (O2.ne) (IX.pk 19) (IX.bi (Bi.tuple) (IX.cons (IX.lc (IX.rng1 (IX.cons (IX.var 2) (IX.nil))) (Tg.nm 9) [9] (IX.tt) (IX.call 25 2 (IX.argC (IX.ix (IX.pk 3) (IX.call 25 2 (IX.argV 9 (IX.argV 17 (IX.nil))))) (IX.argV 18 (IX.nil))))) (IX.nil))))) (IX.tt) (IX.tev (IX.b2 (O2.ne) (IX.call 5 2 (IX.argV 1 (IX.argV 19 (IX.nil)))) (IX.bi (Bi.tuple) (IX.cons (IX.pk 4) (IX.nil)))))) (IS.ret (IX.c (PyData.bool false))) (IS.skip)) (IS.seq (IS.asg (Tg.nm 20) (IX.bi (Bi.tuple) (IX.cons (IX.lc (IX.rng1 (IX.cons (IX.var 2) (IX.nil))) (Tg.nm 9) [9] (IX.tev (IX.b2 (O2.eq) (IX.call 23 2 (IX.argV 0 (IX.argC (IX.c (PyData.int 2)) (IX.nil)))) (IX.c (PyData.int 0)))) (IX.tup (IX.cons (IX.var 9) (IX.cons (IX.ix (IX.pk 19) (IX.pk 9)) (IX.nil))))) (IX.nil)))) (IS.seq (IS.ite (IX.tev (IX.b2 (O2.eq) (IX.call 23 2 (IX.argV 0 (IX.argC (IX.c (PyData.int 3)) (IX.nil)))) (IX.c (PyData.int 0)))) (IS.asg (Tg.nm 20) (IX.b2 (O2.add) (IX.pk 20) (IX.tup (IX.cons (IX.tup (IX.cons (IX.call 23 2 (IX.argV 0 (IX.argV 2 (IX.nil)))) (IX.cons (IX.call 23 2 (IX.argV 0 (IX.argV 2 (IX.nil)))) (IX.nil)))) (IX.nil))))) (IS.skip)) (IS.seq (IS.asg (Tg.nm 21) (IX.lst (IX.nil))) (IS.seq (IS.forS [] (IX.rng1 (IX.cons (IX.var 2) (IX.nil))) (Tg.nm 22) (IS.asg (Tg.nm 21) (IX.b2 (O2.add) (IX.pk 21) (IX.lc (IX.rng1 (IX.cons (IX.var 2) (IX.nil))) (Tg.nm 27) [27] (IX.tev (IX.b2 (O2.eq) (IX.bi (Bi.len) (IX.cons (IX.lc (IX.seq (IX.pk 20)) (Tg.tup (Tg.tcons (Tg.nm 9) (Tg.tcons (Tg.nm 26) (Tg.tnil)))) [9, 26] (IX.tev (IX.b2 (O2.ne) (IX.call 25 2 (IX.argC (IX.ix (IX.pk 3) (IX.call 25 2 (IX.argV 9 (IX.argV 22 (IX.nil))))) (IX.argV 27 (IX.nil)))) (IX.pk 26))) (IX.c (PyData.int 1))) (IX.nil))) (IX.c (PyData.int 0)))) (IX.tup (IX.cons (IX.var 22) (IX.cons (IX.var 27) (IX.nil)))))))) (IS.seq (IS.ite (IX.tev (IX.b2 (O2.ne) (IX.call 18 3 (IX.argV 1 (IX.argV 3 (IX.argV 20 (IX.nil))))) (IX.bi (Bi.tuple) (IX.cons (IX.pk 21) (IX.nil))))) (IS.ret (IX.c (PyData.bool false))) (IS.skip)) (IS.seq (IS.asg (Tg.nm 9) (IX.tup (IX.cons (IX.call 23 2 (IX.argV 0 (IX.argV 2 (IX.nil)))) (IX.cons (IX.call 23 2 (IX.argV 0 (IX.argV 2 (IX.nil)))) (IX.nil))))) (IS.seq (IS.asg (Tg.nm 23) (IX.tup (IX.cons (IX.call 23 2 (IX.argV 0 (IX.argV 2 (IX.nil)))) (IX.cons (IX.call 23 2 (IX.argV 0 (IX.argV 2 (IX.nil)))) (IX.nil))))) (IS.seq (IS.asg (Tg.nm 24) (IX.call 19 4 (IX.argV 1 (IX.argV 3 (IX.argV 9 (IX.argV 23 (IX.nil))))))) (IS.seq (IS.ite (IX.tev (IX.b2 (O2.ne) (IX.pk 24) (IX.bi (Bi.tuple) (IX.cons (IX.lc (IX.rng1 (IX.cons (IX.var 2) (IX.nil))) (Tg.nm 22) [22] (IX.tev (IX.b2 (O2.eq) (IX.call 25 2 (IX.argC (IX.ix (IX.pk 3) (IX.call 25 2 (IX.argC (IX.ix (IX.pk 9) (IX.c (PyData.int 0))) (IX.argV 22 (IX.nil))))) (IX.argC (IX.ix (IX.pk 3) (IX.call 25 2 (IX.argC (IX.ix (IX.pk 23) (IX.c (PyData.int 0))) (IX.argV 22 (IX.nil))))) (IX.nil)))) (IX.call 25 2 (IX.argC (IX.ix (IX.pk 9) (IX.c (PyData.int 1))) (IX.argC (IX.ix (IX.pk 23) (IX.c (PyData.int 1))) (IX.nil)))))) (IX.var 22)) (IX.nil))))) (IS.ret (IX.c (PyData.bool false))) (IS.skip)) (IS.ret (IX.andV (IX.b2 (O2.eq) (IX.bi (Bi.tuple) (IX.cons (IX.bi (Bi.sset) (IX.cons (IX.lc (IX.seq (IX.call 18 3 (IX.argV 1 (IX.argV 3 (IX.argC (IX.tup (IX.cons (IX.var 9) (IX.cons (IX.var 23) (IX.nil)))) (IX.nil)))))) (Tg.tup (Tg.tcons (Tg.nm 22) (Tg.tcons (Tg.nm 27) (Tg.tnil)))) [22, 27] (IX.tt) (IX.var 22)) (IX.nil))) (IX.nil))) (IX.pk 24)) (IX.call 29 0 (IX.nil)))))))))))))))))))))))))))))))
def di__law_part1 : DefI := ⟨["d", "bits", "size", "box", "table", "told"], cc__law_part1, ir__law_part1⟩
def dd__law_part1 : He.DefD := ⟨("_law_part1", none), "_law_part1", "_law_part1", defArgs (top 35), defBody (top 35), defScope (top 35), [], []⟩
def ir_law : IS := IS.seq (IS.asg (Tg.nm 2) (IX.b2 (O2.add) (IX.c (PyData.int 1)) (IX.call 23 2 (IX.argV 1 (IX.argC (IX.c (PyData.int 3)) (IX.nil)))))) (IS.seq (IS.asg (Tg.nm 3) (IX.ix (IX.lst (IX.cons (IX.c (PyData.int 2)) (IX.cons (IX.c (PyData.int 4)) (IX.cons (IX.c (PyData.int 8)) (IX.nil))))) (IX.b2 (O2.sub) (IX.pk 2) (IX.c (PyData.int 1))))) (IS.seq (IS.asg (Tg.nm 4) (IX.call 28 2 (IX.argV 1 (IX.argV 3 (IX.nil))))) (IS.seq (IS.asg (Tg.nm 5) (IX.lst (IX.nil))) (IS.seq (IS.forS [] (IX.rng1 (IX.cons (IX.var 3) (IX.nil))) (Tg.nm 6) (IS.asg (Tg.nm 5) (IX.b2 (O2.add) (IX.pk 5) (IX.lc (IX.rng2 (IX.cons (IX.b2 (O2.add) (IX.pk 6) (IX.c (PyData.int 1))) (IX.cons (IX.var 3) (IX.nil)))) (Tg.nm 20) [20] (IX.tev (IX.b2 (O2.eq) (IX.ix (IX.pk 4) (IX.pk 6)) (IX.ix (IX.pk 4) (IX.pk 20)))) (IX.tup (IX.cons (IX.var 6) (IX.cons (IX.var 20) (IX.nil)))))))) (IS.seq (IS.ite (IX.tev (IX.b2 (O2.ne) (IX.call 3 2 (IX.argV 2 (IX.argV 4 (IX.nil)))) (IX.ife (IX.tev (IX.b2 (O2.gt) (IX.bi (Bi.len) (IX.cons (IX.pk 5) (IX.nil))) (IX.c (PyData.int 0)))) (IX.ix (IX.pk 5) (IX.c (PyData.int 0))) (IX.c (PyData.none))))) (IS.ret (IX.c (PyData.bool false))) (IS.skip)) (IS.seq (IS.ite (IX.tev (IX.b2 (O2.eq) (IX.bi (Bi.len) (IX.cons (IX.pk 5) (IX.nil))) (IX.c (PyData.int 0)))) (IS.seq (IS.asg (Tg.nm 14) (IX.call 4 2 (IX.argV 2 (IX.argV 4 (IX.nil))))) (IS.ite (IX.tif (IX.tev (IX.b2 (O2.ne) (IX.call 20 3 (IX.argV 2 (IX.argV 4 (IX.argV 14 (IX.nil))))) (IX.tupRg (IX.cons (IX.var 3) (IX.nil))))) (IX.tt) (IX.tev (IX.b2 (O2.ne) (IX.call 5 2 (IX.argV 2 (IX.argV 14 (IX.nil)))) (IX.bi (Bi.tuple) (IX.cons (IX.lc (IX.rng1 (IX.cons (IX.var 3) (IX.nil))) (Tg.nm 23) [23] (IX.tt) (IX.bi (Bi.tuple) (IX.cons (IX.lc (IX.rng1 (IX.cons (IX.var 3) (IX.nil))) (Tg.nm 24) [24] (IX.tt) (IX.ix (IX.ix (IX.call 5 2 (IX.argV 2 (IX.argV 4 (IX.nil)))) (IX.pk 24)) (IX.pk 23))) (IX.nil)))) (IX.nil)))))) (IS.ret (IX.c (PyData.bool false))) (IS.skip))) (IS.skip)) (IS.seq (IS.asgO 7 (IX.lst (IX.nil))) (IS.seq (IS.forS [] (IX.rng1 (IX.cons (IX.var 3) (IX.nil))) (Tg.nm 8) (IS.app 7 (IX.bi (Bi.tuple) (IX.cons (IX.lc (IX.rng1 (IX.cons (IX.var 3) (IX.nil))) (Tg.nm 21) [21] (IX.tt) (IX.bi (Bi.len) (IX.cons (IX.lc (IX.rng1 (IX.cons (IX.var 3) (IX.nil))) (Tg.nm 6) [6] (IX.tev (IX.b2 (O2.eq) (IX.call 25 2 (IX.argC (IX.ix (IX.pk 4) (IX.pk 6)) (IX.argC (IX.ix (IX.pk 4) (IX.call 25 2 (IX.argV 6 (IX.argV 8 (IX.nil))))) (IX.nil)))) (IX.pk 21))) (IX.var 6)) (IX.nil)))) (IX.nil))))) (IS.seq (IS.ite (IX.tif (IX.tev (IX.b2 (O2.ne) (IX.call 5 2 (IX.argV 2 (IX.argV 4 (IX.nil)))) (IX.bi (Bi.tuple) (IX.cons (IX.pk 7) (IX.nil))))) (IX.tt) (IX.tev (IX.b2 (O2.ne) (IX.call 6 2 (IX.argV 2 (IX.argV 4 (IX.nil)))) (IX.bi (Bi.max) (IX.cons (IX.lc (IX.seq (IX.sl (IX.pk 7) (IX.tru (IX.c (PyData.int 1))) (IX.none))) (Tg.nm 19) [19] (IX.tt) (IX.bi (Bi.max) (IX.cons (IX.pk 19) (IX.nil)))) (IX.nil)))))) (IS.ret (IX.c (PyData.bool false))) (IS.skip)) (IS.seq (IS.ite (IX.tev (IX.b2 (O2.gt) (IX.bi (Bi.len) (IX.cons (IX.lc (IX.seq (IX.pk 7)) (Tg.nm 19) [19] (IX.tif (IX.tev (IX.b2 (O2.ne) (IX.bi (Bi.sum) (IX.cons (IX.pk 19) (IX.nil))) (IX.pk 3))) (IX.tt) (IX.tev (IX.b2 (O2.gt) (IX.bi (Bi.len) (IX.cons (IX.lc (IX.seq (IX.pk 19)) (Tg.nm 6) [6] (IX.tev (IX.b2 (O2.eq) (IX.b2 (O2.mod) (IX.bi (Bi.int) (IX.cons (IX.pk 6) (IX.nil))) (IX.c (PyData.int 2))) (IX.c (PyData.int 1)))) (IX.var 6)) (IX.nil))) (IX.c (PyData.int 0))))) (IX.var 19)) (IX.nil))) (IX.c (PyData.int 0)))) (IS.ret (IX.c (PyData.bool false))) (IS.skip)) (IS.seq (IS.asgO 9 (IX.lst (IX.nil))) (IS.seq (IS.forS [] (IX.rng1 (IX.cons (IX.var 3) (IX.nil))) (Tg.nm 10) (IS.seq (IS.asgO 15 (IX.lst (IX.nil))) (IS.seq (IS.forS [] (IX.rng1 (IX.cons (IX.var 3) (IX.nil))) (Tg.nm 12) (IS.seq (IS.asg (Tg.nm 17) (IX.bi (Bi.len) (IX.cons (IX.lc (IX.rng1 (IX.cons (IX.var 3) (IX.nil))) (Tg.nm 6) [6] (IX.tev (IX.b2 (O2.eq) (IX.b2 (O2.mod) (IX.bi (Bi.int) (IX.cons (IX.b2 (O2.add) (IX.call 27 1 (IX.argC (IX.call 26 2 (IX.argV 6 (IX.argV 10 (IX.nil)))) (IX.nil))) (IX.call 27 1 (IX.argC (IX.call 26 2 (IX.argC (IX.ix (IX.pk 4) (IX.pk 6)) (IX.argV 12 (IX.nil)))) (IX.nil)))) (IX.nil))) (IX.c (PyData.int 2))) (IX.c (PyData.int 0)))) (IX.var 6)) (IX.nil)))) (IS.app 15 (IX.b2 (O2.sub) (IX.b2 (O2.mul) (IX.c (PyData.int 2)) (IX.pk 17)) (IX.pk 3))))) (IS.app 9 (IX.bi (Bi.tuple) (IX.cons (IX.pk 15) (IX.nil))))))) (IS.seq (IS.asg (Tg.nm 11) (IX.bi (Bi.max) (IX.cons (IX.lc (IX.seq (IX.pk 9)) (Tg.nm 19) [19] (IX.tt) (IX.bi (Bi.max) (IX.cons (IX.lc (IX.seq (IX.sl (IX.pk 19) (IX.tru (IX.c (PyData.int 1))) (IX.none))) (Tg.nm 6) [6] (IX.tt) (IX.bi (Bi.abs) (IX.cons (IX.pk 6) (IX.nil)))) (IX.nil)))) (IX.nil)))) (IS.seq (IS.ite (IX.tif (IX.tev (IX.b2 (O2.ne) (IX.call 7 2 (IX.argV 2 (IX.argV 4 (IX.nil)))) (IX.bi (Bi.tuple) (IX.cons (IX.pk 9) (IX.nil))))) (IX.tt) (IX.tif (IX.tev (IX.b2 (O2.ne) (IX.call 8 2 (IX.argV 2 (IX.argV 4 (IX.nil)))) (IX.pk 11))) (IX.tt) (IX.tev (IX.b2 (O2.ne) (IX.call 9 2 (IX.argV 2 (IX.argV 4 (IX.nil)))) (IX.b2 (O2.div) (IX.b2 (O2.sub) (IX.pk 3) (IX.pk 11)) (IX.c (PyData.int 2))))))) (IS.ret (IX.c (PyData.bool false))) (IS.skip)) (IS.seq (IS.forS [] (IX.rng1 (IX.cons (IX.var 3) (IX.nil))) (Tg.nm 12) (IS.ite (IX.tev (IX.b2 (O2.ne) (IX.bi (Bi.sum) (IX.cons (IX.lc (IX.seq (IX.pk 9)) (Tg.nm 19) [19] (IX.tt) (IX.b2 (O2.mul) (IX.ix (IX.pk 19) (IX.pk 12)) (IX.ix (IX.pk 19) (IX.pk 12)))) (IX.nil))) (IX.b2 (O2.mul) (IX.pk 3) (IX.pk 3)))) (IS.ret (IX.c (PyData.bool false))) (IS.skip))) (IS.seq (IS.asg (Tg.nm 13) (IX.call 10 2 (IX.argV 2 (IX.argV 4 (IX.nil))))) (IS.seq (IS.forS [] (IX.rng1 (IX.cons (IX.var 3) (IX.nil))) (Tg.nm 6) (IS.forS [] (IX.rng1 (IX.cons (IX.var 2) (IX.nil))) (Tg.nm 16) (IS.seq (IS.asg (Tg.nm 18) (IX.bi (Bi.len) (IX.cons (IX.lc (IX.seq (IX.ix (IX.pk 13) (IX.pk 16))) (Tg.nm 22) [22] (IX.tev (IX.b2 (O2.eq) (IX.call 26 2 (IX.argV 22 (IX.argV 6 (IX.nil)))) (IX.pk 22))) (IX.var 22)) (IX.nil)))) (IS.ite (IX.tev (IX.b2 (O2.ne) (IX.b2 (O2.mod) (IX.bi (Bi.int) (IX.cons (IX.pk 18) (IX.nil))) (IX.c (PyData.int 2))) (IX.b2 (O2.mod) (IX.bi (Bi.int) (IX.cons (IX.b2 (O2.div) (IX.ix (IX.pk 4) (IX.pk 6)) (IX.ix (IX.lst (IX.cons (IX.c (PyData.int 1)) (IX.cons (IX.c (PyData.int 2)) (IX.cons (IX.c (PyData.int 4)) (IX.nil))))) (IX.pk 16))) (IX.nil))) (IX.c (PyData.int 2))))) (IS.ret (IX.c (PyData.bool false))) (IS.skip))))) (IS.seq (IS.ite (IX.tev (IX.b2 (O2.gt) (IX.bi (Bi.len) (IX.cons (IX.lc (IX.seq (IX.pk 13)) (Tg.nm 15) [15] (IX.tev (IX.b2 (O2.ne) (IX.bi (Bi.list) (IX.cons (IX.pk 15) (IX.nil))) (IX.bi (Bi.sset) (IX.cons (IX.pk 15) (IX.nil))))) (IX.c (PyData.int 1))) (IX.nil))) (IX.c (PyData.int 0)))) (IS.ret (IX.c (PyData.bool false))) (IS.skip)) (IS.ret (IX.call 30 6 (IX.argV 1 (IX.argV 2 (IX.argV 3 (IX.argV 4 (IX.argV 7 (IX.argV 13 (IX.nil)))))))))))))))))))))))))))
def di_law : DefI := ⟨["script"], cc_law, ir_law⟩
def dd_law : He.DefD := ⟨("law", none), "law", "law", defArgs (top 36), defBody (top 36), defScope (top 36), [], []⟩
def dd__law_told : He.DefD := ⟨("_law_told", none), "_law_told", "_law_told", defArgs (top 29), defBody (top 29), defScope (top 29), [], []⟩
def tab (i : Nat) : Option DefI := match i with
  | 0 => some di_check
  | 1 => some di_power_of
  | 2 => some di_odd
  | 3 => some di_is_order
  | 4 => some di_turned
  | 5 => some di_gaps
  | 6 => some di_most_gap
  | 7 => some di_masks
  | 8 => some di_most_mask
  | 9 => some di_far
  | 10 => some di_forms
  | 11 => some di_degree
  | 12 => some di_size_of
  | 13 => some di_check_half
  | 14 => some di_rounds
  | 15 => some di_back_rounds
  | 16 => some di_whole_box
  | 17 => some di_keyed
  | 18 => some di_keys_for
  | 19 => some di_by_gap
  | 20 => some di_joined
  | 21 => some di_is_straight
  | 22 => some di__law_begin
  | 23 => some di__law_take
  | 25 => some di__law_xor
  | 26 => some di__law_and
  | 27 => some di__law_ones
  | 28 => some di__law_box
  | 29 => some di__law_wrong
  | 30 => some di__law_part1
  | 31 => some di_law
  | _ => none
def sp (i : Nat) : Option Fn := none
abbrev FP (k : Nat) : Nat → Fn := FF tab sp k
end Row

set_option Elab.async false
set_option linter.all false
set_option maxRecDepth 100000
set_option maxHeartbeats 1000000
namespace Row
open PySem PySem.Spec PyProof.Rows L2 L2.DL
open Enc (enc)
variable [TabL]
local macro_rules | `(tactic| trivial) => `(tactic| (simp only [decide_eq_true_eq, decide_eq_false_iff_not, Bool.and_eq_true, Bool.or_eq_true, Bool.not_eq_true', Bool.not_eq_false', Bool.or_eq_false_iff, Bool.and_eq_false_iff, List.length_map, irange_len, List.length_append, List.length_cons, List.length_nil]; omega))
local macro_rules | `(tactic| trivial) => `(tactic| exact Nat.le_of_ble_eq_true rfl)
local macro_rules | `(tactic| trivial) => `(tactic| omega)
local macro_rules | `(tactic| trivial) => `(tactic| assumption)
theorem FP_run {n i : Nat} {d : DefI} (h : tab i = some d) (hn : 1 ≤ n) : FP n i = run1 (FP (n - 1)) d := by
  obtain ⟨k, rfl⟩ : ∃ k, n = k + 1 := ⟨n - 1, by omega⟩
  show FF tab sp (k + 1) i = _
  rw [FF, h]
  rfl
variable {n : Nat} {s : Dr}
theorem power_of (hn : 1 ≤ n) {k g : Nat} (hk : k ≤ 20) (hg : 2 ^ k = g) : FP n 1 [.val (.int (k : Int))] s = .ok (.int g, s) := by
  rw [FP_run (d := di_power_of) rfl (by omega)]
  apply Wp.eq
  show Wp (evS' (FP (n - 1)) ir_power_of _ _ _ [.val (.int (k : Int)), .no, .no] s) _
  unfold ir_power_of
  simp (disch := trivial)
  refine for_inv (fun pre post env s' => s' = s ∧ ∃ y, y.nl = true ∧ env = [.val (.int (k : Int)), .val (.int (2 ^ pre.length : Nat)), y]) ⟨rfl, .no, rfl, rfl⟩ ?_ ?_
  · rintro pre x post env s kk kb e ⟨rfl, y, hy, rfl⟩ hkk hkb
    obtain ⟨e1, e2, e3, e4⟩ := irange_at e
    have hb : 2 ^ pre.length ≤ 2 ^ 20 := Nat.pow_le_pow_right (by decide) (by omega)
    have hb2 : (2 : Nat) ^ 20 = 1048576 := by decide
    obtain ⟨g, hg⟩ : ∃ g : Nat, 2 ^ pre.length = g := ⟨_, rfl⟩
    rw [hg] at hb ⊢
    have hb3 : (g : Int) ≤ 1048576 := by omega
    simp (disch := trivial)
    refine hkk _ _ ⟨rfl, .val (.int x), rfl, ?_⟩
    have : 2 ^ (pre ++ [x]).length = g * 2 := by rw [List.length_append, List.length_singleton, Nat.pow_succ, hg]
    rw [this, Int.natCast_mul]
    rfl
  · rintro env s' ⟨rfl, y, hy, rfl⟩
    rw [irange_len, show ((k : Int) - 0).toNat = k by omega, hg]
    simp (disch := trivial)
/-- a box of so many bits -/
structure BoxOk (b g : Nat) (box : List Int) : Prop where
  lo : 1 ≤ b
  hi : b ≤ 4
  pw : 2 ^ b = g
  len : box.length = g
  in_ : ∀ x ∈ box, 0 ≤ x ∧ x < g
theorem pow_b {b g : Nat} (h : 1 ≤ b) (h2 : b ≤ 4) (h3 : 2 ^ b = g) : (b = 1 ∧ g = 2) ∨ (b = 2 ∧ g = 4) ∨ (b = 3 ∧ g = 8) ∨ (b = 4 ∧ g = 16) := by
  have : b = 1 ∨ b = 2 ∨ b = 3 ∨ b = 4 := by omega
  rcases this with rfl | rfl | rfl | rfl <;> subst h3 <;> simp
theorem BoxOk.g {b g : Nat} {box : List Int} (h : BoxOk b g box) : (b = 1 ∧ g = 2) ∨ (b = 2 ∧ g = 4) ∨ (b = 3 ∧ g = 8) ∨ (b = 4 ∧ g = 16) := pow_b h.lo h.hi h.pw
theorem BoxOk.at_ {b g : Nat} {box : List Int} (h : BoxOk b g box) {i : Int} (h0 : 0 ≤ i) (h1 : i < g) : 0 ≤ nth box i ∧ nth box i < g := h.in_ _ (nth_mem h0 (by rw [h.len]; exact h1))
@[simp] theorem check (hn : 2 ≤ n) {b g : Nat} {box : List Int} (h : BoxOk b g box) : FP n 0 [.val (.int (b : Int)), .val (enc box)] s = .ok (.none, s) := by
  rw [FP_run (d := di_check) rfl (by omega)]
  apply Wp.eq
  show Wp (evS' (FP (n - 1)) ir_check _ _ _ [.val (.int (b : Int)), .val (enc box), .no] s) _
  unfold ir_check
  obtain ⟨h1, h2, h3, h4, h5⟩ := h
  have pw := fun s => power_of (n := n - 1) (s := s) (by omega) (by omega) h3
  simp (disch := trivial) [pw]
  refine lc_all box (fun _ => true) (by simp (disch := trivial) <;> rfl) (fun x hx => ?_) ?_
  · obtain ⟨a, b⟩ := h5 x hx
    simp (disch := trivial) [pw] <;> omega
  · simp (disch := trivial)
theorem small16 {k : Int} (h : 0 ≤ k) (h2 : k < 16) : k = 0 ∨ k = 1 ∨ k = 2 ∨ k = 3 ∨ k = 4 ∨ k = 5 ∨ k = 6 ∨ k = 7 ∨ k = 8 ∨ k = 9 ∨ k = 10 ∨ k = 11 ∨ k = 12 ∨ k = 13 ∨ k = 14 ∨ k = 15 := by omega
/-- how many bits are 1; is it odd -/
def ones (k : Int) : Int := k % 2 + k / 2 % 2 + k / 4 % 2 + k / 8 % 2
def par (k : Int) : Int := ones k % 2
@[simp] theorem odd (hn : 1 ≤ n) {k : Int} (h : 0 ≤ k) (h2 : k < 16) : FP n 2 [.val (.int k)] s = .ok (.int (par k), s) := by
  rw [FP_run (d := di_odd) rfl (by omega)]
  rcases small16 h h2 with rfl | rfl | rfl | rfl | rfl | rfl | rfl | rfl | rfl | rfl | rfl | rfl | rfl | rfl | rfl | rfl <;> kernel_rfl
@[simp] theorem size_of (hn : 1 ≤ n) {k : Int} (h : 0 ≤ k) (h2 : k < 16) : FP n 12 [.val (.int k)] s = .ok (.int (ones k), s) := by
  rw [FP_run (d := di_size_of) rfl (by omega)]
  rcases small16 h h2 with rfl | rfl | rfl | rfl | rfl | rfl | rfl | rfl | rfl | rfl | rfl | rfl | rfl | rfl | rfl | rfl <;> kernel_rfl
theorem all16 {P : Int → Int → Prop} [∀ a b, Decidable (P a b)] (h : (∀ a : Fin 16, ∀ b : Fin 16, P (a.val : Int) (b.val : Int))) {a b : Int} (a0 : 0 ≤ a) (a1 : a < 16) (b0 : 0 ≤ b) (b1 : b < 16) : P a b := by
  have := h ⟨a.toNat, by omega⟩ ⟨b.toNat, by omega⟩
  rwa [Int.toNat_of_nonneg a0, Int.toNat_of_nonneg b0] at this
theorem xr_in16 : ∀ a : Fin 16, ∀ b : Fin 16, ((a.val : Int) < 2 ∧ (b.val : Int) < 2 → 0 ≤ Builtin.bitXor a.val b.val ∧ Builtin.bitXor a.val b.val < 2) ∧ ((a.val : Int) < 4 ∧ (b.val : Int) < 4 → 0 ≤ Builtin.bitXor a.val b.val ∧ Builtin.bitXor a.val b.val < 4) ∧ ((a.val : Int) < 8 ∧ (b.val : Int) < 8 → 0 ≤ Builtin.bitXor a.val b.val ∧ Builtin.bitXor a.val b.val < 8) ∧ 0 ≤ Builtin.bitXor a.val b.val ∧ Builtin.bitXor a.val b.val < 16 := by decide +kernel
theorem xr_in {b g : Nat} (h : (b = 1 ∧ g = 2) ∨ (b = 2 ∧ g = 4) ∨ (b = 3 ∧ g = 8) ∨ (b = 4 ∧ g = 16)) {x y : Int} (x0 : 0 ≤ x) (x1 : x < g) (y0 : 0 ≤ y) (y1 : y < g) : 0 ≤ Builtin.bitXor x y ∧ Builtin.bitXor x y < g := by
  have := all16 (P := fun a b => (a < 2 ∧ b < 2 → 0 ≤ Builtin.bitXor a b ∧ Builtin.bitXor a b < 2) ∧ (a < 4 ∧ b < 4 → 0 ≤ Builtin.bitXor a b ∧ Builtin.bitXor a b < 4) ∧ (a < 8 ∧ b < 8 → 0 ≤ Builtin.bitXor a b ∧ Builtin.bitXor a b < 8) ∧ 0 ≤ Builtin.bitXor a b ∧ Builtin.bitXor a b < 16) xr_in16 (a := x) (b := y) x0 (by omega) y0 (by omega)
  obtain ⟨p1, p2, p3, p4⟩ := this
  rcases h with ⟨_, rfl⟩ | ⟨_, rfl⟩ | ⟨_, rfl⟩ | ⟨_, rfl⟩
  · exact p1 ⟨by omega, by omega⟩
  · exact p2 ⟨by omega, by omega⟩
  · exact p3 ⟨by omega, by omega⟩
  · exact p4
/-- the first pair with the same image -/
def pairsL (t : List Int) : List (Int × Int) := (irange 0 t.length).flatMap fun k => ((irange (k + 1) t.length).filter fun j => decide (nth t k = nth t j)).map fun j => (k, j)
theorem is_order (hn : 3 ≤ n) {b g : Nat} {t : List Int} (ht : BoxOk b g t) : FP n 3 [.val (.int (b : Int)), .val (enc t)] s = .ok (encO (pairsL t).head?, s) := by
  rw [FP_run (d := di_is_order) rfl (by omega)]
  apply Wp.eq
  show Wp (evS' (FP (n - 1)) ir_is_order _ _ _ [.val (.int (b : Int)), .val (enc t), .no, .no] s) _
  unfold ir_is_order
  have hg := ht.g
  have hl := ht.len
  simp (disch := trivial)
  refine for_inv (fun pre post env s' => s' = s ∧ ∃ y z, y.nl = true ∧ z.nl = true ∧ env = [.val (.int (b : Int)), .val (enc t), y, z] ∧ pre.flatMap (fun k => ((irange (k + 1) t.length).filter fun j => decide (nth t k = nth t j)).map fun j => (k, j)) = []) ⟨rfl, .no, .no, rfl, rfl, rfl, rfl⟩ ?_ ?_
  · rintro pre x post env s kk kb e ⟨rfl, y, z, hy, hz, rfl, hp⟩ hk hb
    obtain ⟨_, x0, x1, _⟩ := irange_at e
    simp (disch := trivial)
    refine for_inv (fun pre post env s' => s' = s ∧ ∃ z, z.nl = true ∧ env = [.val (.int (b : Int)), .val (enc t), .val (.int x), z] ∧ pre.filter (fun j => decide (nth t x = nth t j)) = []) ⟨rfl, _, hz, rfl, rfl⟩ ?_ ?_
    · rintro pre2 x2 post2 env s kk2 kb2 e2 ⟨rfl, z, hz, rfl, hp2⟩ hk2 hb2
      obtain ⟨_, x20, x21, _⟩ := irange_at e2
      simp (disch := trivial)
      refine Wp.ite_of (fun hc => ?_) fun hc => ?_
      · simp (disch := trivial)
        have hh : (pairsL t).head? = some (x, x2) := by
          unfold pairsL
          rw [e, List.flatMap_append, hp, List.nil_append, List.flatMap_cons, e2, List.filter_append, hp2, List.nil_append, List.filter_cons, if_pos hc]
          rfl
        rw [hh]; rfl
      · simp (disch := trivial)
        refine hk2 _ _ ⟨rfl, .val (.int x2), rfl, rfl, ?_⟩
        simp [hp2]; simpa using hc
    · rintro env s' ⟨rfl, z, hz, rfl, hp2⟩
      simp
      refine hk _ _ ⟨rfl, .val (.int x), z, rfl, hz, rfl, ?_⟩
      rw [List.flatMap_append, hp]
      simp [hp2]
  · rintro env s' ⟨rfl, y, z, hy, hz, rfl, hp⟩
    simp (disch := trivial)
    have : pairsL t = [] := hp
    rw [this]; rfl
@[simp] theorem check_half (hn : 2 ≤ n) {b g : Nat} (hb : b ≤ 4) (hg : 2 ^ b = g) {k : Int} (h0 : 0 ≤ k) (h1 : k < g) : FP n 13 [.val (.int (b : Int)), .val (.int k)] s = .ok (.none, s) := by
  rw [FP_run (d := di_check_half) rfl (by omega)]
  apply Wp.eq
  show Wp (evS' (FP (n - 1)) ir_check_half _ _ _ [.val (.int (b : Int)), .val (.int k)] s) _
  unfold ir_check_half
  have pw := fun s => power_of (n := n - 1) (s := s) (by omega) (by omega) hg
  simp (disch := trivial) [pw]
def keyedL (box : List Int) (f l : Int) : List Int := (irange 0 box.length).map fun x => Builtin.bitXor (nth box (Builtin.bitXor x f)) l
theorem keyed (hn : 3 ≤ n) {b g : Nat} {t : List Int} (ht : BoxOk b g t) {f l : Int} (f0 : 0 ≤ f) (f1 : f < g) (l0 : 0 ≤ l) (l1 : l < g) : FP n 17 [.val (.int (b : Int)), .val (enc t), .val (.int f), .val (.int l)] s = .ok (enc (keyedL t f l), s) := by
  rw [FP_run (d := di_keyed) rfl (by omega)]
  apply Wp.eq
  show Wp (evS' (FP (n - 1)) ir_keyed _ _ _ [.val (.int (b : Int)), .val (enc t), .val (.int f), .val (.int l), .no] s) _
  unfold ir_keyed
  have hg := ht.g
  have hl := ht.len
  have ck := fun k s h0 h1 => check_half (n := n - 1) (s := s) (k := k) (by omega) ht.hi ht.pw h0 h1
  have c1 := ck f s f0 f1
  have c2 := ck l s l0 l1
  simp (disch := trivial) [c1, c2]
  refine lc_all (irange 0 t.length) (fun x => Builtin.bitXor (nth t (Builtin.bitXor x f)) l) (by simp (disch := trivial) <;> rfl) (fun x hx => ?_) ?_
  · obtain ⟨x0, x1⟩ := mem_irange.mp hx
    obtain ⟨y0, y1⟩ := xr_in hg x0 (by omega) f0 f1
    simp (disch := trivial)
  · simp (disch := trivial)
    rfl
def joinedL (f g : List Int) : List Int := f.map fun x => nth g x
theorem joined (hn : 3 ≤ n) {b g : Nat} {t u : List Int} (ht : BoxOk b g t) (hu : BoxOk b g u) : FP n 20 [.val (.int (b : Int)), .val (enc t), .val (enc u)] s = .ok (enc (joinedL t u), s) := by
  rw [FP_run (d := di_joined) rfl (by omega)]
  apply Wp.eq
  show Wp (evS' (FP (n - 1)) ir_joined _ _ _ [.val (.int (b : Int)), .val (enc t), .val (enc u), .no] s) _
  unfold ir_joined
  have hl := hu.len
  simp (disch := trivial)
  refine lc_all t (fun x => nth u x) (by simp (disch := trivial) <;> rfl) (fun x hx => ?_) ?_
  · obtain ⟨x0, x1⟩ := ht.in_ x hx
    simp (disch := trivial)
  · simp (disch := trivial)
    rfl
end Row

set_option Elab.async false
set_option linter.all false
set_option maxRecDepth 100000
set_option maxHeartbeats 1000000
namespace Row
open PySem PySem.Spec PyProof.Rows L2 L2.DL
open Enc (enc)
variable [TabL]
local macro_rules | `(tactic| trivial) => `(tactic| (simp only [decide_eq_true_eq, decide_eq_false_iff_not, Bool.and_eq_true, Bool.or_eq_true, Bool.not_eq_true', Bool.not_eq_false', Bool.or_eq_false_iff, Bool.and_eq_false_iff, List.length_map, irange_len, List.length_append, List.length_cons, List.length_nil]; omega))
local macro_rules | `(tactic| trivial) => `(tactic| exact Nat.le_of_ble_eq_true rfl)
local macro_rules | `(tactic| trivial) => `(tactic| omega)
local macro_rules | `(tactic| trivial) => `(tactic| assumption)
variable {n : Nat} {s : Dr}
/-- how many numbers have a gap behind, of some -/
def cntG (t : List Int) (g d : Int) (l : List Int) : Int := ((l.filter fun x => decide (Builtin.bitXor (nth t x) (nth t (Builtin.bitXor x g)) = d)).length : Int)
def rowG (t : List Int) (g : Int) (l : List Int) : List Int := (irange 0 t.length).map fun d => cntG t g d l
def gapsL (t : List Int) : List (List Int) := (irange 0 t.length).map fun g => rowG t g (irange 0 t.length)
theorem cntG_snoc {t : List Int} {g d x : Int} {l : List Int} : cntG t g d (l ++ [x]) = cntG t g d l + if Builtin.bitXor (nth t x) (nth t (Builtin.bitXor x g)) = d then 1 else 0 := by
  unfold cntG
  rw [List.filter_append, List.length_append, Int.natCast_add]
  congr 1
  by_cases h : Builtin.bitXor (nth t x) (nth t (Builtin.bitXor x g)) = d
  · rw [if_pos h, List.filter_cons, if_pos (decide_eq_true h)]; rfl
  · rw [if_neg h, List.filter_cons, if_neg (by rw [decide_eq_true_eq]; exact h)]; rfl
theorem rowG_len {t : List Int} {g : Int} {l : List Int} : (rowG t g l).length = t.length := by
  unfold rowG
  rw [List.length_map, irange_len]; omega
theorem gapsL_len {t : List Int} : (gapsL t).length = t.length := by
  unfold gapsL
  rw [List.length_map, irange_len]; omega
theorem gaps (hn : 3 ≤ n) {b g : Nat} {t : List Int} (ht : BoxOk b g t) : FP n 5 [.val (.int (b : Int)), .val (enc t)] s = .ok (enc (gapsL t), s) := by
  rw [FP_run (d := di_gaps) rfl (by omega)]
  apply Wp.eq
  show Wp (evS' (FP (n - 1)) ir_gaps _ _ _ [.val (.int (b : Int)), .val (enc t), .no, .no, .no, .no] s) _
  unfold ir_gaps
  have hg := ht.g
  have hl := ht.len
  have z : gMul (.list [.int 0]) (.int (t.length : Int)) = some (.list (encs (List.replicate t.length (0 : Int)))) := gMul_zeros (by omega)
  simp (disch := trivial)
  refine for_inv (fun pre post env s' => s' = s ∧ ∃ y3 y4 y5, y3.nl = true ∧ (y4.nl = true ∨ ∃ xs, y4 = .lst false xs) ∧ y5.nl = true ∧ env = [.val (.int (b : Int)), .val (enc t), .lst false (encs (pre.map fun g => rowG t g (irange 0 t.length))), y3, y4, y5]) ⟨rfl, .no, .no, .no, rfl, .inl rfl, rfl, rfl⟩ ?_ ?_
  · rintro pre x post env s kk kb e ⟨rfl, y3, y4, y5, h3, h4, h5, rfl⟩ hk hb
    obtain ⟨e1, x0, x1, e4⟩ := irange_at e
    have body : Wp (evS' (FP (n - 1)) (IS.seq (IS.forS [] (IX.rng1 (IX.cons (IX.bi (Bi.len) (IX.cons (IX.pk 1) (IX.nil))) (IX.nil))) (Tg.nm 5) (IS.augIx (O2.add) 4 (IX.b2 (O2.xor) (IX.ix (IX.pk 1) (IX.pk 5)) (IX.ix (IX.pk 1) (IX.b2 (O2.xor) (IX.pk 5) (IX.pk 3)))) (IX.c (PyData.int 1)))) (IS.app 2 (IX.bi (Bi.tuple) (IX.cons (IX.pk 4) (IX.nil))))) kk kb kk [.val (.int (b : Int)), .val (enc t), .lst false (encs (pre.map fun g => rowG t g (irange 0 t.length))), .val (.int x), .lst false (encs (rowG t x [])), y5] s) fun d s' => d = enc (gapsL t) ∧ s' = s := by
      simp (disch := trivial)
      refine for_inv (fun pre2 post env s' => s' = s ∧ ∃ y5, y5.nl = true ∧ env = [.val (.int (b : Int)), .val (enc t), .lst false (encs (pre.map fun g => rowG t g (irange 0 t.length))), .val (.int x), .lst false (encs (rowG t x pre2)), y5]) ⟨rfl, y5, h5, rfl⟩ ?_ ?_
      · rintro pre2 x2 post2 env s kk2 kb2 e2 ⟨rfl, y5, h5, rfl⟩ hk2 hb2
        obtain ⟨e1', x20, x21, e4'⟩ := irange_at e2
        obtain ⟨p0, p1⟩ := ht.at_ x20 (by omega)
        obtain ⟨q0, q1⟩ := xr_in hg x20 (by omega) x0 (show x < g by omega)
        obtain ⟨r0, r1⟩ := ht.at_ q0 q1
        obtain ⟨t0, t1⟩ := xr_in hg p0 p1 r0 r1
        have hrl := rowG_len (t := t) (g := x) (l := pre2)
        have hat : nth (rowG t x pre2) (Builtin.bitXor (nth t x2) (nth t (Builtin.bitXor x2 x))) = cntG t x (Builtin.bitXor (nth t x2) (nth t (Builtin.bitXor x2 x))) pre2 := by
          unfold rowG
          rw [nth_map t0 (by rw [irange_len]; omega), nth_irange t0 (by omega), Int.zero_add]
        simp (disch := trivial) [hat]
        refine hk2 _ _ ⟨rfl, .val (.int x2), rfl, ?_⟩
        have : setN (rowG t x pre2) (Builtin.bitXor (nth t x2) (nth t (Builtin.bitXor x2 x))) (cntG t x (Builtin.bitXor (nth t x2) (nth t (Builtin.bitXor x2 x))) pre2 + 1) = rowG t x (pre2 ++ [x2]) := by
          unfold rowG
          refine setN_map t0 (by omega) ?_ fun d d0 d1 dn => ?_
          · rw [cntG_snoc, if_pos rfl]
          · rw [cntG_snoc, if_neg (fun z => dn z.symm), Int.add_zero]
        rw [this]
      · rintro env s' ⟨rfl, y5, h5, rfl⟩
        simp (disch := trivial)
        refine hk _ _ ⟨rfl, .val (.int x), .lst false (encs (rowG t x (irange 0 t.length))), y5, rfl, .inr ⟨_, rfl⟩, h5, ?_⟩
        rw [List.map_append]; rfl
    have z2 : List.replicate t.length (0 : Int) = rowG t x [] := by
      rw [replicate_irange]; rfl
    rw [z2] at z
    rcases h4 with h4 | ⟨xs, rfl⟩
    · simp (disch := trivial) [z]
      simpa (disch := trivial) using body
    · simp (disch := trivial) [z]
      simpa (disch := trivial) using body
  · rintro env s' ⟨rfl, y3, y4, y5, h3, h4, h5, rfl⟩
    rcases h4 with h4 | ⟨xs, rfl⟩ <;> (simp (disch := trivial); rfl)
/-- the greatest of rows -/
def mostL (rows : List (List Int)) : Int := topL (rows.map topL)
theorem most_gap (hn : 4 ≤ n) {b g : Nat} {t : List Int} (ht : BoxOk b g t) : FP n 6 [.val (.int (b : Int)), .val (enc t)] s = .ok (.int (mostL (gapsL t).tail), s) := by
  rw [FP_run (d := di_most_gap) rfl (by omega)]
  apply Wp.eq
  show Wp (evS' (FP (n - 1)) ir_most_gap _ _ _ [.val (.int (b : Int)), .val (enc t), .no] s) _
  unfold ir_most_gap
  have hg := ht.g
  have hl := ht.len
  have c1 := fun s => gaps (n := n - 1) (s := s) (by omega) ht
  have hgl := gapsL_len (t := t)
  have htl : ((gapsL t).tail).length = t.length - 1 := by rw [List.length_tail, hgl]
  simp (disch := trivial) [c1]
  obtain ⟨r, hr⟩ : ∃ r, (gapsL t).tail = r := ⟨_, rfl⟩
  rw [hr] at htl ⊢
  refine lc_all r topL (by simp (disch := trivial) [c1, hr] <;> rfl) (fun x hx => ?_) ?_
  · have hm : x ∈ gapsL t := List.mem_of_mem_tail (by rw [hr]; exact hx)
    unfold gapsL at hm
    obtain ⟨k, _, rfl⟩ := List.mem_map.mp hm
    have := rowG_len (t := t) (g := k) (l := irange 0 t.length)
    simp (disch := trivial)
  · simp (disch := trivial)
    rfl
/-- a mask's sum -/
def mskV (t : List Int) (a c : Int) : Int := ((irange 0 t.length).map fun x => 1 - 2 * Builtin.bitXor (par (Builtin.bitAnd x a)) (par (Builtin.bitAnd (nth t x) c))).sum
def masksL (t : List Int) : List (List Int) := (irange 0 t.length).map fun a => (irange 0 t.length).map fun c => mskV t a c
theorem and_in16 : ∀ a : Fin 16, ∀ b : Fin 16, 0 ≤ Builtin.bitAnd (a.val : Int) (b.val : Int) ∧ Builtin.bitAnd (a.val : Int) (b.val : Int) < 16 := by decide +kernel
theorem and_in {x y : Int} (x0 : 0 ≤ x) (x1 : x < 16) (y0 : 0 ≤ y) (y1 : y < 16) : 0 ≤ Builtin.bitAnd x y ∧ Builtin.bitAnd x y < 16 := all16 (P := fun a b => 0 ≤ Builtin.bitAnd a b ∧ Builtin.bitAnd a b < 16) and_in16 x0 x1 y0 y1
theorem par_in (k : Int) : 0 ≤ par k ∧ par k < 2 := by unfold par; omega
theorem xr_par (a c : Int) : 0 ≤ Builtin.bitXor (par a) (par c) ∧ Builtin.bitXor (par a) (par c) < 2 := by
  have h1 := par_in a
  have h2 := par_in c
  exact xr_in (b := 1) (g := 2) (.inl ⟨rfl, rfl⟩) h1.1 (by omega) h2.1 (by omega)
theorem masks (hn : 3 ≤ n) {b g : Nat} {t : List Int} (ht : BoxOk b g t) : FP n 7 [.val (.int (b : Int)), .val (enc t)] s = .ok (enc (masksL t), s) := by
  rw [FP_run (d := di_masks) rfl (by omega)]
  apply Wp.eq
  show Wp (evS' (FP (n - 1)) ir_masks _ _ _ [.val (.int (b : Int)), .val (enc t), .no, .no, .no, .no, .no] s) _
  unfold ir_masks
  have hg := ht.g
  have hl := ht.len
  simp (disch := trivial)
  refine for_inv (fun pre post env s' => s' = s ∧ ∃ y3 y4 y5, y3.nl = true ∧ (y4.nl = true ∨ ∃ xs, y4 = .lst false xs) ∧ y5.nl = true ∧ env = [.val (.int (b : Int)), .val (enc t), .lst false (encs (pre.map fun a => (irange 0 t.length).map fun c => mskV t a c)), y3, y4, y5, .no]) ⟨rfl, .no, .no, .no, rfl, .inl rfl, rfl, rfl⟩ ?_ ?_
  · rintro pre x post env s kk kb e ⟨rfl, y3, y4, y5, h3, h4, h5, rfl⟩ hk hb
    obtain ⟨e1, x0, x1, e4⟩ := irange_at e
    have body : Wp (evS' (FP (n - 1)) (IS.seq (IS.forS [] (IX.rng1 (IX.cons (IX.bi (Bi.len) (IX.cons (IX.pk 1) (IX.nil))) (IX.nil))) (Tg.nm 5) (IS.app 4 (IX.bi (Bi.sum) (IX.cons (IX.lc (IX.rng1 (IX.cons (IX.bi (Bi.len) (IX.cons (IX.pk 1) (IX.nil))) (IX.nil))) (Tg.nm 6) [6] (IX.tt) (IX.b2 (O2.sub) (IX.c (PyData.int 1)) (IX.b2 (O2.mul) (IX.c (PyData.int 2)) (IX.b2 (O2.xor) (IX.call 2 1 (IX.argC (IX.b2 (O2.and) (IX.pk 6) (IX.pk 3)) (IX.nil))) (IX.call 2 1 (IX.argC (IX.b2 (O2.and) (IX.ix (IX.pk 1) (IX.pk 6)) (IX.pk 5)) (IX.nil))))))) (IX.nil))))) (IS.app 2 (IX.bi (Bi.tuple) (IX.cons (IX.pk 4) (IX.nil))))) kk kb kk [.val (.int (b : Int)), .val (enc t), .lst false (encs (pre.map fun a => (irange 0 t.length).map fun c => mskV t a c)), .val (.int x), .lst false (encs ([] : List Int)), y5, .no] s) fun d s' => d = enc (masksL t) ∧ s' = s := by
      simp (disch := trivial)
      refine for_inv (fun pre2 post env s' => s' = s ∧ ∃ y5, y5.nl = true ∧ env = [.val (.int (b : Int)), .val (enc t), .lst false (encs (pre.map fun a => (irange 0 t.length).map fun c => mskV t a c)), .val (.int x), .lst false (encs (pre2.map fun c => mskV t x c)), y5, .no]) ⟨rfl, y5, h5, rfl⟩ ?_ ?_
      · rintro pre2 x2 post2 env s kk2 kb2 e2 ⟨rfl, y5, h5, rfl⟩ hk2 hb2
        obtain ⟨e1', x20, x21, e4'⟩ := irange_at e2
        simp (disch := trivial)
        refine lc_all (irange 0 t.length) (fun z => 1 - 2 * Builtin.bitXor (par (Builtin.bitAnd z x)) (par (Builtin.bitAnd (nth t z) x2))) (by simp (disch := trivial) <;> rfl) (fun z hz => ?_) ?_
        · obtain ⟨z0, z1⟩ := mem_irange.mp hz
          obtain ⟨p0, p1⟩ := ht.at_ z0 (by omega)
          obtain ⟨a0, a1⟩ := and_in (x := z) (y := x) z0 (by omega) x0 (by omega)
          obtain ⟨b0, b1⟩ := and_in (x := nth t z) (y := x2) p0 (by omega) x20 (by omega)
          obtain ⟨c0, c1⟩ := xr_par (Builtin.bitAnd z x) (Builtin.bitAnd (nth t z) x2)
          simp (disch := trivial)
        · have e9 : ((irange 0 (t.length : Int)).map fun z => 1 - 2 * Builtin.bitXor (par (Builtin.bitAnd z x)) (par (Builtin.bitAnd (nth t z) x2))).sum = mskV t x x2 := rfl
          simp (disch := trivial) [e9]
          refine hk2 _ _ ⟨rfl, .val (.int x2), rfl, ?_⟩
          rw [List.map_append]; rfl
      · rintro env s' ⟨rfl, y5, h5, rfl⟩
        simp (disch := trivial)
        refine hk _ _ ⟨rfl, .val (.int x), .lst false (encs ((irange 0 t.length).map fun c => mskV t x c)), y5, rfl, .inr ⟨_, rfl⟩, h5, ?_⟩
        rw [List.map_append]; rfl
    rcases h4 with h4 | ⟨xs, rfl⟩
    · simp (disch := trivial)
      simpa (disch := trivial) [encs_nil] using body
    · simp (disch := trivial)
      simpa (disch := trivial) [encs_nil] using body
  · rintro env s' ⟨rfl, y3, y4, y5, h3, h4, h5, rfl⟩
    rcases h4 with h4 | ⟨xs, rfl⟩ <;> (simp (disch := trivial); rfl)
end Row

set_option Elab.async false
set_option linter.all false
set_option maxRecDepth 100000
set_option maxHeartbeats 1000000
namespace Row
open PySem PySem.Spec PyProof.Rows L2 L2.DL
open Enc (enc)
variable [TabL]
local macro_rules | `(tactic| trivial) => `(tactic| (simp only [decide_eq_true_eq, decide_eq_false_iff_not, Bool.and_eq_true, Bool.or_eq_true, Bool.not_eq_true', Bool.not_eq_false', Bool.or_eq_false_iff, Bool.and_eq_false_iff, List.length_map, irange_len, List.length_append, List.length_cons, List.length_nil]; omega))
local macro_rules | `(tactic| trivial) => `(tactic| exact Nat.le_of_ble_eq_true rfl)
local macro_rules | `(tactic| trivial) => `(tactic| omega)
local macro_rules | `(tactic| trivial) => `(tactic| assumption)
variable {n : Nat} {s : Dr}
/-- the last of some numbers that comes to one -/
def lastAt (t : List Int) (d : Int) (l : List Int) : Int := l.foldl (fun a x => if nth t x = d then x else a) 0
theorem lastAt_snoc {t : List Int} {d x : Int} {l : List Int} : lastAt t d (l ++ [x]) = if nth t x = d then x else lastAt t d l := by
  unfold lastAt
  rw [List.foldl_append]
  rfl
def invL (t : List Int) : List Int := (irange 0 t.length).map fun d => lastAt t d (irange 0 t.length)
theorem turned (hn : 4 ≤ n) {b g : Nat} {t : List Int} (ht : BoxOk b g t) (ho : pairsL t = []) : FP n 4 [.val (.int (b : Int)), .val (enc t)] s = .ok (enc (invL t), s) := by
  rw [FP_run (d := di_turned) rfl (by omega)]
  apply Wp.eq
  show Wp (evS' (FP (n - 1)) ir_turned _ _ _ [.val (.int (b : Int)), .val (enc t), .no, .no, .no] s) _
  unfold ir_turned
  have hg := ht.g
  have hl := ht.len
  have z : gMul (.list [.int 0]) (.int (t.length : Int)) = some (.list (encs (List.replicate t.length (0 : Int)))) := gMul_zeros (by omega)
  have c1 := fun s => is_order (n := n - 1) (s := s) (by omega) ht
  rw [ho] at c1
  have z2 : List.replicate t.length (0 : Int) = (irange 0 t.length).map fun d => lastAt t d [] := replicate_irange
  rw [z2] at z
  simp (disch := trivial) [c1, z]
  refine for_inv (fun pre post env s' => s' = s ∧ ∃ y3 y4, y3.nl = true ∧ y4.nl = true ∧ env = [.val (.int (b : Int)), .val (enc t), .lst false (encs ((irange 0 t.length).map fun d => lastAt t d (pre.map (·.1)))), y3, y4]) ⟨rfl, .no, .no, rfl, rfl, rfl⟩ ?_ ?_
  · rintro pre ⟨x, told⟩ post env s kk kb e ⟨rfl, y3, y4, h3, h4, rfl⟩ hk hb
    obtain ⟨e1, e2, e3, e4⟩ := enumL_at e
    dsimp only at e1 e2 e3 e4
    obtain ⟨p0, p1⟩ := ht.at_ (i := x) (by omega) (by omega)
    rw [← e3] at p0 p1
    have hsl : ((irange 0 (t.length : Int)).map fun d => lastAt t d (pre.map (·.1))).length = t.length := by rw [List.length_map, irange_len]; omega
    simp (disch := trivial)
    have : setN ((irange 0 (t.length : Int)).map fun d => lastAt t d (pre.map (·.1))) told x = (irange 0 t.length).map fun d => lastAt t d ((pre ++ [(x, told)]).map (·.1)) := by
      refine setN_map p0 (by omega) ?_ fun d d0 d1 dn => ?_
      · rw [List.map_append, List.map_singleton, lastAt_snoc, if_pos e3.symm]
      · rw [List.map_append, List.map_singleton, lastAt_snoc, if_neg (fun z => dn (by rw [← z, e3]))]
    rw [this]
    exact hk _ _ ⟨rfl, .val (.int x), .val (.int told), rfl, rfl, rfl⟩
  · rintro env s' ⟨rfl, y3, y4, h3, h4, rfl⟩
    have e : (enumL 0 t).map (·.1) = irange 0 t.length := by
      rw [enumL_map, List.map_map]
      exact List.map_id' _
    rw [e]
    simp (disch := trivial)
    rfl
def absI (i : Int) : Int := if i < 0 then -i else i
/-- the greatest mask, without sign -/
def topA (row : List Int) : Int := topL (row.tail.map absI)
def mostM (rows : List (List Int)) : Int := topL (rows.map topA)
theorem masksL_len {t : List Int} : (masksL t).length = t.length := by
  unfold masksL
  rw [List.length_map, irange_len]; omega
theorem most_mask (hn : 4 ≤ n) {b g : Nat} {t : List Int} (ht : BoxOk b g t) : FP n 8 [.val (.int (b : Int)), .val (enc t)] s = .ok (.int (mostM (masksL t)), s) := by
  rw [FP_run (d := di_most_mask) rfl (by omega)]
  apply Wp.eq
  show Wp (evS' (FP (n - 1)) ir_most_mask _ _ _ [.val (.int (b : Int)), .val (enc t), .no, .no] s) _
  unfold ir_most_mask
  have hg := ht.g
  have hl := ht.len
  have c1 := fun s => masks (n := n - 1) (s := s) (by omega) ht
  have hgl := masksL_len (t := t)
  simp (disch := trivial) [c1]
  refine lc_all (masksL t) topA (by simp (disch := trivial) [c1] <;> rfl) (fun row hr => ?_) ?_
  · unfold masksL at hr
    obtain ⟨k, _, rfl⟩ := List.mem_map.mp hr
    obtain ⟨row, hrow⟩ : ∃ row, (irange 0 (t.length : Int)).map (fun c => mskV t k c) = row := ⟨_, rfl⟩
    have hrl : row.length = t.length := by rw [← hrow, List.length_map, irange_len]; omega
    rw [hrow]
    have htl : row.tail.length = t.length - 1 := by rw [List.length_tail, hrl]
    simp (disch := trivial)
    obtain ⟨r, hr⟩ : ∃ r, row.tail = r := ⟨_, rfl⟩
    have hta : topA row = topL (r.map absI) := by rw [← hr]; rfl
    rw [hr] at htl
    rw [hta]
    refine lc_all r absI (by simp (disch := trivial) [hr] <;> rfl) (fun x hx => ?_) ?_
    · simp (disch := trivial)
      rfl
    · simp (disch := trivial)
  · simp (disch := trivial)
    rfl
theorem far (hn : 5 ≤ n) {b g : Nat} {t : List Int} (ht : BoxOk b g t) : FP n 9 [.val (.int (b : Int)), .val (enc t)] s = .ok (.int (((t.length : Int) - mostM (masksL t)) / 2), s) := by
  rw [FP_run (d := di_far) rfl (by omega)]
  apply Wp.eq
  show Wp (evS' (FP (n - 1)) ir_far _ _ _ [.val (.int (b : Int)), .val (enc t)] s) _
  unfold ir_far
  have c1 := fun s => most_mask (n := n - 1) (s := s) (by omega) ht
  simp (disch := trivial) [c1]
/-- the first two for which a box does not add up -/
def bentL (t : List Int) : List (Int × Int) := (irange 0 t.length).flatMap fun x => ((irange x t.length).filter fun y => !decide (nth t (Builtin.bitXor x y) = Builtin.bitXor (Builtin.bitXor (nth t x) (nth t y)) (nth t 0))).map fun y => (x, y)
theorem is_straight (hn : 3 ≤ n) {b g : Nat} {t : List Int} (ht : BoxOk b g t) : FP n 21 [.val (.int (b : Int)), .val (enc t)] s = .ok (encO (bentL t).head?, s) := by
  rw [FP_run (d := di_is_straight) rfl (by omega)]
  apply Wp.eq
  show Wp (evS' (FP (n - 1)) ir_is_straight _ _ _ [.val (.int (b : Int)), .val (enc t), .no, .no] s) _
  unfold ir_is_straight
  have hg := ht.g
  have hl := ht.len
  simp (disch := trivial)
  refine for_inv (fun pre post env s' => s' = s ∧ ∃ y z, y.nl = true ∧ z.nl = true ∧ env = [.val (.int (b : Int)), .val (enc t), y, z] ∧ pre.flatMap (fun x => ((irange x t.length).filter fun y => !decide (nth t (Builtin.bitXor x y) = Builtin.bitXor (Builtin.bitXor (nth t x) (nth t y)) (nth t 0))).map fun y => (x, y)) = []) ⟨rfl, .no, .no, rfl, rfl, rfl, rfl⟩ ?_ ?_
  · rintro pre x post env s kk kb e ⟨rfl, y, z, hy, hz, rfl, hp⟩ hk hb
    obtain ⟨_, x0, x1, _⟩ := irange_at e
    simp (disch := trivial)
    refine for_inv (fun pre post env s' => s' = s ∧ ∃ z, z.nl = true ∧ env = [.val (.int (b : Int)), .val (enc t), .val (.int x), z] ∧ pre.filter (fun y => !decide (nth t (Builtin.bitXor x y) = Builtin.bitXor (Builtin.bitXor (nth t x) (nth t y)) (nth t 0))) = []) ⟨rfl, _, hz, rfl, rfl⟩ ?_ ?_
    · rintro pre2 x2 post2 env s kk2 kb2 e2 ⟨rfl, z, hz, rfl, hp2⟩ hk2 hb2
      obtain ⟨_, x20, x21, _⟩ := irange_at e2
      obtain ⟨q0, q1⟩ := xr_in hg x0 (show x < g by omega) (show 0 ≤ x2 by omega) (show x2 < g by omega)
      simp (disch := trivial)
      refine Wp.ite_of (fun hc => ?_) fun hc => ?_
      · simp (disch := trivial)
        have hh : (bentL t).head? = some (x, x2) := by
          unfold bentL
          rw [e, List.flatMap_append, hp, List.nil_append, List.flatMap_cons, e2, List.filter_append, hp2, List.nil_append, List.filter_cons, if_pos hc]
          rfl
        rw [hh]; rfl
      · simp (disch := trivial)
        refine hk2 _ _ ⟨rfl, .val (.int x2), rfl, rfl, ?_⟩
        rw [List.filter_append, hp2, List.nil_append, List.filter_cons, if_neg (by rw [hc]; exact Bool.false_ne_true)]
        rfl
    · rintro env s' ⟨rfl, z, hz, rfl, hp2⟩
      simp
      refine hk _ _ ⟨rfl, .val (.int x), z, rfl, hz, rfl, ?_⟩
      rw [List.flatMap_append, hp, List.nil_append, List.flatMap_cons, hp2]
      rfl
  · rintro env s' ⟨rfl, y, z, hy, hz, rfl, hp⟩
    simp (disch := trivial)
    have : bentL t = [] := hp
    rw [this]; rfl
end Row

set_option Elab.async false
set_option linter.all false
set_option maxRecDepth 100000
set_option maxHeartbeats 1000000
namespace Row
open PySem PySem.Spec PyProof.Rows L2 L2.DL
open Enc (enc)
variable [TabL]
local macro_rules | `(tactic| trivial) => `(tactic| (simp only [decide_eq_true_eq, decide_eq_false_iff_not, Bool.and_eq_true, Bool.or_eq_true, Bool.not_eq_true', Bool.not_eq_false', Bool.or_eq_false_iff, Bool.and_eq_false_iff, List.length_map, irange_len, List.length_append, List.length_cons, List.length_nil]; omega))
local macro_rules | `(tactic| trivial) => `(tactic| exact Nat.le_of_ble_eq_true rfl)
local macro_rules | `(tactic| trivial) => `(tactic| omega)
local macro_rules | `(tactic| trivial) => `(tactic| assumption)
variable {n : Nat} {s : Dr}
/-- one bit of each item -/
def bitRow (t : List Int) (i : Int) : List Int := t.map fun x => x / ((2 ^ i.toNat : Nat) : Int) % 2
/-- a step of the sums over parts -/
def mstep (row : List Int) (st : Int) : List Int := (irange 0 row.length).map fun k => Builtin.bitXor (nth row k) (if k / st % 2 = 1 then nth row (k - st) else 0)
def mobI : Nat → List Int → List Int
  | 0, row => row
  | i + 1, row => mstep (mobI i row) ((2 ^ i : Nat) : Int)
theorem mobI_len : ∀ {i : Nat} {row : List Int}, (mobI i row).length = row.length
  | 0, _ => rfl
  | i + 1, row => by
    rw [mobI]
    unfold mstep
    rw [List.length_map, irange_len, mobI_len]
    omega
def Bits (row : List Int) : Prop := ∀ x ∈ row, 0 ≤ x ∧ x < 2
theorem xr2 {a b : Int} (a0 : 0 ≤ a) (a1 : a < 2) (b0 : 0 ≤ b) (b1 : b < 2) : 0 ≤ Builtin.bitXor a b ∧ Builtin.bitXor a b < 2 := xr_in (b := 1) (g := 2) (.inl ⟨rfl, rfl⟩) a0 (by omega) b0 (by omega)
theorem mobI_bits : ∀ {i : Nat} {row : List Int}, Bits row → Bits (mobI i row)
  | 0, _, h => h
  | i + 1, row, h => fun x hx => by
    have ih := mobI_bits (i := i) h
    rw [mobI] at hx
    unfold mstep at hx
    obtain ⟨k, hk, rfl⟩ := List.mem_map.mp hx
    obtain ⟨k0, k1⟩ := mem_irange.mp hk
    obtain ⟨p0, p1⟩ := ih _ (nth_mem k0 k1)
    by_cases hc : k / ((2 ^ i : Nat) : Int) % 2 = 1
    · rw [if_pos hc]
      have hp : (0 : Int) < ((2 ^ i : Nat) : Int) := by have := Nat.two_pow_pos i; omega
      have hge : ((2 ^ i : Nat) : Int) ≤ k := by
        refine Int.not_lt.mp fun hlt => ?_
        rw [Int.ediv_eq_zero_of_lt k0 hlt] at hc
        omega
      obtain ⟨q0, q1⟩ := ih _ (nth_mem (i := k - ((2 ^ i : Nat) : Int)) (by omega) (by omega))
      exact xr2 p0 p1 q0 q1
    · rw [if_neg hc]
      exact xr2 p0 p1 (by omega) (by omega)
theorem bitRow_bits {t : List Int} {i : Int} : Bits (bitRow t i) := fun x hx => by
  unfold bitRow at hx
  obtain ⟨k, _, rfl⟩ := List.mem_map.mp hx
  omega
theorem bitRow_len {t : List Int} {i : Int} : (bitRow t i).length = t.length := List.length_map _
/-- the products of a bit -/
def formL (b : Nat) (t : List Int) (i : Int) : List Int := (irange 0 t.length).filter fun k => decide (nth (mobI b (bitRow t i)) k = 1)
def formsL (b : Nat) (t : List Int) : List (List Int) := (irange 0 b).map (formL b t)
theorem forms (hn : 3 ≤ n) {b g : Nat} {t : List Int} (ht : BoxOk b g t) : FP n 10 [.val (.int (b : Int)), .val (enc t)] s = .ok (enc (formsL b t), s) := by
  rw [FP_run (d := di_forms) rfl (by omega)]
  apply Wp.eq
  show Wp (evS' (FP (n - 1)) ir_forms _ _ _ [.val (.int (b : Int)), .val (enc t), .no, .no, .no, .no, .no, .no] s) _
  unfold ir_forms
  have hg := ht.g
  have hl := ht.len
  have hb4 := ht.hi
  simp (disch := trivial)
  refine for_inv (fun pre post env s' => s' = s ∧ ∃ y3 y4 y5, y3.nl = true ∧ y4.nl = true ∧ y5.nl = true ∧ env = [.val (.int (b : Int)), .val (enc t), .lst false (encs (pre.map (formL b t))), y3, y4, y5, .no, .no]) ⟨rfl, .no, .no, .no, rfl, rfl, rfl, rfl⟩ ?_ ?_
  · rintro pre x post env s kk kb e ⟨rfl, y3, y4, y5, h3, h4, h5, rfl⟩ hk hb
    obtain ⟨e1, x0, x1, e4⟩ := irange_at e
    obtain ⟨xn, rfl⟩ := Int.eq_ofNat_of_zero_le x0
    obtain ⟨g2, hg2⟩ : ∃ g2 : Nat, 2 ^ xn = g2 := ⟨_, rfl⟩
    have hg3 : 0 < g2 := by rw [← hg2]; exact Nat.two_pow_pos _
    have hg4 : g2 ≤ 16 := by
      rw [← hg2]
      have := Nat.pow_le_pow_right (n := 2) (by decide) (show xn ≤ 4 by omega)
      omega
    have pw := fun s => power_of (n := n - 1) (s := s) (k := xn) (by omega) (by omega) hg2
    simp (disch := trivial)
    refine lc_all t (fun y => y / (g2 : Int) % 2) (by simp (disch := trivial) <;> rfl) (fun y hy => ?_) ?_
    · simp (disch := trivial) [pw]
    have hbr : (t.map fun y => y / (g2 : Int) % 2) = bitRow t (xn : Int) := by
      unfold bitRow
      rw [Int.toNat_natCast, hg2]
    rw [hbr]
    have hrl := bitRow_len (t := t) (i := (xn : Int))
    simp (disch := trivial)
    refine while_inv (fun m env s' => s' = s ∧ ∃ i : Nat, i + m = b ∧ env = [.val (.int (b : Int)), .val (enc t), .lst false (encs (pre.map (formL b t))), .val (.int (xn : Int)), .val (.list (encs (mobI i (bitRow t (xn : Int))))), .val (.int ((2 ^ i : Nat) : Int)), .no, .no]) (n0 := b) ⟨rfl, 0, by omega, rfl⟩ (by omega) ?_
    rintro m env s kk2 ⟨rfl, i, hi, rfl⟩ hkk
    have hml := mobI_len (i := i) (row := bitRow t (xn : Int))
    obtain ⟨st, hst⟩ : ∃ st : Nat, 2 ^ i = st := ⟨_, rfl⟩
    have hst0 : 0 < st := by rw [← hst]; exact Nat.two_pow_pos _
    have hgb := ht.pw
    cases m with
    | succ m =>
      have hlt : st < g := by
        rw [← hst, ← hgb]
        exact Nat.pow_lt_pow_right (by decide) (by omega)
      have hst2 : 2 ^ (i + 1) = st * 2 := by rw [Nat.pow_succ, hst]
      rw [hst]
      simp (disch := trivial)
      refine lc_all (irange 0 t.length) (fun k => Builtin.bitXor (nth (mobI i (bitRow t (xn : Int))) k) (if k / (st : Int) % 2 = 1 then nth (mobI i (bitRow t (xn : Int))) (k - st) else 0)) (by simp (disch := trivial) [hml, hrl] <;> rfl) (fun k hk => ?_) ?_
      · obtain ⟨k0, k1⟩ := mem_irange.mp hk
        by_cases hc : k / (st : Int) % 2 = 1
        · have hge : (st : Int) ≤ k := by
            refine Int.not_lt.mp fun hlt => ?_
            rw [Int.ediv_eq_zero_of_lt k0 hlt] at hc
            omega
          simp (disch := trivial) [hc]
        · simp (disch := trivial) [hc]
      · have e : (irange 0 (t.length : Int)).map (fun k => Builtin.bitXor (nth (mobI i (bitRow t (xn : Int))) k) (if k / (st : Int) % 2 = 1 then nth (mobI i (bitRow t (xn : Int))) (k - st) else 0)) = mobI (i + 1) (bitRow t (xn : Int)) := by
          rw [mobI, hst]
          unfold mstep
          rw [hml, hrl]
        rw [e]
        simp (disch := trivial)
        refine hkk m _ _ (Nat.lt_succ_self m) ⟨rfl, i + 1, by omega, ?_⟩
        rw [hst2, Int.natCast_mul]; rfl
    | zero =>
      obtain rfl : i = b := by omega
      rw [hst]
      have hge : st = g := by rw [← hst]; exact hgb
      simp (disch := trivial)
      refine lc_enc (irange 0 t.length) (fun k => decide (nth (mobI i (bitRow t (xn : Int))) k = 1)) (fun k => k) (by simp (disch := trivial) [hml, hrl] <;> rfl) (fun k hk => ?_) ?_
      · obtain ⟨k0, k1⟩ := mem_irange.mp hk
        simp (disch := trivial)
      · rw [List.map_id', show (irange 0 (t.length : Int)).filter (fun k => decide (nth (mobI i (bitRow t (xn : Int))) k = 1)) = formL i t xn from rfl]
        simp (disch := trivial)
        refine hk _ _ ⟨rfl, .val (.int (xn : Int)), .val (.list (encs (mobI i (bitRow t (xn : Int))))), .val (.int (st : Int)), rfl, rfl, rfl, ?_⟩
        rw [List.map_append]; rfl
  · rintro env s' ⟨rfl, y3, y4, y5, h3, h4, h5, rfl⟩
    simp (disch := trivial)
    rfl
/-- the most bits of a product -/
def degF (rows : List (List Int)) (a : Int) : Int := rows.foldl (fun a row => topL (a :: row.map ones)) a
def degL (b : Nat) (t : List Int) : Int := degF (formsL b t) 0
theorem degree (hn : 4 ≤ n) {b g : Nat} {t : List Int} (ht : BoxOk b g t) : FP n 11 [.val (.int (b : Int)), .val (enc t)] s = .ok (.int (degL b t), s) := by
  rw [FP_run (d := di_degree) rfl (by omega)]
  apply Wp.eq
  show Wp (evS' (FP (n - 1)) ir_degree _ _ _ [.val (.int (b : Int)), .val (enc t), .no, .no, .no] s) _
  unfold ir_degree
  have hg := ht.g
  have hl := ht.len
  have c1 := fun s => forms (n := n - 1) (s := s) (by omega) ht
  simp (disch := trivial) [c1]
  refine for_inv (fun pre post env s' => s' = s ∧ ∃ y3, y3.nl = true ∧ env = [.val (.int (b : Int)), .val (enc t), .val (.int (degF pre 0)), y3, .no]) ⟨rfl, .no, rfl, rfl⟩ ?_ ?_
  · rintro pre row post env s kk kb e ⟨rfl, y3, h3, rfl⟩ hk hb
    have hm : row ∈ formsL b t := by rw [e]; simp
    unfold formsL at hm
    obtain ⟨i, _, rfl⟩ := List.mem_map.mp hm
    simp (disch := trivial)
    refine lc_all (formL b t i) ones (by simp (disch := trivial) <;> rfl) (fun x hx => ?_) ?_
    · unfold formL at hx
      obtain ⟨x0, x1⟩ := mem_irange.mp (List.mem_filter.mp hx).1
      simp (disch := trivial)
    · have hfl : ((formL b t i).map ones).length ≤ 16 := by
        rw [List.length_map]
        refine Nat.le_trans (List.length_filter_le _ _) ?_
        rw [irange_len]; omega
      have c2 : gAdd (.list [.int (degF pre 0)]) (.list (encs ((formL b t i).map ones))) = some (.list (encs (degF pre 0 :: (formL b t i).map ones))) := gAdd_encL (xs := [degF pre 0]) (ys := (formL b t i).map ones) (by rw [List.length_singleton]; omega)
      have c3 : gMax [.list (encs (degF pre 0 :: (formL b t i).map ones))] = some (.int (topL (degF pre 0 :: (formL b t i).map ones))) := gMax_enc (by rw [List.length_cons]; omega)
      simp (disch := trivial) [c2, c3]
      refine hk _ _ ⟨rfl, .val (enc (formL b t i)), rfl, ?_⟩
      unfold degF
      rw [List.foldl_append]
      rfl
  · rintro env s' ⟨rfl, y3, h3, rfl⟩
    simp (disch := trivial)
    rfl
/-- rounds -/
def rndF : List (List Int × Int) → Int × Int → Int × Int
  | [], p => p
  | q :: qs, p => rndF qs (p.2, Builtin.bitXor p.1 (nth q.1 (Builtin.bitXor p.2 q.2)))
theorem rndF_snoc : ∀ {qs : List (List Int × Int)} {q : List Int × Int} {p : Int × Int}, rndF (qs ++ [q]) p = ((rndF qs p).2, Builtin.bitXor (rndF qs p).1 (nth q.1 (Builtin.bitXor (rndF qs p).2 q.2)))
  | [], _, _ => rfl
  | r :: qs, q, p => by
    show rndF (qs ++ [q]) _ = _
    rw [rndF_snoc]
    rfl
def In2 (g : Nat) (p : Int × Int) : Prop := (0 ≤ p.1 ∧ p.1 < g) ∧ (0 ≤ p.2 ∧ p.2 < g)
def RndOk (b g : Nat) (qs : List (List Int × Int)) : Prop := ∀ q ∈ qs, BoxOk b g q.1 ∧ 0 ≤ q.2 ∧ q.2 < g
theorem rndF_in {b g : Nat} (hg : (b = 1 ∧ g = 2) ∨ (b = 2 ∧ g = 4) ∨ (b = 3 ∧ g = 8) ∨ (b = 4 ∧ g = 16)) : ∀ {qs : List (List Int × Int)} {p : Int × Int}, RndOk b g qs → In2 g p → In2 g (rndF qs p)
  | [], _, _, h => h
  | q :: qs, p, h, h2 => by
    obtain ⟨hb, k0, k1⟩ := h q (List.mem_cons_self ..)
    obtain ⟨x0, x1⟩ := xr_in hg h2.2.1 h2.2.2 k0 k1
    obtain ⟨y0, y1⟩ := hb.at_ x0 x1
    exact rndF_in (qs := qs) (p := (p.2, Builtin.bitXor p.1 (nth q.1 (Builtin.bitXor p.2 q.2)))) hg (fun r hr => h r (List.mem_cons_of_mem _ hr)) ⟨h2.2, xr_in hg h2.1.1 h2.1.2 y0 y1⟩
theorem rounds (hn : 3 ≤ n) {b g : Nat} (hb0 : 1 ≤ b) (hb : b ≤ 4) (hp : 2 ^ b = g) {boxes : List (List Int)} {keys : List Int} (hl : boxes.length = keys.length) (h16 : boxes.length ≤ 16) (hr : RndOk b g (List.zip boxes keys)) {l r : Int} (hlr : In2 g (l, r)) : FP n 14 [.val (.int (b : Int)), .val (enc boxes), .val (enc keys), .val (.int l), .val (.int r)] s = .ok (enc (rndF (List.zip boxes keys) (l, r)), s) := by
  rw [FP_run (d := di_rounds) rfl (by omega)]
  apply Wp.eq
  show Wp (evS' (FP (n - 1)) ir_rounds _ _ _ [.val (.int (b : Int)), .val (enc boxes), .val (enc keys), .val (.int l), .val (.int r), .no, .no] s) _
  unfold ir_rounds
  have hg := pow_b hb0 hb hp
  have ck := fun k s h0 h1 => check_half (n := n - 1) (s := s) (k := k) (by omega) hb hp h0 h1
  simp (disch := trivial)
  refine for_inv (fun pre post env s' => s' = s ∧ ∃ y5 y6, y5.nl = true ∧ y6.nl = true ∧ env = [.val (.int (b : Int)), .val (enc boxes), .val (enc keys), .val (.int l), .val (.int r), y5, y6]) ⟨rfl, .no, .no, rfl, rfl, rfl⟩ ?_ ?_
  · rintro pre ⟨bx, ky⟩ post env s kk kb e ⟨rfl, y5, y6, h5, h6, rfl⟩ hk hb'
    obtain ⟨q1, q2, q3⟩ := hr (bx, ky) (by rw [e]; simp)
    dsimp only at q1 q2 q3
    have c1 := ck ky s q2 q3
    simp (disch := trivial) [c1]
    exact hk _ _ ⟨rfl, .val (enc bx), .val (.int ky), rfl, rfl, rfl⟩
  · rintro env s' ⟨rfl, y5, y6, h5, h6, rfl⟩
    have c1 := ck l s' hlr.1.1 hlr.1.2
    have c2 := ck r s' hlr.2.1 hlr.2.2
    simp (disch := trivial) [c1, c2]
    refine for_inv (fun pre post env s'' => s'' = s' ∧ RndOk b g pre ∧ ∃ y5 y6, y5.nl = true ∧ y6.nl = true ∧ env = [.val (.int (b : Int)), .val (enc boxes), .val (enc keys), .val (.int (rndF pre (l, r)).1), .val (.int (rndF pre (l, r)).2), y5, y6]) ⟨rfl, (fun _ h => nomatch h), y5, y6, h5, h6, rfl⟩ ?_ ?_
    · rintro pre ⟨bx, ky⟩ post env s kk kb e ⟨rfl, hpre, y5, y6, h5, h6, rfl⟩ hk hb'
      obtain ⟨q1, q2, q3⟩ := hr (bx, ky) (by rw [e]; simp)
      dsimp only at q1 q2 q3
      obtain ⟨⟨a0, a1⟩, b0, b1⟩ := rndF_in hg hpre hlr
      obtain ⟨x0, x1⟩ := xr_in hg b0 b1 q2 q3
      have hbl := q1.len
      simp (disch := trivial)
      refine hk _ _ ⟨rfl, fun q hq => ?_, .val (enc bx), .val (.int ky), rfl, rfl, ?_⟩
      · rcases List.mem_append.mp hq with hq | hq
        · exact hpre q hq
        · rw [List.mem_singleton.mp hq]; exact ⟨q1, q2, q3⟩
      · rw [rndF_snoc]
    · rintro env s'' ⟨rfl, hpre, y5, y6, h5, h6, rfl⟩
      simp (disch := trivial)
      rfl
theorem back_rounds (hn : 4 ≤ n) {b g : Nat} (hb0 : 1 ≤ b) (hb : b ≤ 4) (hp : 2 ^ b = g) {boxes : List (List Int)} {keys : List Int} (hl : boxes.length = keys.length) (h16 : boxes.length ≤ 16) (hr : RndOk b g (List.zip boxes.reverse keys.reverse)) {l r : Int} (hlr : In2 g (r, l)) : FP n 15 [.val (.int (b : Int)), .val (enc boxes), .val (enc keys), .val (.int l), .val (.int r)] s = .ok (enc ((rndF (List.zip boxes.reverse keys.reverse) (r, l)).2, (rndF (List.zip boxes.reverse keys.reverse) (r, l)).1), s) := by
  rw [FP_run (d := di_back_rounds) rfl (by omega)]
  apply Wp.eq
  show Wp (evS' (FP (n - 1)) ir_back_rounds _ _ _ [.val (.int (b : Int)), .val (enc boxes), .val (enc keys), .val (.int l), .val (.int r), .no] s) _
  unfold ir_back_rounds
  have c1 := fun s => rounds (n := n - 1) (s := s) (by omega) hb0 hb hp (boxes := boxes.reverse) (keys := keys.reverse) (by rw [List.length_reverse, List.length_reverse]; exact hl) (by rw [List.length_reverse]; exact h16) hr hlr
  simp (disch := trivial) [c1]
end Row

set_option Elab.async false
set_option linter.all false
set_option maxRecDepth 100000
set_option maxHeartbeats 1000000
namespace Row
open PySem PySem.Spec PyProof.Rows L2 L2.DL
open Enc (enc)
variable [TabL]
local macro_rules | `(tactic| trivial) => `(tactic| (simp only [decide_eq_true_eq, decide_eq_false_iff_not, Bool.and_eq_true, Bool.or_eq_true, Bool.not_eq_true', Bool.not_eq_false', Bool.or_eq_false_iff, Bool.and_eq_false_iff, List.length_map, irange_len, List.length_append, List.length_cons, List.length_nil]; omega))
local macro_rules | `(tactic| trivial) => `(tactic| exact Nat.le_of_ble_eq_true rfl)
local macro_rules | `(tactic| trivial) => `(tactic| omega)
local macro_rules | `(tactic| trivial) => `(tactic| assumption)
variable {n : Nat} {s : Dr}
/-- the box of twice as many bits -/
def wholeL (g : Nat) (qs : List (List Int × Int)) : List Int := (irange 0 ((g : Int) * g)).map fun k => (rndF qs (k / g, k % g)).1 * g + (rndF qs (k / g, k % g)).2
theorem sq_lt {g : Nat} {k : Int} (hg : 0 < g) (k0 : 0 ≤ k) (k1 : k < (g : Int) * g) : In2 g (k / g, k % g) := by
  have h : (0 : Int) < g := by omega
  refine ⟨⟨Int.ediv_nonneg k0 (by omega), ?_⟩, Int.emod_nonneg _ (by omega), Int.emod_lt_of_pos _ h⟩
  exact Int.ediv_lt_of_lt_mul h k1
theorem whole_box (hn : 4 ≤ n) {b g : Nat} (hb0 : 1 ≤ b) (hb : b ≤ 3) (hp : 2 ^ b = g) {boxes : List (List Int)} {keys : List Int} (hl : boxes.length = keys.length) (h16 : boxes.length ≤ 16) (hr : RndOk b g (List.zip boxes keys)) : FP n 16 [.val (.int (b : Int)), .val (enc boxes), .val (enc keys)] s = .ok (enc (wholeL g (List.zip boxes keys)), s) := by
  rw [FP_run (d := di_whole_box) rfl (by omega)]
  apply Wp.eq
  show Wp (evS' (FP (n - 1)) ir_whole_box _ _ _ [.val (.int (b : Int)), .val (enc boxes), .val (enc keys), .no, .no, .no, .no, .no] s) _
  unfold ir_whole_box
  have hg := pow_b hb0 (show b ≤ 4 by omega) hp
  have pw := fun s => power_of (n := n - 1) (s := s) (by omega) (show b ≤ 20 by omega) hp
  have g16 : g ≤ 8 := by omega
  have gg : (g : Int) * g ≤ 64 ∧ 0 ≤ (g : Int) * g := by
    rcases hg with ⟨_, rfl⟩ | ⟨_, rfl⟩ | ⟨_, rfl⟩ | ⟨_, rfl⟩
    · decide
    · decide
    · decide
    · omega
  obtain ⟨G, hG⟩ : ∃ G : Int, (g : Int) * g = G := ⟨_, rfl⟩
  simp (disch := trivial) [pw]
  rw [hG] at gg ⊢
  refine for_inv (fun pre post env s' => s' = s ∧ ∃ y5 y6 y7, y5.nl = true ∧ y6.nl = true ∧ y7.nl = true ∧ env = [.val (.int (b : Int)), .val (enc boxes), .val (enc keys), .val (.int (g : Int)), .lst false (encs (pre.map fun k => (rndF (List.zip boxes keys) (k / g, k % g)).1 * g + (rndF (List.zip boxes keys) (k / g, k % g)).2)), y5, y6, y7]) ⟨rfl, .no, .no, .no, rfl, rfl, rfl, rfl⟩ ?_ ?_
  · rintro pre k post env s kk kb e ⟨rfl, y5, y6, y7, h5, h6, h7, rfl⟩ hk hb'
    obtain ⟨e1, k0, k1, e4⟩ := irange_at e
    have hin := sq_lt (g := g) (k := k) (by omega) k0 (by rw [hG]; exact k1)
    have hr2 := rndF_in hg hr hin
    have c1 := fun s => rounds (n := n - 1) (s := s) (by omega) hb0 (show b ≤ 4 by omega) hp hl h16 hr hin
    obtain ⟨⟨a0, a1⟩, b0, b1⟩ := hr2
    simp (disch := trivial) [c1]
    refine hk _ _ ⟨rfl, .val (.int k), .val (.int (rndF (List.zip boxes keys) (k / g, k % g)).1), .val (.int (rndF (List.zip boxes keys) (k / g, k % g)).2), rfl, rfl, rfl, ?_⟩
    rw [List.map_append]; rfl
  · rintro env s' ⟨rfl, y5, y6, y7, h5, h6, h7, rfl⟩
    simp (disch := trivial)
    unfold wholeL
    rw [hG]
/-- all keys for pairs -/
def keysL (t : List Int) (ps : List (Int × Int)) : List (Int × Int) := (irange 0 t.length).flatMap fun f => ((irange 0 t.length).filter fun l => ps.all fun p => decide (Builtin.bitXor (nth t (Builtin.bitXor p.1 f)) l = p.2)).map fun l => (f, l)
theorem keys_for (hn : 3 ≤ n) {b g : Nat} {t : List Int} (ht : BoxOk b g t) {ps : List (Int × Int)} (hps : ∀ p ∈ ps, In2 g p) : FP n 18 [.val (.int (b : Int)), .val (enc t), .val (enc ps)] s = .ok (enc (keysL t ps), s) := by
  rw [FP_run (d := di_keys_for) rfl (by omega)]
  apply Wp.eq
  show Wp (evS' (FP (n - 1)) ir_keys_for _ _ _ [.val (.int (b : Int)), .val (enc t), .val (enc ps), .no, .no, .no, .no, .no] s) _
  unfold ir_keys_for
  have hg := ht.g
  have hl := ht.len
  have ck := fun k s h0 h1 => check_half (n := n - 1) (s := s) (k := k) (by omega) ht.hi ht.pw h0 h1
  simp (disch := trivial)
  refine for_inv (fun pre post env s' => s' = s ∧ ∃ y5 y6, y5.nl = true ∧ y6.nl = true ∧ env = [.val (.int (b : Int)), .val (enc t), .val (enc ps), .no, .no, y5, y6, .no]) ⟨rfl, .no, .no, rfl, rfl, rfl⟩ ?_ ?_
  · rintro pre ⟨p, q⟩ post env s kk kb e ⟨rfl, y5, y6, h5, h6, rfl⟩ hk hb
    obtain ⟨⟨p0, p1⟩, q0, q1⟩ := hps (p, q) (by rw [e]; simp)
    dsimp only at p0 p1 q0 q1
    have c1 := ck p s p0 p1
    have c2 := ck q s q0 q1
    simp (disch := trivial) [c1, c2]
    exact hk _ _ ⟨rfl, .val (.int p), .val (.int q), rfl, rfl, rfl⟩
  · rintro env s' ⟨rfl, y5, y6, h5, h6, rfl⟩
    simp (disch := trivial)
    refine for_inv (fun pre post env s'' => s'' = s' ∧ ∃ y4 y7 found, y4.nl = true ∧ y7.nl = true ∧ found.length = (pre.flatMap fun f => ((irange 0 t.length).filter fun l => ps.all fun p => decide (Builtin.bitXor (nth t (Builtin.bitXor p.1 f)) l = p.2)).map fun l => (f, l)).length ∧ found = (pre.flatMap fun f => ((irange 0 t.length).filter fun l => ps.all fun p => decide (Builtin.bitXor (nth t (Builtin.bitXor p.1 f)) l = p.2)).map fun l => (f, l)) ∧ env = [.val (.int (b : Int)), .val (enc t), .val (enc ps), .lst false (encs found), y4, y5, y6, y7]) ⟨rfl, .no, .no, [], rfl, rfl, rfl, rfl, rfl⟩ ?_ ?_
    · rintro pre f post env s kk kb e ⟨rfl, y4, y7, found, h4, h7, hfl, hf, rfl⟩ hk hb
      obtain ⟨e1, f0, f1, e4⟩ := irange_at e
      have hbound : found.length ≤ 16 * 16 := by
        rw [hfl]
        refine Nat.le_trans (length_flatMap_le (c := 16) fun x _ => ?_) (Nat.mul_le_mul_right _ (by omega))
        rw [List.length_map]
        refine Nat.le_trans (List.length_filter_le _ _) ?_
        rw [irange_len]; omega
      simp (disch := trivial)
      refine for_inv (fun pre2 post env s'' => s'' = s ∧ ∃ y7 more, y7.nl = true ∧ more = (pre2.filter fun l => ps.all fun p => decide (Builtin.bitXor (nth t (Builtin.bitXor p.1 f)) l = p.2)).map (fun l => (f, l)) ∧ env = [.val (.int (b : Int)), .val (enc t), .val (enc ps), .lst false (encs (found ++ more)), .val (.int f), y5, y6, y7]) ⟨rfl, y7, [], h7, rfl, by rw [List.append_nil]⟩ ?_ ?_
      · rintro pre2 l post2 env s kk2 kb2 e2 ⟨rfl, y7, more, h7, hm, rfl⟩ hk2 hb2
        obtain ⟨e1', l0, l1, e4'⟩ := irange_at e2
        have hml : more.length ≤ pre2.length := by
          rw [hm, List.length_map]
          exact List.length_filter_le _ _
        have hfm : (found ++ more).length < 16777216 := by rw [List.length_append]; omega
        simp (disch := trivial)
        refine lc_all ps (fun p => decide (Builtin.bitXor (nth t (Builtin.bitXor p.1 f)) l = p.2)) (by simp (disch := trivial) <;> rfl) (fun p hp => ?_) ?_
        · obtain ⟨⟨p0, p1⟩, q0, q1⟩ := hps p hp
          obtain ⟨x0, x1⟩ := xr_in hg p0 p1 f0 (show f < g by omega)
          simp (disch := trivial)
        · have he : (ps.map fun p => decide (Builtin.bitXor (nth t (Builtin.bitXor p.1 f)) l = p.2)).all id = ps.all fun p => decide (Builtin.bitXor (nth t (Builtin.bitXor p.1 f)) l = p.2) := by rw [List.all_map]; rfl
          simp (disch := trivial) [he, -List.all_map]
          refine Wp.ite_of (fun hc => ?_) fun hc => ?_
          · simp (disch := first | exact hfm | trivial)
            refine hk2 _ _ ⟨rfl, .val (.int l), more ++ [(f, l)], rfl, ?_, ?_⟩
            · rw [List.filter_append, List.map_append, ← hm, List.filter_cons, if_pos hc]; rfl
            · rfl
          · simp (disch := trivial)
            refine hk2 _ _ ⟨rfl, .val (.int l), more, rfl, ?_, rfl⟩
            rw [List.filter_append, List.map_append, ← hm, List.filter_cons, if_neg (by rw [hc]; exact Bool.false_ne_true)]
            exact (List.append_nil _).symm
      · rintro env s'' ⟨rfl, y7, more, h7, hm, rfl⟩
        simp (disch := trivial)
        refine hk _ _ ⟨rfl, .val (.int f), y7, found ++ more, rfl, h7, ?_, ?_, rfl⟩
        · rw [List.flatMap_append, ← hf, hm]; simp
        · rw [List.flatMap_append, ← hf, hm]; simp
    · rintro env s'' ⟨rfl, y4, y7, found, h4, h7, hfl, hf, rfl⟩
      simp (disch := trivial)
      rw [hf]; rfl
def byGapL (t : List Int) (p q : Int × Int) : List Int := (irange 0 t.length).filter fun k => decide (Builtin.bitXor (nth t (Builtin.bitXor p.1 k)) (nth t (Builtin.bitXor q.1 k)) = Builtin.bitXor p.2 q.2)
theorem by_gap (hn : 3 ≤ n) {b g : Nat} {t : List Int} (ht : BoxOk b g t) {p q : Int × Int} (hp : In2 g p) (hq : In2 g q) : FP n 19 [.val (.int (b : Int)), .val (enc t), .val (enc p), .val (enc q)] s = .ok (enc (byGapL t p q), s) := by
  rw [FP_run (d := di_by_gap) rfl (by omega)]
  apply Wp.eq
  show Wp (evS' (FP (n - 1)) ir_by_gap _ _ _ [.val (.int (b : Int)), .val (enc t), .val (enc p), .val (enc q), .no, .no, .no] s) _
  unfold ir_by_gap
  have hg := ht.g
  have hl := ht.len
  have ck := fun k s h0 h1 => check_half (n := n - 1) (s := s) (k := k) (by omega) ht.hi ht.pw h0 h1
  have c0 : gAdd (enc p) (enc q) = some (enc [p.1, p.2, q.1, q.2]) := gAdd_enc (xs := [p.1, p.2]) (ys := [q.1, q.2]) (by simp)
  obtain ⟨⟨p0, p1⟩, p2, p3⟩ := hp
  obtain ⟨⟨q0, q1⟩, q2, q3⟩ := hq
  simp (disch := trivial) [c0]
  refine for_inv (fun pre post env s' => s' = s ∧ ∃ y4, y4.nl = true ∧ env = [.val (.int (b : Int)), .val (enc t), .val (enc p), .val (enc q), y4, .no, .no]) ⟨rfl, .no, rfl, rfl⟩ ?_ ?_
  · rintro pre x post env s kk kb e ⟨rfl, y4, h4, rfl⟩ hk hb
    have hx : x ∈ [p.1, p.2, q.1, q.2] := by rw [e]; simp
    have hxi : 0 ≤ x ∧ x < g := by
      simp only [List.mem_cons, List.not_mem_nil, or_false] at hx
      rcases hx with rfl | rfl | rfl | rfl
      · exact ⟨p0, p1⟩
      · exact ⟨p2, p3⟩
      · exact ⟨q0, q1⟩
      · exact ⟨q2, q3⟩
    have c1 := ck x s hxi.1 hxi.2
    simp (disch := trivial) [c1]
    exact hk _ _ ⟨rfl, .val (.int x), rfl, rfl⟩
  · rintro env s' ⟨rfl, y4, h4, rfl⟩
    simp (disch := trivial)
    refine lc_enc (irange 0 t.length) (fun k => decide (Builtin.bitXor (nth t (Builtin.bitXor p.1 k)) (nth t (Builtin.bitXor q.1 k)) = Builtin.bitXor p.2 q.2)) (fun k => k) (by simp (disch := trivial) <;> rfl) (fun k hk => ?_) ?_
    · obtain ⟨k0, k1⟩ := mem_irange.mp hk
      obtain ⟨x0, x1⟩ := xr_in hg p0 p1 k0 (show k < g by omega)
      obtain ⟨y0, y1⟩ := xr_in hg q0 q1 k0 (show k < g by omega)
      simp (disch := trivial)
    · rw [List.map_id']
      simp (disch := trivial)
      rfl
theorem take (hn : 1 ≤ n) {m : Int} (hm : 0 < m) (hb : m < 1000000000000000000) (hs : DrOk s) : Took m (FP n 23 [.drw, .val (.int m)] s) := by
  rw [FP_run (d := di__law_take) rfl hn]
  exact take_ok _ (by kernel_rfl) (by kernel_rfl) hm (divB_small hm hb) hs
theorem begin_ (hn : 1 ≤ n) (ns : List Int) (hl : ns.length ≤ 64) (s : Dr) : FP n 22 [.scr ns] s = .ok (.list [.list (ns.map .int), .int 0, .int 0, .int (seedF ns 1)], s) := by
  rw [FP_run (d := di__law_begin) rfl hn]
  exact begin_ok _ (by kernel_rfl) (by kernel_rfl) ns hl s
theorem cons_erase_perm : ∀ {l : List Int} {i : Nat} (h : i < l.length), (l[i] :: l.eraseIdx i).Perm l
  | _ :: _, 0, _ => List.Perm.refl _
  | a :: l, i + 1, h => (List.Perm.swap _ _ _).trans ((cons_erase_perm (l := l) (i := i) (by simp only [List.length_cons] at h; omega)).cons a)
end Row

set_option Elab.async false
set_option linter.all false
set_option maxRecDepth 100000
set_option maxHeartbeats 1000000
namespace Row
open PySem PySem.Spec PyProof.Rows L2 L2.DL
open Enc (enc)
variable [TabL]
/-! plain facts: xor, reindexing, greatest items -/
theorem xr_nat16 : ∀ a : Fin 16, ∀ b : Fin 16, Builtin.bitXor (a.val : Int) (b.val : Int) = (((a.val : Int).toNat ^^^ (b.val : Int).toNat : Nat) : Int) := by decide +kernel
theorem xr_nat {a b : Int} (a0 : 0 ≤ a) (a1 : a < 16) (b0 : 0 ≤ b) (b1 : b < 16) : Builtin.bitXor a b = ((a.toNat ^^^ b.toNat : Nat) : Int) := all16 (P := fun a b => Builtin.bitXor a b = ((a.toNat ^^^ b.toNat : Nat) : Int)) xr_nat16 a0 a1 b0 b1
/-- below 16 -/
def S16 (a : Int) : Prop := 0 ≤ a ∧ a < 16
theorem S16.mk {a : Int} (h : 0 ≤ a) (h2 : a < 16) : S16 a := ⟨h, h2⟩
theorem xr_s {a b : Int} (ha : S16 a) (hb : S16 b) : S16 (Builtin.bitXor a b) := xr_in (b := 4) (g := 16) (.inr (.inr (.inr ⟨rfl, rfl⟩))) ha.1 ha.2 hb.1 hb.2
theorem xr_comm {a b : Int} (ha : S16 a) (hb : S16 b) : Builtin.bitXor a b = Builtin.bitXor b a := by
  rw [xr_nat ha.1 ha.2 hb.1 hb.2, xr_nat hb.1 hb.2 ha.1 ha.2, Nat.xor_comm]
theorem xr_assoc {a b c : Int} (ha : S16 a) (hb : S16 b) (hc : S16 c) : Builtin.bitXor (Builtin.bitXor a b) c = Builtin.bitXor a (Builtin.bitXor b c) := by
  have h1 := xr_s ha hb
  have h2 := xr_s hb hc
  rw [xr_nat h1.1 h1.2 hc.1 hc.2, xr_nat ha.1 ha.2 h2.1 h2.2, xr_nat ha.1 ha.2 hb.1 hb.2, xr_nat hb.1 hb.2 hc.1 hc.2, Int.toNat_natCast, Int.toNat_natCast, Nat.xor_assoc]
theorem xr_self {a : Int} (ha : S16 a) : Builtin.bitXor a a = 0 := by
  rw [xr_nat ha.1 ha.2 ha.1 ha.2, Nat.xor_self]; rfl
theorem xr_zero {a : Int} (ha : S16 a) : Builtin.bitXor a 0 = a := by
  rw [xr_nat ha.1 ha.2 (by decide) (by decide), show (0 : Int).toNat = 0 from rfl, Nat.xor_zero]
  exact Int.toNat_of_nonneg ha.1
theorem s0 : S16 0 := ⟨by decide, by decide⟩
theorem zero_xr {a : Int} (ha : S16 a) : Builtin.bitXor 0 a = a := by rw [xr_comm s0 ha, xr_zero ha]
theorem xr_back {a f : Int} (ha : S16 a) (hf : S16 f) : Builtin.bitXor (Builtin.bitXor a f) f = a := by rw [xr_assoc ha hf hf, xr_self hf, xr_zero ha]
theorem xr_inj {a b f : Int} (ha : S16 a) (hb : S16 b) (hf : S16 f) (h : Builtin.bitXor a f = Builtin.bitXor b f) : a = b := by rw [← xr_back ha hf, h, xr_back hb hf]
/-- (a + l) + (b + l) = a + b -/
theorem xr_both {a b l : Int} (ha : S16 a) (hb : S16 b) (hl : S16 l) : Builtin.bitXor (Builtin.bitXor a l) (Builtin.bitXor b l) = Builtin.bitXor a b := by
  rw [xr_assoc ha hl (xr_s hb hl), xr_comm hl (xr_s hb hl), xr_back hb hl]
/-- (x + g) + f = (x + f) + g -/
theorem xr_swap {x g f : Int} (hx : S16 x) (hg : S16 g) (hf : S16 f) : Builtin.bitXor (Builtin.bitXor x g) f = Builtin.bitXor (Builtin.bitXor x f) g := by
  rw [xr_assoc hx hg hf, xr_comm hg hf, ← xr_assoc hx hf hg]
theorem xr_eq {a b c : Int} (ha : S16 a) (hb : S16 b) (hc : S16 c) : Builtin.bitXor a b = c ↔ b = Builtin.bitXor a c := by
  constructor
  · rintro rfl
    rw [← xr_assoc ha ha hb, xr_self ha, zero_xr hb]
  · rintro rfl
    rw [← xr_assoc ha ha hc, xr_self ha, zero_xr hc]
theorem perm_of_sub : ∀ {l m : List Int}, l.Nodup → (∀ x ∈ l, x ∈ m) → m.length ≤ l.length → l.Perm m
  | [], m, _, _, h => by
    have : m = [] := List.eq_nil_of_length_eq_zero (Nat.le_zero.mp h)
    rw [this]
  | a :: l, m, h1, h2, h3 => by
    have ham := h2 a (List.mem_cons_self ..)
    have hp := List.perm_cons_erase ham
    refine List.Perm.trans ?_ hp.symm
    refine List.Perm.cons a (perm_of_sub (List.nodup_cons.mp h1).2 (fun x hx => ?_) ?_)
    · have hne : x ≠ a := fun z => (List.nodup_cons.mp h1).1 (z ▸ hx)
      exact (List.mem_erase_of_ne hne).mpr (h2 x (List.mem_cons_of_mem _ hx))
    · rw [List.length_erase_of_mem ham]
      simp only [List.length_cons] at h3
      omega
theorem irange_nodup {a b : Int} : (irange a b).Nodup := by
  unfold irange List.Nodup
  rw [List.pairwise_map]
  refine List.Pairwise.imp ?_ List.nodup_range
  intro x y hxy h
  exact hxy (by omega)
/-- a one-to-one map of the numbers below g -/
structure Bij (g : Nat) (φ : Int → Int) : Prop where
  in_ : ∀ x : Int, 0 ≤ x → x < g → 0 ≤ φ x ∧ φ x < g
  inj : ∀ x y : Int, 0 ≤ x → x < g → 0 ≤ y → y < g → φ x = φ y → x = y
theorem nodup_map {l : List Int} {φ : Int → Int} (h : l.Nodup) (hi : ∀ x ∈ l, ∀ y ∈ l, φ x = φ y → x = y) : (l.map φ).Nodup := by
  induction l with
  | nil => exact List.Pairwise.nil
  | cons a l ih =>
    rw [List.map_cons, List.nodup_cons]
    obtain ⟨h1, h2⟩ := List.nodup_cons.mp h
    refine ⟨fun hm => ?_, ih h2 fun x hx y hy => hi x (List.mem_cons_of_mem _ hx) y (List.mem_cons_of_mem _ hy)⟩
    obtain ⟨x, hx, e⟩ := List.mem_map.mp hm
    exact h1 (hi x (List.mem_cons_of_mem _ hx) a (List.mem_cons_self ..) e ▸ hx)
theorem Bij.perm {g : Nat} {φ : Int → Int} (h : Bij g φ) : ((irange 0 (g : Int)).map φ).Perm (irange 0 (g : Int)) := by
  refine perm_of_sub (nodup_map irange_nodup fun x hx y hy e => ?_) (fun x hx => ?_) ?_
  · obtain ⟨x0, x1⟩ := mem_irange.mp hx
    obtain ⟨y0, y1⟩ := mem_irange.mp hy
    exact h.inj x y x0 x1 y0 y1 e
  · obtain ⟨y, hy, rfl⟩ := List.mem_map.mp hx
    obtain ⟨y0, y1⟩ := mem_irange.mp hy
    exact mem_irange.mpr (h.in_ y y0 y1)
  · rw [List.length_map]; exact Nat.le_refl _
theorem Bij.surj {g : Nat} {φ : Int → Int} (h : Bij g φ) {y : Int} (y0 : 0 ≤ y) (y1 : y < g) : ∃ x : Int, 0 ≤ x ∧ x < g ∧ φ x = y := by
  have := h.perm.mem_iff.mpr (mem_irange.mpr ⟨y0, y1⟩)
  obtain ⟨x, hx, e⟩ := List.mem_map.mp this
  obtain ⟨x0, x1⟩ := mem_irange.mp hx
  exact ⟨x, x0, x1, e⟩
theorem sum_perm {l m : List Int} (h : l.Perm m) : l.sum = m.sum := by
  induction h with
  | nil => rfl
  | cons a _ ih => rw [List.sum_cons, List.sum_cons, ih]
  | swap a b l => simp only [List.sum_cons]; omega
  | trans _ _ h1 h2 => exact h1.trans h2
theorem Bij.sum {g : Nat} {φ : Int → Int} (h : Bij g φ) (f : Int → Int) : ((irange 0 (g : Int)).map fun x => f (φ x)).sum = ((irange 0 (g : Int)).map f).sum := by
  have := sum_perm (h.perm.map f)
  rwa [List.map_map] at this
theorem Bij.count {g : Nat} {φ : Int → Int} (h : Bij g φ) (p : Int → Bool) : ((irange 0 (g : Int)).filter fun x => p (φ x)).length = ((irange 0 (g : Int)).filter p).length := by
  have := (h.perm.filter p).length_eq
  rw [List.filter_map, List.length_map] at this
  exact this
theorem sum_mul {l : List Int} {f : Int → Int} {c : Int} : (l.map fun x => c * f x).sum = c * (l.map f).sum := by
  induction l with
  | nil => simp
  | cons a l ih => rw [List.map_cons, List.sum_cons, ih, List.map_cons, List.sum_cons, Int.mul_add]
theorem map_congr {α β : Type} {l : List α} {f g : α → β} (h : ∀ x ∈ l, f x = g x) : l.map f = l.map g := List.map_congr_left h
theorem topL_mem {l : List Int} (h : l ≠ []) : topL l ∈ l := by
  cases l with
  | nil => exact absurd rfl h
  | cons a l => exact (topI_spec l a).1
theorem le_topL {l : List Int} {x : Int} (h : x ∈ l) : x ≤ topL l := by
  cases l with
  | nil => exact nomatch h
  | cons a l => exact (topI_spec l a).2 x h
theorem topL_le {l m : List Int} (h0 : l ≠ []) (h : ∀ x ∈ l, ∃ y ∈ m, x ≤ y) : topL l ≤ topL m := by
  obtain ⟨y, hy, hl⟩ := h _ (topL_mem h0)
  exact Int.le_trans hl (le_topL hy)
theorem topL_le_of {l : List Int} {c : Int} (h0 : l ≠ []) (h : ∀ x ∈ l, x ≤ c) : topL l ≤ c := h _ (topL_mem h0)
end Row

set_option Elab.async false
set_option linter.all false
set_option maxRecDepth 100000
set_option maxHeartbeats 1000000
namespace Row
open PySem PySem.Spec PyProof.Rows L2 L2.DL
open Enc (enc)
variable [TabL]
/-! plain facts: gaps and masks of boxes with keys, of joined and of turned boxes -/
theorem BoxOk.le {b g : Nat} {t : List Int} (h : BoxOk b g t) : 2 ≤ g ∧ g ≤ 16 := by
  have := h.g
  omega
theorem BoxOk.s {b g : Nat} {t : List Int} (h : BoxOk b g t) {x : Int} (h0 : 0 ≤ x) (h1 : x < g) : S16 (nth t x) := by
  have := h.at_ h0 h1
  have := h.le
  exact ⟨by omega, by omega⟩
theorem BoxOk.xi {b g : Nat} {t : List Int} (h : BoxOk b g t) {x y : Int} (h0 : 0 ≤ x) (h1 : x < g) (y0 : 0 ≤ y) (y1 : y < g) : 0 ≤ Builtin.bitXor x y ∧ Builtin.bitXor x y < g := xr_in h.g h0 h1 y0 y1
theorem s_of {g : Nat} (hg : g ≤ 16) {x : Int} (h0 : 0 ≤ x) (h1 : x < g) : S16 x := ⟨h0, by omega⟩
theorem BoxOk.mk_map {b g : Nat} {t : List Int} (h : BoxOk b g t) {φ : Int → Int} (hφ : ∀ x : Int, 0 ≤ x → x < g → 0 ≤ φ x ∧ φ x < g) : BoxOk b g ((irange 0 (g : Int)).map φ) := by
  refine ⟨h.lo, h.hi, h.pw, ?_, fun x hx => ?_⟩
  · rw [List.length_map, irange_len]; omega
  · obtain ⟨y, hy, rfl⟩ := List.mem_map.mp hx
    obtain ⟨y0, y1⟩ := mem_irange.mp hy
    exact hφ y y0 y1
theorem nth_mapr {α : Type} [Inhabited α] {g : Nat} {φ : Int → α} {x : Int} (h0 : 0 ≤ x) (h1 : x < g) : nth ((irange 0 (g : Int)).map φ) x = φ x := by
  rw [nth_map h0 (by rw [irange_len]; omega), nth_irange h0 (by omega), Int.zero_add]
/-- a list is the map of its items -/
theorem list_irange {t : List Int} : t = (irange 0 (t.length : Int)).map (nth t) := by
  refine List.ext_getElem (by rw [List.length_map, irange_len]; omega) fun i h1 h2 => ?_
  have h3 := nth_mapr (g := t.length) (φ := nth t) (x := (i : Int)) (by omega) (by omega)
  have e : ∀ (l : List Int) (h : i < l.length), nth l (i : Int) = l[i] := fun l h => by
    unfold nth
    rw [Int.toNat_natCast, List.getElem?_eq_getElem h]; rfl
  rw [e _ h2, e _ h1] at h3
  exact h3.symm
theorem list_eq {t u : List Int} {g : Nat} (ht : t.length = g) (hu : u.length = g) (h : ∀ x : Int, 0 ≤ x → x < g → nth t x = nth u x) : t = u := by
  rw [list_irange (t := t), list_irange (t := u), ht, hu]
  refine map_congr fun x hx => ?_
  obtain ⟨x0, x1⟩ := mem_irange.mp hx
  exact h x x0 x1
theorem keyed_at {b g : Nat} {t : List Int} (h : BoxOk b g t) {f l x : Int} (x0 : 0 ≤ x) (x1 : x < g) : nth (keyedL t f l) x = Builtin.bitXor (nth t (Builtin.bitXor x f)) l := by
  unfold keyedL
  rw [h.len, nth_mapr x0 x1]
theorem keyed_ok {b g : Nat} {t : List Int} (h : BoxOk b g t) {f l : Int} (f0 : 0 ≤ f) (f1 : f < g) (l0 : 0 ≤ l) (l1 : l < g) : BoxOk b g (keyedL t f l) := by
  unfold keyedL
  rw [h.len]
  refine h.mk_map fun x x0 x1 => ?_
  obtain ⟨y0, y1⟩ := h.xi x0 x1 f0 f1
  obtain ⟨z0, z1⟩ := h.at_ y0 y1
  exact h.xi z0 z1 l0 l1
theorem bij_xr {b g : Nat} {t : List Int} (h : BoxOk b g t) {f : Int} (f0 : 0 ≤ f) (f1 : f < g) : Bij g (fun x => Builtin.bitXor x f) := by
  have hg := h.le
  refine ⟨fun x x0 x1 => h.xi x0 x1 f0 f1, fun x y x0 x1 y0 y1 e => ?_⟩
  exact xr_inj (s_of hg.2 x0 x1) (s_of hg.2 y0 y1) (s_of hg.2 f0 f1) e
def G (t : List Int) (g d : Int) : Int := cntG t g d (irange 0 t.length)
theorem gaps_ext {t u : List Int} {g : Nat} (ht : t.length = g) (hu : u.length = g) (h : ∀ x d : Int, 0 ≤ x → x < g → 0 ≤ d → d < g → G t x d = G u x d) : gapsL t = gapsL u := by
  unfold gapsL rowG
  rw [hu, ht]
  refine map_congr fun x hx => map_congr fun d hd => ?_
  obtain ⟨x0, x1⟩ := mem_irange.mp hx
  obtain ⟨d0, d1⟩ := mem_irange.mp hd
  have := h x d x0 x1 d0 d1
  unfold G at this
  rwa [ht, hu] at this
theorem gaps_row {t : List Int} {g : Nat} (ht : t.length = g) {x : Int} (x0 : 0 ≤ x) (x1 : x < g) : nth (gapsL t) x = (irange 0 (g : Int)).map (G t x) := by
  unfold gapsL
  rw [ht, nth_mapr x0 x1]
  unfold rowG G
  rw [ht]
theorem filter_congr {l : List Int} {p q : Int → Bool} (h : ∀ x ∈ l, p x = q x) : l.filter p = l.filter q := List.filter_congr h
/-- gaps counted after another map of the numbers -/
theorem G_re {b g : Nat} {t u : List Int} (ht : BoxOk b g t) (hu : BoxOk b g u) {φ : Int → Int} (hφ : Bij g φ) {x y d e : Int} (h : ∀ k : Int, 0 ≤ k → k < g → (Builtin.bitXor (nth t k) (nth t (Builtin.bitXor k x)) = d ↔ Builtin.bitXor (nth u (φ k)) (nth u (Builtin.bitXor (φ k) y)) = e)) : G t x d = G u y e := by
  unfold G cntG
  rw [ht.len, hu.len]
  rw [← hφ.count (fun k => decide (Builtin.bitXor (nth u k) (nth u (Builtin.bitXor k y)) = e))]
  congr 2
  refine filter_congr fun k hk => ?_
  obtain ⟨k0, k1⟩ := mem_irange.mp hk
  exact decide_eq_decide.mpr (h k k0 k1)
theorem keyed_gaps {b g : Nat} {t : List Int} (ht : BoxOk b g t) {f l : Int} (f0 : 0 ≤ f) (f1 : f < g) (l0 : 0 ≤ l) (l1 : l < g) : gapsL (keyedL t f l) = gapsL t := by
  have hk := keyed_ok ht f0 f1 l0 l1
  have hg := ht.le
  refine gaps_ext hk.len ht.len fun x d x0 x1 d0 d1 => ?_
  refine G_re hk ht (bij_xr ht f0 f1) fun k k0 k1 => ?_
  obtain ⟨y0, y1⟩ := ht.xi k0 k1 x0 x1
  obtain ⟨z0, z1⟩ := ht.xi k0 k1 f0 f1
  obtain ⟨w0, w1⟩ := ht.xi y0 y1 f0 f1
  rw [keyed_at ht k0 k1, keyed_at ht y0 y1, xr_both (ht.s z0 z1) (ht.s w0 w1) (s_of hg.2 l0 l1), xr_swap (s_of hg.2 k0 k1) (s_of hg.2 x0 x1) (s_of hg.2 f0 f1)]
theorem tail_irange {α : Type} {n : Int} (h : 0 < n) {f : Int → α} : ((irange 0 n).map f).tail = (irange 1 n).map f := by
  rw [irange_cons h]; rfl
theorem most_gap_le {b g : Nat} {t u : List Int} (ht : BoxOk b g t) (hu : BoxOk b g u) (h : ∀ x d : Int, 1 ≤ x → x < g → 0 ≤ d → d < g → ∃ y e : Int, 1 ≤ y ∧ y < g ∧ 0 ≤ e ∧ e < g ∧ G t x d ≤ G u y e) : mostL (gapsL t).tail ≤ mostL (gapsL u).tail := by
  have hg := ht.le
  unfold mostL gapsL
  rw [ht.len, hu.len, tail_irange (by omega), tail_irange (by omega), List.map_map, List.map_map]
  have ne1 : ∀ {α : Type} {f : Int → α}, (irange 1 (g : Int)).map f ≠ [] := fun h => by
    have := congrArg List.length h
    rw [List.length_map, irange_len, List.length_nil] at this
    omega
  have ne0 : ∀ {α : Type} {f : Int → α}, (irange 0 (g : Int)).map f ≠ [] := fun h => by
    have := congrArg List.length h
    rw [List.length_map, irange_len, List.length_nil] at this
    omega
  refine topL_le ne1 fun v hv => ?_
  obtain ⟨x, hx, rfl⟩ := List.mem_map.mp hv
  obtain ⟨x0, x1⟩ := mem_irange.mp hx
  have hm : topL (rowG t x (irange 0 (g : Int))) ∈ rowG t x (irange 0 (g : Int)) := topL_mem (by unfold rowG; rw [ht.len]; exact ne0)
  unfold rowG at hm
  rw [ht.len] at hm
  obtain ⟨d, hd, ed⟩ := List.mem_map.mp hm
  obtain ⟨d0, d1⟩ := mem_irange.mp hd
  obtain ⟨y, e, y0, y1, e0, e1, hle⟩ := h x d x0 x1 d0 d1
  refine ⟨_, List.mem_map.mpr ⟨y, mem_irange.mpr ⟨y0, y1⟩, rfl⟩, ?_⟩
  show topL (rowG t x (irange 0 (g : Int))) ≤ topL (rowG u y (irange 0 (g : Int)))
  have e2 : topL (rowG t x (irange 0 (g : Int))) = G t x d := by
    unfold rowG G
    rw [ht.len]
    exact ed.symm
  rw [e2]
  refine Int.le_trans hle (le_topL ?_)
  unfold rowG G
  rw [hu.len]
  exact List.mem_map.mpr ⟨e, mem_irange.mpr ⟨e0, e1⟩, rfl⟩
theorem int_antisymm {a b : Int} (h : a ≤ b) (h2 : b ≤ a) : a = b := by omega
/-- the sign of a mask -/
def sg (x a : Int) : Int := 1 - 2 * par (Builtin.bitAnd x a)
theorem sg_pm (x a : Int) : sg x a = 1 ∨ sg x a = -1 := by
  unfold sg
  have := par_in (Builtin.bitAnd x a)
  omega
theorem sg_mul (p q : Int) (x a y c : Int) (hp : p = par (Builtin.bitAnd x a)) (hq : q = par (Builtin.bitAnd y c)) : 1 - 2 * Builtin.bitXor p q = sg x a * sg y c := by
  have h1 := par_in (Builtin.bitAnd x a)
  have h2 := par_in (Builtin.bitAnd y c)
  unfold sg
  rw [← hp, ← hq]
  rw [← hp] at h1
  rw [← hq] at h2
  have h3 : p = 0 ∨ p = 1 := by omega
  have h4 : q = 0 ∨ q = 1 := by omega
  rcases h3 with rfl | rfl <;> rcases h4 with rfl | rfl <;> decide
theorem msk_sg {t : List Int} {a c : Int} : mskV t a c = ((irange 0 (t.length : Int)).map fun x => sg x a * sg (nth t x) c).sum := by
  unfold mskV
  congr 1
  exact map_congr fun x _ => sg_mul _ _ _ _ _ _ rfl rfl
theorem sg_xr8 : ∀ x : Fin 8, ∀ y : Fin 8, ∀ c : Fin 8, sg (Builtin.bitXor (x.val : Int) (y.val : Int)) (c.val : Int) = sg x.val c.val * sg y.val c.val := by decide +kernel
theorem sg_xr {x y c : Int} (x0 : 0 ≤ x) (x1 : x < 8) (y0 : 0 ≤ y) (y1 : y < 8) (c0 : 0 ≤ c) (c1 : c < 8) : sg (Builtin.bitXor x y) c = sg x c * sg y c := by
  have := sg_xr8 ⟨x.toNat, by omega⟩ ⟨y.toNat, by omega⟩ ⟨c.toNat, by omega⟩
  rwa [Int.toNat_of_nonneg x0, Int.toNat_of_nonneg y0, Int.toNat_of_nonneg c0] at this
theorem keyed_msk {b g : Nat} {t : List Int} (ht : BoxOk b g t) (h8 : g ≤ 8) {f l : Int} (f0 : 0 ≤ f) (f1 : f < g) (l0 : 0 ≤ l) (l1 : l < g) {a c : Int} (a0 : 0 ≤ a) (a1 : a < g) (c0 : 0 ≤ c) (c1 : c < g) : mskV (keyedL t f l) a c = sg f a * sg l c * mskV t a c := by
  have hk := keyed_ok ht f0 f1 l0 l1
  rw [msk_sg, msk_sg, hk.len, ht.len, ← sum_mul, ← (bij_xr ht f0 f1).sum]
  congr 1
  refine map_congr fun x hx => ?_
  obtain ⟨x0, x1⟩ := mem_irange.mp hx
  obtain ⟨z0, z1⟩ := ht.xi x0 x1 f0 f1
  obtain ⟨w0, w1⟩ := ht.at_ x0 x1
  have hg := ht.le
  rw [keyed_at ht z0 z1, xr_back (s_of hg.2 x0 x1) (s_of hg.2 f0 f1), sg_xr w0 (by omega) l0 (by omega) c0 (by omega), sg_xr x0 (by omega) f0 (by omega) a0 (by omega)]
  ac_rfl
theorem absI_mul {p v : Int} (h : p = 1 ∨ p = -1) : absI (p * v) = absI v := by
  rcases h with rfl | rfl
  · rw [Int.one_mul]
  · unfold absI
    split <;> split <;> omega
theorem pm_mul {p q : Int} (h : p = 1 ∨ p = -1) (h2 : q = 1 ∨ q = -1) : p * q = 1 ∨ p * q = -1 := by
  rcases h with rfl | rfl <;> rcases h2 with rfl | rfl <;> decide
theorem keyed_abs {b g : Nat} {t : List Int} (ht : BoxOk b g t) (h8 : g ≤ 8) {f l : Int} (f0 : 0 ≤ f) (f1 : f < g) (l0 : 0 ≤ l) (l1 : l < g) {a c : Int} (a0 : 0 ≤ a) (a1 : a < g) (c0 : 0 ≤ c) (c1 : c < g) : absI (mskV (keyedL t f l) a c) = absI (mskV t a c) := by
  rw [keyed_msk ht h8 f0 f1 l0 l1 a0 a1 c0 c1]
  exact absI_mul (pm_mul (sg_pm _ _) (sg_pm _ _))
theorem most_mask_le {b g : Nat} {t u : List Int} (ht : BoxOk b g t) (hu : BoxOk b g u) (h : ∀ a c : Int, 0 ≤ a → a < g → 1 ≤ c → c < g → ∃ y e : Int, 0 ≤ y ∧ y < g ∧ 1 ≤ e ∧ e < g ∧ absI (mskV t a c) ≤ absI (mskV u y e)) : mostM (masksL t) ≤ mostM (masksL u) := by
  have hg := ht.le
  have ne1 : ∀ {α : Type} {f : Int → α}, (irange 1 (g : Int)).map f ≠ [] := fun h => by
    have := congrArg List.length h
    rw [List.length_map, irange_len, List.length_nil] at this
    omega
  have ne0 : ∀ {α : Type} {f : Int → α}, (irange 0 (g : Int)).map f ≠ [] := fun h => by
    have := congrArg List.length h
    rw [List.length_map, irange_len, List.length_nil] at this
    omega
  have tA : ∀ (v : List Int) (x : Int), topA ((irange 0 (g : Int)).map fun c => mskV v x c) = topL ((irange 1 (g : Int)).map fun c => absI (mskV v x c)) := fun v x => by
    unfold topA
    rw [tail_irange (by omega), List.map_map]
    rfl
  unfold mostM masksL
  rw [ht.len, hu.len, List.map_map, List.map_map]
  refine topL_le ne0 fun v hv => ?_
  obtain ⟨x, hx, rfl⟩ := List.mem_map.mp hv
  obtain ⟨x0, x1⟩ := mem_irange.mp hx
  have hm : topA ((irange 0 (g : Int)).map fun c => mskV t x c) ∈ (irange 1 (g : Int)).map fun c => absI (mskV t x c) := by
    rw [tA]; exact topL_mem ne1
  obtain ⟨d, hd, ed⟩ := List.mem_map.mp hm
  obtain ⟨d0, d1⟩ := mem_irange.mp hd
  obtain ⟨y, e, y0, y1, e0, e1, hle⟩ := h x d x0 x1 d0 d1
  refine ⟨_, List.mem_map.mpr ⟨y, mem_irange.mpr ⟨y0, y1⟩, rfl⟩, ?_⟩
  show topA ((irange 0 (g : Int)).map fun c => mskV t x c) ≤ topA ((irange 0 (g : Int)).map fun c => mskV u y c)
  rw [← ed, tA]
  exact Int.le_trans hle (le_topL (List.mem_map.mpr ⟨e, mem_irange.mpr ⟨e0, e1⟩, rfl⟩))
theorem keyed_most {b g : Nat} {t : List Int} (ht : BoxOk b g t) (h8 : g ≤ 8) {f l : Int} (f0 : 0 ≤ f) (f1 : f < g) (l0 : 0 ≤ l) (l1 : l < g) : mostM (masksL (keyedL t f l)) = mostM (masksL t) := by
  have hk := keyed_ok ht f0 f1 l0 l1
  refine int_antisymm (most_mask_le hk ht fun a c a0 a1 c0 c1 => ⟨a, c, a0, a1, c0, c1, ?_⟩) (most_mask_le ht hk fun a c a0 a1 c0 c1 => ⟨a, c, a0, a1, c0, c1, ?_⟩)
  · rw [keyed_abs ht h8 f0 f1 l0 l1 a0 a1 (by omega) c1]; exact Int.le_refl _
  · rw [keyed_abs ht h8 f0 f1 l0 l1 a0 a1 (by omega) c1]; exact Int.le_refl _
theorem keyed_back {b g : Nat} {t : List Int} (ht : BoxOk b g t) {f l : Int} (f0 : 0 ≤ f) (f1 : f < g) (l0 : 0 ≤ l) (l1 : l < g) : keyedL (keyedL t f l) f l = t := by
  have hk := keyed_ok ht f0 f1 l0 l1
  have hg := ht.le
  refine list_eq (keyed_ok hk f0 f1 l0 l1).len ht.len fun x x0 x1 => ?_
  obtain ⟨z0, z1⟩ := ht.xi x0 x1 f0 f1
  rw [keyed_at hk x0 x1, keyed_at ht z0 z1, xr_back (s_of hg.2 x0 x1) (s_of hg.2 f0 f1), xr_back (ht.s x0 x1) (s_of hg.2 l0 l1)]
end Row

set_option Elab.async false
set_option linter.all false
set_option maxRecDepth 100000
set_option maxHeartbeats 1000000
namespace Row
open PySem PySem.Spec PyProof.Rows L2 L2.DL
open Enc (enc)
variable [TabL]
/-! plain facts: one-to-one boxes, bits exchanged, joined and turned boxes -/
/-- one-to-one -/
def InjB (t : List Int) : Prop := ∀ x y : Int, 0 ≤ x → x < t.length → 0 ≤ y → y < t.length → nth t x = nth t y → x = y
theorem pairs_nil {t : List Int} : pairsL t = [] ↔ InjB t := by
  unfold pairsL InjB
  rw [List.flatMap_eq_nil_iff]
  constructor
  · intro h
    have hlt : ∀ x y : Int, 0 ≤ x → x < y → y < t.length → nth t x ≠ nth t y := fun x y x0 xy y1 e => by
      have h1 := h x (mem_irange.mpr ⟨x0, by omega⟩)
      rw [List.map_eq_nil_iff, List.filter_eq_nil_iff] at h1
      exact h1 y (mem_irange.mpr ⟨by omega, y1⟩) (decide_eq_true e)
    intro x y x0 x1 y0 y1 e
    have : ¬ x < y := fun z => hlt x y x0 z y1 e
    have : ¬ y < x := fun z => hlt y x y0 z x1 e.symm
    omega
  · intro h x hx
    obtain ⟨x0, x1⟩ := mem_irange.mp hx
    rw [List.map_eq_nil_iff, List.filter_eq_nil_iff]
    intro y hy
    obtain ⟨y0, y1⟩ := mem_irange.mp hy
    rw [decide_eq_true_eq]
    intro e
    have := h x y x0 x1 (by omega) y1 e
    omega
theorem nth_get {l : List Int} {i : Nat} (h : i < l.length) : nth l (i : Int) = l[i] := by
  unfold nth
  rw [Int.toNat_natCast, List.getElem?_eq_getElem h]; rfl
theorem inj_nodup {t : List Int} (h : t.Nodup) : InjB t := by
  intro x y x0 x1 y0 y1 e
  obtain ⟨i, rfl⟩ := Int.eq_ofNat_of_zero_le x0
  obtain ⟨j, rfl⟩ := Int.eq_ofNat_of_zero_le y0
  have i1 : i < t.length := by omega
  have j1 : j < t.length := by omega
  rw [nth_get i1, nth_get j1] at e
  have hp := List.pairwise_iff_getElem.mp h
  have h1 : ¬ i < j := fun z => hp i j i1 j1 z e
  have h2 : ¬ j < i := fun z => hp j i j1 i1 z e.symm
  omega
theorem perm_box {b g : Nat} (hb0 : 1 ≤ b) (hb : b ≤ 4) (hp : 2 ^ b = g) {r : List Int} (h : r.Perm (irange 0 (g : Int))) : BoxOk b g r ∧ InjB r := by
  refine ⟨⟨hb0, hb, hp, ?_, fun x hx => mem_irange.mp (h.mem_iff.mp hx)⟩, inj_nodup (h.nodup_iff.mpr irange_nodup)⟩
  rw [h.length_eq, irange_len]; omega
theorem BoxOk.bij {b g : Nat} {t : List Int} (h : BoxOk b g t) (hi : InjB t) : Bij g (nth t) := by
  refine ⟨fun x x0 x1 => h.at_ x0 x1, fun x y x0 x1 y0 y1 e => hi x y x0 (by rw [h.len]; exact x1) y0 (by rw [h.len]; exact y1) e⟩
theorem Bij.inj_box {b g : Nat} {t : List Int} (h : BoxOk b g t) (hb : Bij g (nth t)) : InjB t := by
  intro x y x0 x1 y0 y1 e
  rw [h.len] at x1 y1
  exact hb.inj x y x0 x1 y0 y1 e
theorem joined_at {b g : Nat} {t u : List Int} (ht : BoxOk b g t) {x : Int} (x0 : 0 ≤ x) (x1 : x < g) : nth (joinedL t u) x = nth u (nth t x) := by
  unfold joinedL
  rw [nth_map x0 (by rw [ht.len]; exact x1)]
theorem joined_ok {b g : Nat} {t u : List Int} (ht : BoxOk b g t) (hu : BoxOk b g u) : BoxOk b g (joinedL t u) := by
  refine ⟨ht.lo, ht.hi, ht.pw, ?_, fun x hx => ?_⟩
  · unfold joinedL; rw [List.length_map, ht.len]
  · unfold joinedL at hx
    obtain ⟨y, hy, rfl⟩ := List.mem_map.mp hx
    obtain ⟨y0, y1⟩ := ht.in_ y hy
    exact hu.at_ y0 y1
theorem joined_assoc {b g : Nat} {t u v : List Int} (ht : BoxOk b g t) (hu : BoxOk b g u) : joinedL (joinedL t u) v = joinedL t (joinedL u v) := by
  unfold joinedL
  rw [List.map_map]
  refine map_congr fun x hx => ?_
  obtain ⟨x0, x1⟩ := ht.in_ x hx
  rw [nth_map x0 (by rw [hu.len]; exact x1)]
  rfl
/-- bits exchanged -/
structure Swp (b g : Nat) (s : List Int) : Prop where
  ok : BoxOk b g s
  bij : Bij g (nth s)
  lin : ∀ x y : Int, 0 ≤ x → x < g → 0 ≤ y → y < g → nth s (Builtin.bitXor x y) = Builtin.bitXor (nth s x) (nth s y)
  tr : ∃ u : Int → Int, (∀ c : Int, 1 ≤ c → c < g → 1 ≤ u c ∧ u c < g) ∧ (∀ c : Int, 1 ≤ c → c < g → ∃ d : Int, 1 ≤ d ∧ d < g ∧ u d = c) ∧ ∀ y c : Int, 0 ≤ y → y < g → 1 ≤ c → c < g → sg (nth s y) c = sg y (u c)
variable {b g : Nat} {t s o : List Int}
theorem Swp.zero (h : Swp b g s) : nth s 0 = 0 := by
  have hg := h.ok.le
  have := h.lin 0 0 (by decide) (by omega) (by decide) (by omega)
  rwa [xr_self s0, xr_self (h.ok.s (by decide) (by omega))] at this
theorem Swp.pos (h : Swp b g s) {x : Int} (x0 : 1 ≤ x) (x1 : x < g) : 1 ≤ nth s x ∧ nth s x < g := by
  obtain ⟨h1, h2⟩ := h.ok.at_ (i := x) (by omega) x1
  refine ⟨?_, h2⟩
  have : nth s x ≠ 0 := fun e => by
    have := h.bij.inj x 0 (by omega) x1 (by decide) (by omega) (by rw [e, h.zero])
    omega
  omega
theorem Swp.surj (h : Swp b g s) {y : Int} (y0 : 1 ≤ y) (y1 : y < g) : ∃ x : Int, 1 ≤ x ∧ x < g ∧ nth s x = y := by
  obtain ⟨x, x0, x1, e⟩ := h.bij.surj (y := y) (by omega) y1
  refine ⟨x, ?_, x1, e⟩
  have : x ≠ 0 := fun z => by rw [z, h.zero] at e; omega
  omega
theorem ahead_G (hs : Swp b g s) (ht : BoxOk b g t) {x d : Int} (x0 : 0 ≤ x) (x1 : x < g) : G (joinedL s t) x d = G t (nth s x) d := by
  refine G_re (joined_ok hs.ok ht) ht hs.bij fun k k0 k1 => ?_
  obtain ⟨y0, y1⟩ := ht.xi k0 k1 x0 x1
  rw [joined_at hs.ok k0 k1, joined_at hs.ok y0 y1, hs.lin k x k0 k1 x0 x1]
theorem ahead_most (hs : Swp b g s) (ht : BoxOk b g t) : mostL (gapsL (joinedL s t)).tail = mostL (gapsL t).tail := by
  have hj := joined_ok hs.ok ht
  refine int_antisymm (most_gap_le hj ht fun x d x0 x1 d0 d1 => ?_) (most_gap_le ht hj fun x d x0 x1 d0 d1 => ?_)
  · obtain ⟨y0, y1⟩ := hs.pos x0 x1
    exact ⟨nth s x, d, y0, y1, d0, d1, by rw [ahead_G hs ht (by omega) x1]; exact Int.le_refl _⟩
  · obtain ⟨y, y0, y1, e⟩ := hs.surj x0 x1
    exact ⟨y, d, y0, y1, d0, d1, by rw [ahead_G hs ht (by omega) y1, e]; exact Int.le_refl _⟩
theorem bij_id : Bij g (fun x => x) := ⟨fun x x0 x1 => ⟨x0, x1⟩, fun x y _ _ _ _ e => e⟩
theorem behind_G (hs : Swp b g s) (ht : BoxOk b g t) {x d : Int} (x0 : 0 ≤ x) (x1 : x < g) (d0 : 0 ≤ d) (d1 : d < g) : G (joinedL t s) x (nth s d) = G t x d := by
  refine G_re (joined_ok ht hs.ok) ht bij_id fun k k0 k1 => ?_
  obtain ⟨y0, y1⟩ := ht.xi k0 k1 x0 x1
  obtain ⟨z0, z1⟩ := ht.at_ k0 k1
  obtain ⟨w0, w1⟩ := ht.at_ y0 y1
  obtain ⟨v0, v1⟩ := ht.xi z0 z1 w0 w1
  rw [joined_at ht k0 k1, joined_at ht y0 y1, ← hs.lin _ _ z0 z1 w0 w1]
  exact ⟨fun e => hs.bij.inj _ _ v0 v1 d0 d1 e, fun e => congrArg (nth s) e⟩
theorem behind_most (hs : Swp b g s) (ht : BoxOk b g t) : mostL (gapsL (joinedL t s)).tail = mostL (gapsL t).tail := by
  have hj := joined_ok ht hs.ok
  refine int_antisymm (most_gap_le hj ht fun x d x0 x1 d0 d1 => ?_) (most_gap_le ht hj fun x d x0 x1 d0 d1 => ?_)
  · obtain ⟨e, e0, e1, rfl⟩ := hs.bij.surj d0 d1
    exact ⟨x, e, x0, x1, e0, e1, by rw [behind_G hs ht (by omega) x1 e0 e1]; exact Int.le_refl _⟩
  · obtain ⟨y0, y1⟩ := hs.ok.at_ d0 d1
    exact ⟨x, nth s d, x0, x1, y0, y1, by rw [behind_G hs ht (by omega) x1 d0 d1]; exact Int.le_refl _⟩
theorem behind_mask (hs : Swp b g s) (ht : BoxOk b g t) : mostM (masksL (joinedL t s)) = mostM (masksL t) := by
  have hj := joined_ok ht hs.ok
  obtain ⟨u, u1, u2, u3⟩ := hs.tr
  have hm : ∀ a c : Int, 1 ≤ c → c < g → mskV (joinedL t s) a c = mskV t a (u c) := fun a c c0 c1 => by
    rw [msk_sg, msk_sg, hj.len, ht.len]
    congr 1
    refine map_congr fun x hx => ?_
    obtain ⟨x0, x1⟩ := mem_irange.mp hx
    obtain ⟨z0, z1⟩ := ht.at_ x0 x1
    rw [joined_at ht x0 x1, u3 _ c z0 z1 c0 c1]
  refine int_antisymm (most_mask_le hj ht fun a c a0 a1 c0 c1 => ?_) (most_mask_le ht hj fun a c a0 a1 c0 c1 => ?_)
  · obtain ⟨y0, y1⟩ := u1 c c0 c1
    exact ⟨a, u c, a0, a1, y0, y1, by rw [hm a c c0 c1]; exact Int.le_refl _⟩
  · obtain ⟨d, d0, d1, rfl⟩ := u2 c c0 c1
    exact ⟨a, d, a0, a1, d0, d1, by rw [hm a d d0 d1]; exact Int.le_refl _⟩
theorem last_fold {t : List Int} {d x : Int} : ∀ {l : List Int} {a : Int}, (∀ y ∈ l, (nth t y = d ↔ y = x)) → l.foldl (fun a y => if nth t y = d then y else a) a = if x ∈ l then x else a
  | [], a, _ => by simp
  | y :: l, a, h => by
    have h1 := h y (List.mem_cons_self ..)
    rw [List.foldl_cons, last_fold fun z hz => h z (List.mem_cons_of_mem _ hz)]
    by_cases hx : x ∈ l
    · rw [if_pos hx, if_pos (List.mem_cons_of_mem _ hx)]
    · rw [if_neg hx]
      by_cases hy : y = x
      · rw [if_pos (h1.mpr hy), if_pos (by rw [hy]; exact List.mem_cons_self ..), hy]
      · rw [if_neg (fun z => hy (h1.mp z)), if_neg]
        intro hm
        rcases List.mem_cons.mp hm with e | e
        · exact hy e.symm
        · exact hx e
theorem inv_at (ho : BoxOk b g o) (hi : InjB o) {x : Int} (x0 : 0 ≤ x) (x1 : x < g) : nth (invL o) (nth o x) = x := by
  obtain ⟨y0, y1⟩ := ho.at_ x0 x1
  unfold invL lastAt
  rw [ho.len, nth_mapr y0 y1, last_fold (x := x) (fun y hy => ?_), if_pos (mem_irange.mpr ⟨x0, x1⟩)]
  obtain ⟨y0, y1⟩ := mem_irange.mp hy
  exact ⟨fun e => (ho.bij hi).inj y x y0 y1 x0 x1 e, fun e => by rw [e]⟩
theorem inv_ok (ho : BoxOk b g o) (hi : InjB o) : BoxOk b g (invL o) ∧ InjB (invL o) := by
  have hl : (invL o).length = g := by unfold invL; rw [List.length_map, irange_len, ho.len]; omega
  have hok : BoxOk b g (invL o) := by
    refine ⟨ho.lo, ho.hi, ho.pw, hl, fun x hx => ?_⟩
    rw [list_irange (t := invL o), hl] at hx
    obtain ⟨y, hy, rfl⟩ := List.mem_map.mp hx
    obtain ⟨y0, y1⟩ := mem_irange.mp hy
    obtain ⟨z, z0, z1, rfl⟩ := (ho.bij hi).surj y0 y1
    rw [inv_at ho hi z0 z1]
    exact ⟨z0, z1⟩
  refine ⟨hok, Bij.inj_box hok ⟨fun x x0 x1 => hok.at_ x0 x1, fun x y x0 x1 y0 y1 e => ?_⟩⟩
  obtain ⟨z, z0, z1, rfl⟩ := (ho.bij hi).surj x0 x1
  obtain ⟨w, w0, w1, rfl⟩ := (ho.bij hi).surj y0 y1
  rw [inv_at ho hi z0 z1, inv_at ho hi w0 w1] at e
  rw [e]
theorem inv_at2 (ho : BoxOk b g o) (hi : InjB o) {y : Int} (y0 : 0 ≤ y) (y1 : y < g) : nth o (nth (invL o) y) = y := by
  obtain ⟨z, z0, z1, rfl⟩ := (ho.bij hi).surj y0 y1
  rw [inv_at ho hi z0 z1]
theorem inv_inv (ho : BoxOk b g o) (hi : InjB o) : invL (invL o) = o := by
  obtain ⟨h1, h2⟩ := inv_ok ho hi
  refine list_eq (inv_ok h1 h2).1.len ho.len fun x x0 x1 => ?_
  have := inv_at h1 h2 (ho.at_ x0 x1).1 (ho.at_ x0 x1).2
  rwa [inv_at ho hi x0 x1] at this
theorem inv_msk (ho : BoxOk b g o) (hi : InjB o) (a c : Int) : mskV (invL o) a c = mskV o c a := by
  obtain ⟨h1, h2⟩ := inv_ok ho hi
  rw [msk_sg, msk_sg, h1.len, ho.len, ← (ho.bij hi).sum]
  congr 1
  refine map_congr fun x hx => ?_
  obtain ⟨x0, x1⟩ := mem_irange.mp hx
  rw [inv_at ho hi x0 x1, Int.mul_comm]
theorem inv_G (ho : BoxOk b g o) (hi : InjB o) {x d : Int} (x0 : 0 ≤ x) (x1 : x < g) (d0 : 0 ≤ d) (d1 : d < g) : G (invL o) x d = G o d x := by
  obtain ⟨h1, h2⟩ := inv_ok ho hi
  have hg := ho.le
  refine G_re h1 ho (h1.bij h2) fun k k0 k1 => ?_
  obtain ⟨y0, y1⟩ := h1.at_ k0 k1
  obtain ⟨z0, z1⟩ := ho.xi k0 k1 x0 x1
  obtain ⟨w0, w1⟩ := ho.xi y0 y1 d0 d1
  obtain ⟨v0, v1⟩ := h1.at_ z0 z1
  obtain ⟨u0, u1⟩ := ho.at_ w0 w1
  rw [xr_eq (h1.s k0 k1) (h1.s z0 z1) (s_of hg.2 d0 d1), inv_at2 ho hi k0 k1, xr_eq (s_of hg.2 k0 k1) (ho.s w0 w1) (s_of hg.2 x0 x1)]
  constructor
  · intro e
    rw [← e, inv_at2 ho hi z0 z1]
  · intro e
    rw [← e, inv_at ho hi w0 w1]
theorem G_nonneg {x d : Int} : 0 ≤ G t x d := Int.natCast_nonneg _
theorem G_zero (ht : BoxOk b g t) {d : Int} (d0 : 1 ≤ d) : G t 0 d = 0 := by
  have hg := ht.le
  unfold G cntG
  rw [List.filter_eq_nil_iff.mpr]
  · rfl
  · intro k hk
    obtain ⟨k0, k1⟩ := mem_irange.mp hk
    rw [ht.len] at k1
    rw [xr_zero (s_of hg.2 k0 k1), xr_self (ht.s k0 k1), decide_eq_true_eq]
    omega
theorem G_inj (ht : BoxOk b g t) (hi : InjB t) {x : Int} (x0 : 1 ≤ x) (x1 : x < g) : G t x 0 = 0 := by
  have hg := ht.le
  unfold G cntG
  rw [List.filter_eq_nil_iff.mpr]
  · rfl
  · intro k hk
    obtain ⟨k0, k1⟩ := mem_irange.mp hk
    rw [ht.len] at k1
    obtain ⟨z0, z1⟩ := ht.xi k0 k1 (show 0 ≤ x by omega) x1
    rw [decide_eq_true_eq, xr_eq (ht.s k0 k1) (ht.s z0 z1) s0, xr_zero (ht.s k0 k1)]
    intro e
    have e2 := (ht.bij hi).inj _ _ z0 z1 k0 k1 e
    rw [xr_eq (s_of hg.2 k0 k1) (s_of hg.2 (show 0 ≤ x by omega) x1) (s_of hg.2 k0 k1), xr_self (s_of hg.2 k0 k1)] at e2
    omega
theorem inv_most_le (ho : BoxOk b g o) (hi : InjB o) : mostL (gapsL (invL o)).tail ≤ mostL (gapsL o).tail := by
  obtain ⟨h1, h2⟩ := inv_ok ho hi
  have hg := ho.le
  refine most_gap_le h1 ho fun x d x0 x1 d0 d1 => ?_
  rw [inv_G ho hi (by omega) x1 d0 d1]
  by_cases hd : d = 0
  · rw [hd, G_zero ho x0]
    exact ⟨1, 0, by omega, by omega, by omega, by omega, G_nonneg⟩
  · exact ⟨d, x, by omega, d1, by omega, x1, Int.le_refl _⟩
theorem inv_most (ho : BoxOk b g o) (hi : InjB o) : mostL (gapsL (invL o)).tail = mostL (gapsL o).tail := by
  obtain ⟨h1, h2⟩ := inv_ok ho hi
  refine int_antisymm (inv_most_le ho hi) ?_
  have := inv_most_le h1 h2
  rwa [inv_inv ho hi] at this
theorem sg_zero {y : Int} (y0 : 0 ≤ y) (y1 : y < 16) : sg y 0 = 1 := by
  have : ∀ y : Fin 16, sg (y.val : Int) 0 = 1 := by decide +kernel
  have := this ⟨y.toNat, by omega⟩
  rwa [Int.toNat_of_nonneg y0] at this
theorem sum_sg (hg : g = 2 ∨ g = 4 ∨ g = 8) {c : Int} (c0 : 1 ≤ c) (c1 : c < g) : ((irange 0 (g : Int)).map fun x => sg x c).sum = 0 := by
  have h2 : ∀ c : Fin 2, 1 ≤ c.val → ((irange 0 2).map fun x => sg x c.val).sum = 0 := by decide +kernel
  have h4 : ∀ c : Fin 4, 1 ≤ c.val → ((irange 0 4).map fun x => sg x c.val).sum = 0 := by decide +kernel
  have h8 : ∀ c : Fin 8, 1 ≤ c.val → ((irange 0 8).map fun x => sg x c.val).sum = 0 := by decide +kernel
  rcases hg with rfl | rfl | rfl
  · have := h2 ⟨c.toNat, by omega⟩ (by show 1 ≤ c.toNat; omega)
    rwa [Int.toNat_of_nonneg (by omega)] at this
  · have := h4 ⟨c.toNat, by omega⟩ (by show 1 ≤ c.toNat; omega)
    rwa [Int.toNat_of_nonneg (by omega)] at this
  · have := h8 ⟨c.toNat, by omega⟩ (by show 1 ≤ c.toNat; omega)
    rwa [Int.toNat_of_nonneg (by omega)] at this
theorem msk_zero (ht : BoxOk b g t) (hg : g = 2 ∨ g = 4 ∨ g = 8) {a : Int} (a0 : 1 ≤ a) (a1 : a < g) : mskV t a 0 = 0 := by
  have hl := ht.le
  rw [msk_sg, ht.len]
  refine Eq.trans ?_ (sum_sg hg a0 a1)
  congr 1
  refine map_congr fun x hx => ?_
  obtain ⟨x0, x1⟩ := mem_irange.mp hx
  obtain ⟨z0, z1⟩ := ht.at_ x0 x1
  rw [sg_zero z0 (by omega), Int.mul_one]
theorem absI_nonneg (v : Int) : 0 ≤ absI v := by unfold absI; split <;> omega
theorem inv_mask_le (ho : BoxOk b g o) (hi : InjB o) (hg : g = 2 ∨ g = 4 ∨ g = 8) : mostM (masksL (invL o)) ≤ mostM (masksL o) := by
  obtain ⟨h1, h2⟩ := inv_ok ho hi
  have hl := ho.le
  refine most_mask_le h1 ho fun a c a0 a1 c0 c1 => ?_
  rw [inv_msk ho hi]
  by_cases ha : a = 0
  · rw [ha, msk_zero ho hg c0 c1]
    exact ⟨0, 1, by omega, by omega, by omega, by omega, absI_nonneg _⟩
  · exact ⟨c, a, by omega, c1, by omega, a1, Int.le_refl _⟩
theorem inv_mask (ho : BoxOk b g o) (hi : InjB o) (hg : g = 2 ∨ g = 4 ∨ g = 8) : mostM (masksL (invL o)) = mostM (masksL o) := by
  obtain ⟨h1, h2⟩ := inv_ok ho hi
  refine int_antisymm (inv_mask_le ho hi hg) ?_
  have := inv_mask_le h1 h2 hg
  rwa [inv_inv ho hi] at this
end Row

set_option Elab.async false
set_option linter.all false
set_option maxRecDepth 100000
set_option maxHeartbeats 1000000
namespace Row
open PySem PySem.Spec PyProof.Rows L2 L2.DL
open Enc (enc)
variable [TabL]
/-! plain facts: the degree, bit by bit -/
/-- the degree of one bit -/
def dg (b : Nat) (row : List Int) : Int := topL (0 :: ((irange 0 row.length).filter fun k => decide (nth (mobI b row) k = 1)).map ones)
def bitsOf : Nat → List (List Int)
  | 0 => [[]]
  | n + 1 => (bitsOf n).flatMap fun r => [0 :: r, 1 :: r]
theorem mem_bitsOf : ∀ {n : Nat} {r : List Int}, r.length = n → Bits r → r ∈ bitsOf n
  | 0, [], _, _ => by rw [bitsOf]; exact List.mem_singleton.mpr rfl
  | 0, _ :: _, h, _ => by cases h
  | n + 1, [], h, _ => by cases h
  | n + 1, a :: r, h, hb => by
    rw [bitsOf, List.mem_flatMap]
    refine ⟨r, mem_bitsOf (Nat.succ.inj h) fun x hx => hb x (List.mem_cons_of_mem _ hx), ?_⟩
    have h1 := hb a (List.mem_cons_self ..)
    have : a = 0 ∨ a = 1 := by omega
    rcases this with rfl | rfl <;> simp
/-- the sums over parts for three bits -/
def dgQ : List Int → Int
  | [a0, a1, a2, a3, a4, a5, a6, a7] =>
    if (a0 + a1 + a2 + a3 + a4 + a5 + a6 + a7) % 2 = 1 then 3
    else if (a0 + a1 + a2 + a3) % 2 = 1 ∨ (a0 + a1 + a4 + a5) % 2 = 1 ∨ (a0 + a2 + a4 + a6) % 2 = 1 then 2
    else if (a0 + a1) % 2 = 1 ∨ (a0 + a2) % 2 = 1 ∨ (a0 + a4) % 2 = 1 then 1 else 0
  | _ => 0
theorem dg_dgQ : ∀ r ∈ bitsOf 8, dg 3 r = dgQ r := by decide +kernel
def tabs1 : List (List Int) := [[0, 1], [1, 0]]
def swaps1 : List (List Int) := [[0, 1]]
def tabs2 : List (List Int) := [[0, 1, 2, 3], [1, 0, 3, 2], [2, 3, 0, 1], [3, 2, 1, 0], [0, 2, 1, 3]]
def swaps2 : List (List Int) := [[0, 1, 2, 3], [0, 2, 1, 3]]
def tabs3 : List (List Int) := [[0, 1, 2, 3, 4, 5, 6, 7], [1, 0, 3, 2, 5, 4, 7, 6], [2, 3, 0, 1, 6, 7, 4, 5], [3, 2, 1, 0, 7, 6, 5, 4], [4, 5, 6, 7, 0, 1, 2, 3], [5, 4, 7, 6, 1, 0, 3, 2], [6, 7, 4, 5, 2, 3, 0, 1], [7, 6, 5, 4, 3, 2, 1, 0], [0, 1, 4, 5, 2, 3, 6, 7], [0, 2, 1, 3, 4, 6, 5, 7], [0, 2, 4, 6, 1, 3, 5, 7], [0, 4, 1, 5, 2, 6, 3, 7], [0, 4, 2, 6, 1, 5, 3, 7]]
def swaps3 : List (List Int) := [[0, 1, 2, 3, 4, 5, 6, 7], [0, 1, 4, 5, 2, 3, 6, 7], [0, 2, 1, 3, 4, 6, 5, 7], [0, 2, 4, 6, 1, 3, 5, 7], [0, 4, 1, 5, 2, 6, 3, 7], [0, 4, 2, 6, 1, 5, 3, 7]]
def tabs : Nat → List (List Int)
  | 1 => tabs1
  | 2 => tabs2
  | 3 => tabs3
  | _ => []
def swaps : Nat → List (List Int)
  | 1 => swaps1
  | 2 => swaps2
  | 3 => swaps3
  | _ => []
theorem re1 : ∀ T ∈ tabs1, ∀ r ∈ bitsOf 2, dg 1 ((irange 0 2).map fun x => nth r (nth T x)) = dg 1 r := by decide +kernel
theorem re2 : ∀ T ∈ tabs2, ∀ r ∈ bitsOf 4, dg 2 ((irange 0 4).map fun x => nth r (nth T x)) = dg 2 r := by decide +kernel
theorem re3 : ∀ T ∈ tabs3, ∀ r ∈ bitsOf 8, dgQ ((irange 0 8).map fun x => nth r (nth T x)) = dgQ r := by decide +kernel
theorem not1 : ∀ r ∈ bitsOf 2, dg 1 (r.map (1 - ·)) = dg 1 r := by decide +kernel
theorem not2 : ∀ r ∈ bitsOf 4, dg 2 (r.map (1 - ·)) = dg 2 r := by decide +kernel
theorem not3 : ∀ r ∈ bitsOf 8, dgQ (r.map (1 - ·)) = dgQ r := by decide +kernel
theorem zer1 : ∀ r ∈ bitsOf 2, (dg 1 r = 0 ↔ ∀ x ∈ irange 0 2, nth r x = nth r 0) := by decide +kernel
theorem zer2 : ∀ r ∈ bitsOf 4, (dg 2 r = 0 ↔ ∀ x ∈ irange 0 4, nth r x = nth r 0) := by decide +kernel
theorem zer3 : ∀ r ∈ bitsOf 8, (dgQ r = 0 ↔ ∀ x ∈ irange 0 8, nth r x = nth r 0) := by decide +kernel
theorem lin1 : ∀ r ∈ bitsOf 2, (dg 1 r < 2 ↔ ∀ x ∈ irange 0 2, ∀ y ∈ irange 0 2, nth r (Builtin.bitXor x y) = Builtin.bitXor (Builtin.bitXor (nth r x) (nth r y)) (nth r 0)) := by decide +kernel
theorem lin2 : ∀ r ∈ bitsOf 4, (dg 2 r < 2 ↔ ∀ x ∈ irange 0 4, ∀ y ∈ irange 0 4, nth r (Builtin.bitXor x y) = Builtin.bitXor (Builtin.bitXor (nth r x) (nth r y)) (nth r 0)) := by decide +kernel
theorem lin3 : ∀ r ∈ bitsOf 8, (dgQ r < 2 ↔ ∀ x ∈ irange 0 8, ∀ y ∈ irange 0 8, nth r (Builtin.bitXor x y) = Builtin.bitXor (Builtin.bitXor (nth r x) (nth r y)) (nth r 0)) := by decide +kernel
theorem le1 : ∀ r ∈ bitsOf 2, 0 ≤ dg 1 r ∧ dg 1 r ≤ 1 := by decide +kernel
theorem le2 : ∀ r ∈ bitsOf 4, 0 ≤ dg 2 r ∧ dg 2 r ≤ 2 := by decide +kernel
theorem le3 : ∀ r ∈ bitsOf 8, 0 ≤ dgQ r ∧ dgQ r ≤ 3 := by decide +kernel
theorem top3 : ∀ r ∈ bitsOf 8, (dgQ r ≤ 2 ↔ r.sum % 2 = 0) := by decide +kernel
def B3 (b g : Nat) : Prop := (b = 1 ∧ g = 2) ∨ (b = 2 ∧ g = 4) ∨ (b = 3 ∧ g = 8)
theorem bits_map {g : Nat} {φ : Int → Int} (h : ∀ x : Int, 0 ≤ x → x < g → 0 ≤ φ x ∧ φ x < 2) : (irange 0 (g : Int)).map φ ∈ bitsOf g := by
  refine mem_bitsOf (by rw [List.length_map, irange_len]; omega) fun x hx => ?_
  obtain ⟨y, hy, rfl⟩ := List.mem_map.mp hx
  obtain ⟨y0, y1⟩ := mem_irange.mp hy
  exact h y y0 y1
theorem len_bitsOf : ∀ {n : Nat} {r : List Int}, r ∈ bitsOf n → r.length = n ∧ Bits r
  | 0, r, h => by
    rw [bitsOf] at h
    rw [List.mem_singleton.mp h]
    exact ⟨rfl, fun x hx => nomatch hx⟩
  | n + 1, r, h => by
    rw [bitsOf, List.mem_flatMap] at h
    obtain ⟨q, hq, hr⟩ := h
    obtain ⟨h1, h2⟩ := len_bitsOf hq
    simp only [List.mem_cons, List.not_mem_nil, or_false] at hr
    rcases hr with rfl | rfl
    · refine ⟨by rw [List.length_cons, h1], fun x hx => ?_⟩
      rcases List.mem_cons.mp hx with rfl | hx
      · omega
      · exact h2 x hx
    · refine ⟨by rw [List.length_cons, h1], fun x hx => ?_⟩
      rcases List.mem_cons.mp hx with rfl | hx
      · omega
      · exact h2 x hx
theorem bit_at {g : Nat} {r : List Int} (h : r ∈ bitsOf g) {x : Int} (x0 : 0 ≤ x) (x1 : x < g) : 0 ≤ nth r x ∧ nth r x < 2 := (len_bitsOf h).2 _ (nth_mem x0 (by rw [(len_bitsOf h).1]; exact x1))
theorem tabs_in1 : ∀ T ∈ tabs1, T.length = 2 ∧ ∀ x ∈ T, 0 ≤ x ∧ x < 2 := by decide +kernel
theorem tabs_in2 : ∀ T ∈ tabs2, T.length = 4 ∧ ∀ x ∈ T, 0 ≤ x ∧ x < 4 := by decide +kernel
theorem tabs_in3 : ∀ T ∈ tabs3, T.length = 8 ∧ ∀ x ∈ T, 0 ≤ x ∧ x < 8 := by decide +kernel
theorem tabs_in {b g : Nat} (hb : B3 b g) {T : List Int} (hT : T ∈ tabs b) {x : Int} (x0 : 0 ≤ x) (x1 : x < g) : 0 ≤ nth T x ∧ nth T x < g := by
  rcases hb with ⟨rfl, rfl⟩ | ⟨rfl, rfl⟩ | ⟨rfl, rfl⟩
  · obtain ⟨h1, h2⟩ := tabs_in1 T hT; exact h2 _ (nth_mem x0 (by omega))
  · obtain ⟨h1, h2⟩ := tabs_in2 T hT; exact h2 _ (nth_mem x0 (by omega))
  · obtain ⟨h1, h2⟩ := tabs_in3 T hT; exact h2 _ (nth_mem x0 (by omega))
theorem dg_re {b g : Nat} (hb : B3 b g) {T : List Int} (hT : T ∈ tabs b) {r : List Int} (hr : r ∈ bitsOf g) : dg b ((irange 0 (g : Int)).map fun x => nth r (nth T x)) = dg b r := by
  have hm : (irange 0 (g : Int)).map (fun x => nth r (nth T x)) ∈ bitsOf g := bits_map fun x x0 x1 => by
    obtain ⟨y0, y1⟩ := tabs_in hb hT x0 x1
    exact bit_at hr y0 y1
  rcases hb with ⟨rfl, rfl⟩ | ⟨rfl, rfl⟩ | ⟨rfl, rfl⟩
  · exact re1 T hT r hr
  · exact re2 T hT r hr
  · rw [dg_dgQ _ hm, dg_dgQ r hr]; exact re3 T hT r hr
theorem dg_not {b g : Nat} (hb : B3 b g) {r : List Int} (hr : r ∈ bitsOf g) : dg b (r.map (1 - ·)) = dg b r := by
  have hm : r.map (1 - ·) ∈ bitsOf g := by
    obtain ⟨h1, h2⟩ := len_bitsOf hr
    refine mem_bitsOf (by rw [List.length_map, h1]) fun x hx => ?_
    obtain ⟨y, hy, rfl⟩ := List.mem_map.mp hx
    have := h2 y hy
    omega
  rcases hb with ⟨rfl, rfl⟩ | ⟨rfl, rfl⟩ | ⟨rfl, rfl⟩
  · exact not1 r hr
  · exact not2 r hr
  · rw [dg_dgQ _ hm, dg_dgQ r hr]; exact not3 r hr
theorem dg_zero {b g : Nat} (hb : B3 b g) {r : List Int} (hr : r ∈ bitsOf g) : dg b r = 0 ↔ ∀ x ∈ irange 0 (g : Int), nth r x = nth r 0 := by
  rcases hb with ⟨rfl, rfl⟩ | ⟨rfl, rfl⟩ | ⟨rfl, rfl⟩
  · exact zer1 r hr
  · exact zer2 r hr
  · rw [dg_dgQ r hr]; exact zer3 r hr
theorem dg_lin {b g : Nat} (hb : B3 b g) {r : List Int} (hr : r ∈ bitsOf g) : dg b r < 2 ↔ ∀ x ∈ irange 0 (g : Int), ∀ y ∈ irange 0 (g : Int), nth r (Builtin.bitXor x y) = Builtin.bitXor (Builtin.bitXor (nth r x) (nth r y)) (nth r 0) := by
  rcases hb with ⟨rfl, rfl⟩ | ⟨rfl, rfl⟩ | ⟨rfl, rfl⟩
  · exact lin1 r hr
  · exact lin2 r hr
  · rw [dg_dgQ r hr]; exact lin3 r hr
theorem dg_le {b g : Nat} (hb : B3 b g) {r : List Int} (hr : r ∈ bitsOf g) : 0 ≤ dg b r ∧ dg b r ≤ b := by
  rcases hb with ⟨rfl, rfl⟩ | ⟨rfl, rfl⟩ | ⟨rfl, rfl⟩
  · exact le1 r hr
  · exact le2 r hr
  · rw [dg_dgQ r hr]; exact le3 r hr
theorem dg_top {r : List Int} (hr : r ∈ bitsOf 8) : dg 3 r ≤ 2 ↔ r.sum % 2 = 0 := by
  rw [dg_dgQ r hr]; exact top3 r hr
end Row

set_option Elab.async false
set_option linter.all false
set_option maxRecDepth 100000
set_option maxHeartbeats 1000000
namespace Row
open PySem PySem.Spec PyProof.Rows L2 L2.DL
open Enc (enc)
variable [TabL]
/-! plain facts: the degree of boxes -/
variable {b g : Nat} {t u s o : List Int}
theorem degF_le : ∀ {rows : List (List Int)} {a c : Int}, degF rows a ≤ c ↔ a ≤ c ∧ ∀ row ∈ rows, ∀ k ∈ row, ones k ≤ c
  | [], a, c => by
    show a ≤ c ↔ _
    exact ⟨fun h => ⟨h, fun _ h => nomatch h⟩, fun h => h.1⟩
  | row :: rows, a, c => by
    show degF rows (topL (a :: row.map ones)) ≤ c ↔ _
    rw [degF_le]
    constructor
    · rintro ⟨h1, h2⟩
      refine ⟨Int.le_trans (le_topL (List.mem_cons_self ..)) h1, fun r hr k hk => ?_⟩
      rcases List.mem_cons.mp hr with rfl | hr
      · exact Int.le_trans (le_topL (List.mem_cons_of_mem _ (List.mem_map.mpr ⟨k, hk, rfl⟩))) h1
      · exact h2 r hr k hk
    · rintro ⟨h1, h2⟩
      refine ⟨topL_le_of (by simp) fun x hx => ?_, fun r hr => h2 r (List.mem_cons_of_mem _ hr)⟩
      rcases List.mem_cons.mp hx with rfl | hx
      · exact h1
      · obtain ⟨k, hk, rfl⟩ := List.mem_map.mp hx
        exact h2 row (List.mem_cons_self ..) k hk
theorem dg_le_iff {row : List Int} {c : Int} : dg b row ≤ c ↔ 0 ≤ c ∧ ∀ k ∈ (irange 0 (row.length : Int)).filter (fun k => decide (nth (mobI b row) k = 1)), ones k ≤ c := by
  unfold dg
  constructor
  · intro h
    refine ⟨Int.le_trans (le_topL (List.mem_cons_self ..)) h, fun k hk => ?_⟩
    exact Int.le_trans (le_topL (List.mem_cons_of_mem _ (List.mem_map.mpr ⟨k, hk, rfl⟩))) h
  · rintro ⟨h1, h2⟩
    refine topL_le_of (by simp) fun x hx => ?_
    rcases List.mem_cons.mp hx with rfl | hx
    · exact h1
    · obtain ⟨k, hk, rfl⟩ := List.mem_map.mp hx
      exact h2 k hk
theorem degL_le {c : Int} : degL b t ≤ c ↔ 0 ≤ c ∧ ∀ i : Int, 0 ≤ i → i < b → dg b (bitRow t i) ≤ c := by
  unfold degL formsL
  rw [degF_le]
  constructor
  · rintro ⟨h1, h2⟩
    refine ⟨h1, fun i i0 i1 => dg_le_iff.mpr ⟨h1, fun k hk => ?_⟩⟩
    refine h2 (formL b t i) (List.mem_map.mpr ⟨i, mem_irange.mpr ⟨i0, i1⟩, rfl⟩) k ?_
    unfold formL
    rwa [bitRow_len] at hk
  · rintro ⟨h1, h2⟩
    refine ⟨h1, fun row hr k hk => ?_⟩
    obtain ⟨i, hi, rfl⟩ := List.mem_map.mp hr
    obtain ⟨i0, i1⟩ := mem_irange.mp hi
    refine (dg_le_iff.mp (h2 i i0 i1)).2 k ?_
    rw [bitRow_len]
    exact hk
theorem degL_nonneg : 0 ≤ degL b t := (degL_le.mp (Int.le_refl _)).1
theorem le_degL {i : Int} (i0 : 0 ≤ i) (i1 : i < b) : dg b (bitRow t i) ≤ degL b t := (degL_le.mp (Int.le_refl _)).2 i i0 i1
theorem degL_mono (h : ∀ i : Int, 0 ≤ i → i < b → ∃ j : Int, 0 ≤ j ∧ j < b ∧ dg b (bitRow t i) ≤ dg b (bitRow u j)) : degL b t ≤ degL b u :=
  degL_le.mpr ⟨degL_nonneg, fun i i0 i1 => by
    obtain ⟨j, j0, j1, h⟩ := h i i0 i1
    exact Int.le_trans h (le_degL j0 j1)⟩
theorem B3.ok (h : BoxOk b g t) (h8 : g ≤ 8) : B3 b g := by
  have := h.g
  unfold B3
  omega
theorem row_mem (h : BoxOk b g t) {i : Int} : bitRow t i ∈ bitsOf g := mem_bitsOf (by rw [bitRow_len, h.len]) bitRow_bits
theorem bitRow_at (h : BoxOk b g t) {i x : Int} (x0 : 0 ≤ x) (x1 : x < g) : nth (bitRow t i) x = nth t x / ((2 ^ i.toNat : Nat) : Int) % 2 := by
  unfold bitRow
  rw [nth_map x0 (by rw [h.len]; exact x1)]
theorem bitRow_eq (h : BoxOk b g t) {i : Int} {φ : Int → Int} (hφ : ∀ x : Int, 0 ≤ x → x < g → nth t x / ((2 ^ i.toNat : Nat) : Int) % 2 = φ x) : bitRow t i = (irange 0 (g : Int)).map φ := by
  refine list_eq (g := g) (by rw [bitRow_len, h.len]) (by rw [List.length_map, irange_len]; omega) fun x x0 x1 => ?_
  rw [bitRow_at h x0 x1, nth_mapr x0 x1, hφ x x0 x1]
theorem xr_bit16 : ∀ i : Fin 4, ∀ x : Fin 16, ∀ y : Fin 16, Builtin.bitXor (x.val : Int) (y.val : Int) / ((2 ^ i.val : Nat) : Int) % 2 = Builtin.bitXor ((x.val : Int) / ((2 ^ i.val : Nat) : Int) % 2) ((y.val : Int) / ((2 ^ i.val : Nat) : Int) % 2) := by decide +kernel
theorem xr_bit {i x y : Int} (i0 : 0 ≤ i) (i1 : i < 4) (hx : S16 x) (hy : S16 y) : Builtin.bitXor x y / ((2 ^ i.toNat : Nat) : Int) % 2 = Builtin.bitXor (x / ((2 ^ i.toNat : Nat) : Int) % 2) (y / ((2 ^ i.toNat : Nat) : Int) % 2) := by
  have := xr_bit16 ⟨i.toNat, by omega⟩ ⟨x.toNat, by have := hx.2; have := hx.1; omega⟩ ⟨y.toNat, by have := hy.2; have := hy.1; omega⟩
  rwa [Int.toNat_of_nonneg hx.1, Int.toNat_of_nonneg hy.1] at this
theorem xr_one {v : Int} (h0 : 0 ≤ v) (h1 : v < 2) : Builtin.bitXor v 1 = 1 - v := by
  have : v = 0 ∨ v = 1 := by omega
  rcases this with rfl | rfl <;> decide
theorem shift_tab1 : ∀ f : Fin 2, (irange 0 2).map (fun x => Builtin.bitXor x f.val) ∈ tabs1 := by decide +kernel
theorem shift_tab2 : ∀ f : Fin 4, (irange 0 4).map (fun x => Builtin.bitXor x f.val) ∈ tabs2 := by decide +kernel
theorem shift_tab3 : ∀ f : Fin 8, (irange 0 8).map (fun x => Builtin.bitXor x f.val) ∈ tabs3 := by decide +kernel
theorem shift_tab (hb : B3 b g) {f : Int} (f0 : 0 ≤ f) (f1 : f < g) : (irange 0 (g : Int)).map (fun x => Builtin.bitXor x f) ∈ tabs b := by
  rcases hb with ⟨rfl, rfl⟩ | ⟨rfl, rfl⟩ | ⟨rfl, rfl⟩
  · have := shift_tab1 ⟨f.toNat, by omega⟩
    simp only [Int.toNat_of_nonneg f0] at this
    exact this
  · have := shift_tab2 ⟨f.toNat, by omega⟩
    simp only [Int.toNat_of_nonneg f0] at this
    exact this
  · have := shift_tab3 ⟨f.toNat, by omega⟩
    simp only [Int.toNat_of_nonneg f0] at this
    exact this
theorem keyed_dg (ht : BoxOk b g t) (hb : B3 b g) {f l : Int} (f0 : 0 ≤ f) (f1 : f < g) (l0 : 0 ≤ l) (l1 : l < g) {i : Int} (i0 : 0 ≤ i) (i1 : i < b) : dg b (bitRow (keyedL t f l) i) = dg b (bitRow t i) := by
  have hk := keyed_ok ht f0 f1 l0 l1
  have hg := ht.le
  have hbi := ht.hi
  have hr := row_mem (i := i) ht
  have hT := shift_tab hb f0 f1
  have e1 := dg_re hb hT hr
  have e2 : (irange 0 (g : Int)).map (fun x => nth (bitRow t i) (nth ((irange 0 (g : Int)).map fun x => Builtin.bitXor x f) x)) = (irange 0 (g : Int)).map fun x => nth (bitRow t i) (Builtin.bitXor x f) := map_congr fun x hx => by
    obtain ⟨x0, x1⟩ := mem_irange.mp hx
    rw [nth_mapr x0 x1]
  rw [e2] at e1
  have hm : (irange 0 (g : Int)).map (fun x => nth (bitRow t i) (Builtin.bitXor x f)) ∈ bitsOf g := bits_map fun x x0 x1 => by
    obtain ⟨y0, y1⟩ := ht.xi x0 x1 f0 f1
    exact bit_at hr y0 y1
  have hl : l / ((2 ^ i.toNat : Nat) : Int) % 2 = 0 ∨ l / ((2 ^ i.toNat : Nat) : Int) % 2 = 1 := by omega
  have e3 : ∀ x : Int, 0 ≤ x → x < g → nth (keyedL t f l) x / ((2 ^ i.toNat : Nat) : Int) % 2 = Builtin.bitXor (nth (bitRow t i) (Builtin.bitXor x f)) (l / ((2 ^ i.toNat : Nat) : Int) % 2) := fun x x0 x1 => by
    obtain ⟨y0, y1⟩ := ht.xi x0 x1 f0 f1
    rw [keyed_at ht x0 x1, xr_bit i0 (by omega) (ht.s y0 y1) (s_of hg.2 l0 l1), bitRow_at ht y0 y1]
  rcases hl with hl | hl
  · rw [← e1]
    congr 1
    refine bitRow_eq hk fun x x0 x1 => ?_
    obtain ⟨y0, y1⟩ := ht.xi x0 x1 f0 f1
    have := bit_at hr y0 y1
    rw [e3 x x0 x1, hl, xr_zero ⟨this.1, by omega⟩]
  · rw [← e1, ← dg_not hb hm]
    congr 1
    rw [List.map_map]
    refine bitRow_eq hk fun x x0 x1 => ?_
    obtain ⟨y0, y1⟩ := ht.xi x0 x1 f0 f1
    have := bit_at hr y0 y1
    rw [e3 x x0 x1, hl, xr_one this.1 this.2]
    rfl
theorem keyed_deg (ht : BoxOk b g t) (hb : B3 b g) {f l : Int} (f0 : 0 ≤ f) (f1 : f < g) (l0 : 0 ≤ l) (l1 : l < g) : degL b (keyedL t f l) = degL b t := by
  refine int_antisymm (degL_mono fun i i0 i1 => ⟨i, i0, i1, ?_⟩) (degL_mono fun i i0 i1 => ⟨i, i0, i1, ?_⟩)
  · rw [keyed_dg ht hb f0 f1 l0 l1 i0 i1]; exact Int.le_refl _
  · rw [keyed_dg ht hb f0 f1 l0 l1 i0 i1]; exact Int.le_refl _
theorem ahead_deg (ht : BoxOk b g t) (hb : B3 b g) (hs : BoxOk b g s) (hT : s ∈ tabs b) : degL b (joinedL s t) = degL b t := by
  have h : ∀ i : Int, dg b (bitRow (joinedL s t) i) = dg b (bitRow t i) := fun i => by
    rw [← dg_re hb hT (row_mem (i := i) ht)]
    congr 1
    refine bitRow_eq (joined_ok hs ht) fun x x0 x1 => ?_
    obtain ⟨y0, y1⟩ := hs.at_ x0 x1
    rw [joined_at hs x0 x1, bitRow_at ht y0 y1]
  refine int_antisymm (degL_mono fun i i0 i1 => ⟨i, i0, i1, ?_⟩) (degL_mono fun i i0 i1 => ⟨i, i0, i1, ?_⟩)
  · rw [h]; exact Int.le_refl _
  · rw [h]; exact Int.le_refl _
/-- each bit behind is a bit ahead -/
def BitPick (b g : Nat) (s : List Int) : Prop := ∀ i : Int, 0 ≤ i → i < b → ∃ j : Int, 0 ≤ j ∧ j < b ∧ ∀ y : Int, 0 ≤ y → y < g → nth s y / ((2 ^ i.toNat : Nat) : Int) % 2 = y / ((2 ^ j.toNat : Nat) : Int) % 2
theorem behind_deg (ht : BoxOk b g t) (hs : BoxOk b g s) (hp : BitPick b g s) : degL b (joinedL t s) ≤ degL b t := by
  refine degL_mono fun i i0 i1 => ?_
  obtain ⟨j, j0, j1, h⟩ := hp i i0 i1
  refine ⟨j, j0, j1, ?_⟩
  have : bitRow (joinedL t s) i = bitRow t j := by
    refine list_eq (g := g) (by rw [bitRow_len, (joined_ok ht hs).len]) (by rw [bitRow_len, ht.len]) fun x x0 x1 => ?_
    obtain ⟨y0, y1⟩ := ht.at_ x0 x1
    rw [bitRow_at (joined_ok ht hs) x0 x1, bitRow_at ht x0 x1, joined_at ht x0 x1, h _ y0 y1]
  rw [this]
  exact Int.le_refl _
/-- straight -/
def Lin (g : Nat) (t : List Int) : Prop := ∀ x ∈ irange 0 (g : Int), ∀ y ∈ irange 0 (g : Int), nth t (Builtin.bitXor x y) = Builtin.bitXor (Builtin.bitXor (nth t x) (nth t y)) (nth t 0)
theorem bits_eq16 : ∀ x : Fin 16, ∀ y : Fin 16, (∀ i : Fin 4, (x.val : Int) / ((2 ^ i.val : Nat) : Int) % 2 = (y.val : Int) / ((2 ^ i.val : Nat) : Int) % 2) → x = y := by decide +kernel
theorem bits_eq (h : BoxOk b g t) {x y : Int} (x0 : 0 ≤ x) (x1 : x < g) (y0 : 0 ≤ y) (y1 : y < g) (hb : ∀ i : Int, 0 ≤ i → i < b → x / ((2 ^ i.toNat : Nat) : Int) % 2 = y / ((2 ^ i.toNat : Nat) : Int) % 2) : x = y := by
  have hg := h.le
  have := bits_eq16 ⟨x.toNat, by omega⟩ ⟨y.toNat, by omega⟩ fun i => by
    show ((x.toNat : Nat) : Int) / _ % 2 = ((y.toNat : Nat) : Int) / _ % 2
    rw [Int.toNat_of_nonneg x0, Int.toNat_of_nonneg y0]
    by_cases hi : (i.val : Int) < b
    · have := hb i.val (by omega) hi
      rwa [Int.toNat_natCast] at this
    · have hle : g ≤ 2 ^ i.val := by
        rw [← h.pw]
        exact Nat.pow_le_pow_right (by decide) (by omega)
      have hle2 : (g : Int) ≤ ((2 ^ i.val : Nat) : Int) := by omega
      rw [Int.ediv_eq_zero_of_lt x0 (by omega), Int.ediv_eq_zero_of_lt y0 (by omega)]
  have e := congrArg (fun f : Fin 16 => (f.val : Int)) this
  dsimp only at e
  rwa [Int.toNat_of_nonneg x0, Int.toNat_of_nonneg y0] at e
theorem lin_deg (ht : BoxOk b g t) (hb : B3 b g) : Lin g t ↔ degL b t < 2 := by
  have hg := ht.le
  have hbi := ht.hi
  have e : degL b t < 2 ↔ ∀ i : Int, 0 ≤ i → i < b → dg b (bitRow t i) < 2 := by
    have := degL_le (b := b) (t := t) (c := 1)
    constructor
    · intro h i i0 i1
      have := (this.mp (by omega)).2 i i0 i1
      omega
    · intro h
      have := this.mpr ⟨by omega, fun i i0 i1 => by have := h i i0 i1; omega⟩
      omega
  rw [e]
  have key : ∀ i : Int, 0 ≤ i → i < b → ∀ x : Int, 0 ≤ x → x < g → ∀ y : Int, 0 ≤ y → y < g → Builtin.bitXor (Builtin.bitXor (nth t x) (nth t y)) (nth t 0) / ((2 ^ i.toNat : Nat) : Int) % 2 = Builtin.bitXor (Builtin.bitXor (nth (bitRow t i) x) (nth (bitRow t i) y)) (nth (bitRow t i) 0) := fun i i0 i1 x x0 x1 y y0 y1 => by
    rw [xr_bit i0 (by omega) (xr_s (ht.s x0 x1) (ht.s y0 y1)) (ht.s (by decide) (by omega)), xr_bit i0 (by omega) (ht.s x0 x1) (ht.s y0 y1), bitRow_at ht x0 x1, bitRow_at ht y0 y1, bitRow_at ht (by decide) (by omega)]
  constructor
  · intro h i i0 i1
    refine (dg_lin hb (row_mem ht)).mpr fun x hx y hy => ?_
    obtain ⟨x0, x1⟩ := mem_irange.mp hx
    obtain ⟨y0, y1⟩ := mem_irange.mp hy
    obtain ⟨z0, z1⟩ := ht.xi x0 x1 y0 y1
    rw [bitRow_at ht z0 z1, h x hx y hy, key i i0 i1 x x0 x1 y y0 y1]
  · intro h x hx y hy
    obtain ⟨x0, x1⟩ := mem_irange.mp hx
    obtain ⟨y0, y1⟩ := mem_irange.mp hy
    obtain ⟨z0, z1⟩ := ht.xi x0 x1 y0 y1
    obtain ⟨v0, v1⟩ := ht.at_ z0 z1
    obtain ⟨p0, p1⟩ := ht.at_ x0 x1
    obtain ⟨q0, q1⟩ := ht.at_ y0 y1
    obtain ⟨r0, r1⟩ := ht.at_ (i := 0) (by decide) (by omega)
    obtain ⟨w0, w1⟩ := ht.xi p0 p1 q0 q1
    obtain ⟨m0, m1⟩ := ht.xi w0 w1 r0 r1
    refine bits_eq ht v0 v1 m0 m1 fun i i0 i1 => ?_
    rw [key i i0 i1 x x0 x1 y y0 y1, ← bitRow_at ht z0 z1]
    exact (dg_lin hb (row_mem ht)).mp (h i i0 i1) x hx y hy
theorem bent_nil (ht : BoxOk b g t) : bentL t = [] ↔ Lin g t := by
  have hg := ht.le
  unfold bentL Lin
  rw [List.flatMap_eq_nil_iff, ht.len]
  constructor
  · intro h
    have hlt : ∀ x y : Int, 0 ≤ x → x ≤ y → y < g → nth t (Builtin.bitXor x y) = Builtin.bitXor (Builtin.bitXor (nth t x) (nth t y)) (nth t 0) := fun x y x0 xy y1 => by
      have h1 := h x (mem_irange.mpr ⟨x0, by omega⟩)
      rw [List.map_eq_nil_iff, List.filter_eq_nil_iff] at h1
      have := h1 y (mem_irange.mpr ⟨by omega, y1⟩)
      simpa using this
    intro x hx y hy
    obtain ⟨x0, x1⟩ := mem_irange.mp hx
    obtain ⟨y0, y1⟩ := mem_irange.mp hy
    rcases Int.le_total x y with h2 | h2
    · exact hlt x y x0 h2 y1
    · have := hlt y x y0 h2 x1
      rwa [xr_comm (s_of hg.2 y0 y1) (s_of hg.2 x0 x1), xr_comm (ht.s y0 y1) (ht.s x0 x1)] at this
  · intro h x hx
    obtain ⟨x0, x1⟩ := mem_irange.mp hx
    rw [List.map_eq_nil_iff, List.filter_eq_nil_iff]
    intro y hy
    obtain ⟨y0, y1⟩ := mem_irange.mp hy
    have := h x hx y (mem_irange.mpr ⟨by omega, y1⟩)
    simpa using this
end Row

set_option Elab.async false
set_option linter.all false
set_option maxRecDepth 100000
set_option maxHeartbeats 1000000
namespace Row
open PySem PySem.Spec PyProof.Rows L2 L2.DL
open Enc (enc)
variable [TabL]
local macro_rules | `(tactic| trivial) => `(tactic| (simp only [decide_eq_true_eq, decide_eq_false_iff_not, Bool.and_eq_true, Bool.or_eq_true, Bool.not_eq_true', Bool.not_eq_false', Bool.or_eq_false_iff, Bool.and_eq_false_iff, List.length_map, irange_len, List.length_append, List.length_cons, List.length_nil]; omega))
local macro_rules | `(tactic| trivial) => `(tactic| exact Nat.le_of_ble_eq_true rfl)
local macro_rules | `(tactic| trivial) => `(tactic| omega)
local macro_rules | `(tactic| trivial) => `(tactic| assumption)
variable {n b g : Nat} {s : Dr}
theorem small8 {k : Int} (h : 0 ≤ k) (h2 : k < 8) : k = 0 ∨ k = 1 ∨ k = 2 ∨ k = 3 ∨ k = 4 ∨ k = 5 ∨ k = 6 ∨ k = 7 := by omega
theorem law_xor (hn : 1 ≤ n) {x y : Int} (x0 : 0 ≤ x) (x1 : x < 8) (y0 : 0 ≤ y) (y1 : y < 8) : FP n 25 [.val (.int x), .val (.int y)] s = .ok (.int (Builtin.bitXor x y), s) := by
  rw [FP_run (d := di__law_xor) rfl (by omega)]
  rcases small8 x0 x1 with rfl | rfl | rfl | rfl | rfl | rfl | rfl | rfl <;> rcases small8 y0 y1 with rfl | rfl | rfl | rfl | rfl | rfl | rfl | rfl <;> kernel_rfl
theorem law_and (hn : 1 ≤ n) {x y : Int} (x0 : 0 ≤ x) (x1 : x < 8) (y0 : 0 ≤ y) (y1 : y < 8) : FP n 26 [.val (.int x), .val (.int y)] s = .ok (.int (Builtin.bitAnd x y), s) := by
  rw [FP_run (d := di__law_and) rfl (by omega)]
  rcases small8 x0 x1 with rfl | rfl | rfl | rfl | rfl | rfl | rfl | rfl <;> rcases small8 y0 y1 with rfl | rfl | rfl | rfl | rfl | rfl | rfl | rfl <;> kernel_rfl
theorem law_ones (hn : 1 ≤ n) {x : Int} (x0 : 0 ≤ x) (x1 : x < 8) : FP n 27 [.val (.int x)] s = .ok (.int (ones x), s) := by
  rw [FP_run (d := di__law_ones) rfl (by omega)]
  rcases small8 x0 x1 with rfl | rfl | rfl | rfl | rfl | rfl | rfl | rfl <;> kernel_rfl
theorem law_wrong (s : Dr) : FP 19 29 [] s = .ok (.bool true, s) := by kernel_rfl
/-- a box that is drawn -/
theorem law_box (hn : 2 ≤ n) {b m : Nat} (hb0 : 1 ≤ b) (hb : b ≤ 4) (hp : 2 ^ b = m) (hm : m ≤ 16) (hs : DrOk s) : Wp (FP n 28 [.drw, .val (.int (m : Int))] s) fun d s' => ∃ r : List Int, d = enc r ∧ BoxOk b m r ∧ DrOk s' := by
  rw [FP_run (d := di__law_box) rfl (by omega)]
  show Wp (evS' (FP (n - 1)) ir__law_box _ _ _ [.drw, .val (.int (m : Int)), .no, .no, .no] s) _
  unfold ir__law_box
  simp (disch := trivial)
  refine wp_took (take (by omega) (by omega) (by omega) hs) fun t1 s h2 h3 hs => ?_
  simp (disch := trivial)
  refine Wp.ite_of (fun hc => ?_) fun hc => ?_
  · simp (disch := trivial)
    have m0 : 0 < m := by rw [← hp]; exact Nat.two_pow_pos _
    refine lc_draws (β := Int) (irange 0 (m : Int)) (fun y => 0 ≤ y ∧ y < m) hs (by simp (disch := trivial) <;> rfl) (fun x hx s hs => ?_) fun r s hl hO hs => ?_
    · simp (disch := trivial)
      exact Took.draw (take (by omega) (by omega) (by omega) hs)
    rw [irange_len] at hl
    simp (disch := trivial)
    exact ⟨r, rfl, ⟨hb0, hb, hp, by omega, hO⟩, hs⟩
  · have hr : rgaR [.int (m : Int)] s = .ok ((0, (m : Int)), s) := by
      unfold rgaR
      dsimp only
      rw [inR_18 (by omega) (by omega), if_pos (by rw [Bool.true_and, fitB_le']; omega)]
    have hr2 : rngD 0 ((m : Int) - 0).toNat 1 = encs (irange 0 m) := by
      rw [rngD_irange]
      have : (0 : Int) + (((m : Int) - 0).toNat : Int) = m := by omega
      rw [this]; rfl
    simp (disch := trivial) [hr]
    have hr3 : rngD 0 m 1 = encs (irange 0 m) := by
      rw [← hr2]
      congr 1
    simp only [hr3]
    refine while_inv (fun k env s' => DrOk s' ∧ ∃ left row : List Int, left.length = k ∧ (row ++ left).Perm (irange 0 m) ∧ env = [.drw, .val (.int (m : Int)), .lst false (encs left), .lst false (encs row), .no]) (n0 := m) ⟨hs, irange 0 m, [], by rw [irange_len]; omega, List.Perm.refl _, rfl⟩ (by omega) ?_
    rintro k env s kk ⟨hs, left, row, h1, h2, rfl⟩ hk
    have hle := h2.length_eq
    rw [List.length_append, irange_len] at hle
    cases k with
    | succ k =>
      simp (disch := trivial)
      refine wp_took (take (by omega) (by omega) (by omega) hs) fun i s i0 i1 hs => ?_
      simp (disch := trivial)
      have i2 : i.toNat < left.length := by omega
      refine hk k _ _ (Nat.lt_succ_self k) ⟨hs, left.eraseIdx i.toNat, row ++ [nth left i], ?_, ?_, rfl⟩
      · rw [List.length_eraseIdx_of_lt i2, h1]; omega
      · refine List.Perm.trans ?_ h2
        rw [List.append_assoc]
        refine List.Perm.append_left row ?_
        have e : nth left i = left[i.toNat] := by
          unfold nth
          rw [List.getElem?_eq_getElem i2]; rfl
        show (nth left i :: left.eraseIdx i.toNat).Perm left
        rw [e]
        exact cons_erase_perm i2
    | zero =>
      have h0 : left = [] := List.eq_nil_of_length_eq_zero h1
      subst h0
      rw [List.append_nil] at h2
      simp (disch := trivial)
      exact ⟨row, rfl, (perm_box hb0 hb hp h2).1, hs⟩
end Row

set_option Elab.async false
set_option linter.all false
set_option maxRecDepth 100000
set_option maxHeartbeats 1000000
namespace Row
open PySem PySem.Spec PyProof.Rows L2 L2.DL
open Enc (enc)
variable [TabL]
/-! plain facts: rounds, keys that are left, sorted numbers -/
variable {b g : Nat} {t u s o : List Int}
theorem s_in {b g : Nat} {t : List Int} (ht : BoxOk b g t) {x : Int} (h : 0 ≤ x ∧ x < g) : S16 x := ⟨h.1, by have := ht.le; omega⟩
theorem step_back {b g : Nat} {t : List Int} (ht : BoxOk b g t) {k : Int} (k0 : 0 ≤ k) (k1 : k < g) {p : Int × Int} (hp : In2 g p) : rndF [(t, k)] ((rndF [(t, k)] p).2, (rndF [(t, k)] p).1) = (p.2, p.1) := by
  obtain ⟨⟨a0, a1⟩, c0, c1⟩ := hp
  obtain ⟨x0, x1⟩ := ht.xi c0 c1 k0 k1
  show (p.2, Builtin.bitXor (Builtin.bitXor p.1 (nth t (Builtin.bitXor p.2 k))) (nth t (Builtin.bitXor p.2 k))) = _
  rw [xr_back (s_in ht ⟨a0, a1⟩) (ht.s x0 x1)]
theorem rnd_append : ∀ {qs rs : List (List Int × Int)} {p : Int × Int}, rndF (qs ++ rs) p = rndF rs (rndF qs p)
  | [], _, _ => rfl
  | q :: qs, rs, p => rnd_append (qs := qs) (rs := rs)
theorem rnd_back {b g : Nat} (hg : (b = 1 ∧ g = 2) ∨ (b = 2 ∧ g = 4) ∨ (b = 3 ∧ g = 8) ∨ (b = 4 ∧ g = 16)) : ∀ {qs : List (List Int × Int)} {p : Int × Int}, RndOk b g qs → In2 g p → rndF qs.reverse ((rndF qs p).2, (rndF qs p).1) = (p.2, p.1)
  | [], _, _, _ => rfl
  | q :: qs, p, h, hp => by
    obtain ⟨h1, h2, h3⟩ := h q (List.mem_cons_self ..)
    have hq : RndOk b g qs := fun r hr => h r (List.mem_cons_of_mem _ hr)
    have h4 : In2 g (rndF [q] p) := rndF_in hg (fun r hr => by rw [List.mem_singleton.mp hr]; exact ⟨h1, h2, h3⟩) hp
    have ih := rnd_back hg hq h4
    rw [List.reverse_cons, rnd_append]
    have e : rndF (q :: qs) p = rndF qs (rndF [q] p) := rfl
    rw [e, ih]
    exact step_back h1 h2 h3 hp
theorem rnd_inj {b g : Nat} (hg : (b = 1 ∧ g = 2) ∨ (b = 2 ∧ g = 4) ∨ (b = 3 ∧ g = 8) ∨ (b = 4 ∧ g = 16)) {qs : List (List Int × Int)} (h : RndOk b g qs) {p q : Int × Int} (hp : In2 g p) (hq : In2 g q) (e : rndF qs p = rndF qs q) : p = q := by
  have h1 := rnd_back hg h hp
  have h2 := rnd_back hg h hq
  rw [e, h2] at h1
  injection h1 with h3 h4
  exact Prod.ext h4.symm h3.symm
theorem zip_rev {α β : Type} : ∀ {xs : List α} {ys : List β}, xs.length = ys.length → List.zip xs.reverse ys.reverse = (List.zip xs ys).reverse
  | [], [], _ => rfl
  | [], _ :: _, h => nomatch h
  | _ :: _, [], h => nomatch h
  | x :: xs, y :: ys, h => by
    have h' : xs.length = ys.length := Nat.succ.inj h
    rw [List.reverse_cons, List.reverse_cons, List.zip_append (by rw [List.length_reverse, List.length_reverse, h']), zip_rev h']
    show (List.zip xs ys).reverse ++ [(x, y)] = ((x, y) :: List.zip xs ys).reverse
    rw [List.reverse_cons]
/-- the box of rounds is an order -/
theorem whole_perm {b g : Nat} (hg : (b = 1 ∧ g = 2) ∨ (b = 2 ∧ g = 4) ∨ (b = 3 ∧ g = 8) ∨ (b = 4 ∧ g = 16)) {qs : List (List Int × Int)} (hr : RndOk b g qs) : (wholeL g qs).Perm (irange 0 ((g : Int) * g)) := by
  have g0 : (0 : Int) < g := by omega
  unfold wholeL
  have key : ∀ p q r w : Int, 0 ≤ q → q < g → 0 ≤ w → w < g → p * g + q = r * g + w → p = r ∧ q = w := fun p q r w q0 q1 w0 w1 h => by
    have h1 : (p * g + q) / (g : Int) = p := by rw [Int.add_comm, Int.add_mul_ediv_right _ _ (by omega), Int.ediv_eq_zero_of_lt q0 q1, Int.zero_add]
    have h2 : (r * g + w) / (g : Int) = r := by rw [Int.add_comm, Int.add_mul_ediv_right _ _ (by omega), Int.ediv_eq_zero_of_lt w0 w1, Int.zero_add]
    have h3 : p = r := by rw [← h1, h, h2]
    subst h3
    exact ⟨rfl, by omega⟩
  refine perm_of_sub (nodup_map irange_nodup fun x hx y hy e => ?_) (fun x hx => ?_) (by rw [List.length_map]; exact Nat.le_refl _)
  · obtain ⟨x0, x1⟩ := mem_irange.mp hx
    obtain ⟨y0, y1⟩ := mem_irange.mp hy
    have ix := sq_lt (g := g) (k := x) (by omega) x0 x1
    have iy := sq_lt (g := g) (k := y) (by omega) y0 y1
    obtain ⟨_, c0, c1⟩ := rndF_in hg hr ix
    obtain ⟨_, e0, e1⟩ := rndF_in hg hr iy
    obtain ⟨f1, f2⟩ := key _ _ _ _ c0 c1 e0 e1 e
    have := rnd_inj hg hr ix iy (Prod.ext f1 f2)
    injection this with m1 m2
    have n1 := Int.mul_ediv_add_emod x g
    have n2 := Int.mul_ediv_add_emod y g
    rw [m1, m2] at n1
    omega
  · obtain ⟨k, hk, rfl⟩ := List.mem_map.mp hx
    obtain ⟨k0, k1⟩ := mem_irange.mp hk
    obtain ⟨⟨a0, a1⟩, c0, c1⟩ := rndF_in hg hr (sq_lt (g := g) (k := k) (by omega) k0 k1)
    have h1 : (rndF qs (k / g, k % g)).1 * g ≤ ((g : Int) - 1) * g := Int.mul_le_mul_of_nonneg_right (by omega) (by omega)
    have h2 : 0 ≤ (rndF qs (k / g, k % g)).1 * g := Int.mul_nonneg a0 (by omega)
    rw [Int.sub_mul, Int.one_mul] at h1
    exact mem_irange.mpr ⟨by omega, by omega⟩
theorem irange_pair {a c : Int} : (irange a c).Pairwise fun x y => decide (x ≤ y) = true := by
  unfold irange
  rw [List.pairwise_map]
  refine List.Pairwise.imp ?_ List.pairwise_lt_range
  intro x y h
  exact decide_eq_true (by omega)
theorem sorted_filter {p : Int → Bool} {a c : Int} : ((irange a c).filter p).Pairwise fun x y => decide (x ≤ y) = true := irange_pair.filter p
theorem perm_of_mem {l m : List Int} (h1 : l.Nodup) (h2 : m.Nodup) (h : ∀ x, x ∈ l ↔ x ∈ m) : l.Perm m := by
  have hm : ∀ {l m : List Int}, l.Nodup → (∀ x ∈ l, x ∈ m) → l.length ≤ m.length := fun {l} => by
    induction l with
    | nil => intro m _ _; exact Nat.zero_le _
    | cons a l ih =>
      intro m h1 h2
      have ham := h2 a (List.mem_cons_self ..)
      have := ih (m := m.erase a) (List.nodup_cons.mp h1).2 fun x hx => (List.mem_erase_of_ne fun z => (List.nodup_cons.mp h1).1 (by rw [← z]; exact hx)).mpr (h2 x (List.mem_cons_of_mem _ hx))
      rw [List.length_erase_of_mem ham] at this
      have hpos := List.length_pos_of_mem ham
      rw [List.length_cons]
      omega
  exact perm_of_sub h1 (fun x hx => (h x).mp hx) (hm h2 fun x hx => (h x).mpr hx)
/-! keys that are left -/
theorem mem_keysL {ps : List (Int × Int)} {f l : Int} : (f, l) ∈ keysL t ps ↔ (0 ≤ f ∧ f < t.length) ∧ (0 ≤ l ∧ l < t.length) ∧ ∀ p ∈ ps, Builtin.bitXor (nth t (Builtin.bitXor p.1 f)) l = p.2 := by
  unfold keysL
  rw [List.mem_flatMap]
  constructor
  · rintro ⟨f', hf, h⟩
    obtain ⟨l', hl, e⟩ := List.mem_map.mp h
    injection e with e1 e2
    subst e1
    subst e2
    obtain ⟨h1, h2⟩ := List.mem_filter.mp hl
    refine ⟨mem_irange.mp hf, mem_irange.mp h1, fun p hp => ?_⟩
    exact of_decide_eq_true (List.all_eq_true.mp h2 p hp)
  · rintro ⟨hf, hl, h⟩
    refine ⟨f, mem_irange.mpr hf, List.mem_map.mpr ⟨l, List.mem_filter.mpr ⟨mem_irange.mpr hl, ?_⟩, rfl⟩⟩
    exact List.all_eq_true.mpr fun p hp => decide_eq_true (h p hp)
theorem gap_of_keys (ht : BoxOk b g t) {ps : List (Int × Int)} {f l : Int} (h : (f, l) ∈ keysL t ps) {p q : Int × Int} (hp : p ∈ ps) (hq : q ∈ ps) (ip : In2 g p) (iq : In2 g q) : f ∈ byGapL t p q := by
  obtain ⟨⟨f0, f1⟩, ⟨l0, l1⟩, h3⟩ := mem_keysL.mp h
  rw [ht.len] at f1 l1
  unfold byGapL
  refine List.mem_filter.mpr ⟨mem_irange.mpr ⟨f0, by rw [ht.len]; exact f1⟩, decide_eq_true ?_⟩
  obtain ⟨x0, x1⟩ := ht.xi ip.1.1 ip.1.2 f0 f1
  obtain ⟨y0, y1⟩ := ht.xi iq.1.1 iq.1.2 f0 f1
  have e1 := h3 p hp
  have e2 := h3 q hq
  rw [← e1, ← e2, xr_both (ht.s x0 x1) (ht.s y0 y1) (s_in ht ⟨l0, l1⟩)]
/-! sorted numbers -/
theorem alike_ints {xs : List Int} : ((xs.map enc).all fun d => (xs.map enc).all fun e => PySem.W.alike d e) = true := by
  refine List.all_eq_true.mpr fun d hd => List.all_eq_true.mpr fun e he => ?_
  obtain ⟨x, _, rfl⟩ := List.mem_map.mp hd
  obtain ⟨y, _, rfl⟩ := List.mem_map.mp he
  show PySem.W.alike (.int x) (.int y) = true
  rw [PySem.W.alike]
theorem sortB_int {xs : List Int} (h : xs.length ≤ 16777216) : sortB (xs.map enc) = true := by
  unfold sortB
  rw [alike_ints]
  have h2 : (xs.map (enc (α := Int))).all noTup = true := List.all_eq_true.mpr fun d hd => by
    obtain ⟨x, _, rfl⟩ := List.mem_map.mp hd
    rfl
  have h3 : (xs.map (enc (α := Int))).all (dep 40) = true := List.all_eq_true.mpr fun d hd => by
    obtain ⟨x, _, rfl⟩ := List.mem_map.mp hd
    rfl
  rw [h2, h3, List.length_map, Bool.or_true, Bool.true_and, Bool.true_and, Bool.true_and]
  rw [fitB_le']
  exact h
theorem gSorted_int {xs : List Int} (h : xs.length ≤ 16777216) : gSorted [.list (xs.map enc)] = some (.list ((xs.mergeSort fun a b => decide (a ≤ b)).map enc)) := by
  show (if sortB (xs.map enc) = true then some (PyData.list ((xs.map enc).mergeSort leD)) else none) = _
  rw [if_pos (sortB_int h), List.map_mergeSort (s := leD) fun a _ b _ => ?_]
  show _ = PySem.W.dataLe false (fun d : D => d) (.int a) (.int b)
  have := congrFun (congrFun (PySem.W.dataLe_int (β := Int) fun x => x) a) b
  exact this.symm
theorem sort_perm {l m : List Int} (h : l.Perm m) (hm : m.Pairwise fun x y => decide (x ≤ y) = true) : l.mergeSort (fun x y => decide (x ≤ y)) = m := by
  refine List.Perm.eq_of_pairwise (le := fun x y => decide (x ≤ y) = true) (fun x y _ _ h1 h2 => ?_) (List.pairwise_mergeSort (fun a b c h1 h2 => ?_) (fun a b => ?_) _) hm ((List.mergeSort_perm _ _).trans h)
  · have := of_decide_eq_true h1
    have := of_decide_eq_true h2
    omega
  · have := of_decide_eq_true h1
    have := of_decide_eq_true h2
    exact decide_eq_true (by omega)
  · rw [Bool.or_eq_true, decide_eq_true_eq, decide_eq_true_eq]
    omega
/-- sorted(set(xs)) of rising numbers -/
theorem sortU_of {l m : List Int} (hm : m.Pairwise (· < ·)) (h : ∀ k, k ∈ m ↔ k ∈ l) : sortU l = m := pw_eq pw_sortU hm fun k => by rw [mem_sortU, h]
end Row

set_option Elab.async false
set_option linter.all false
set_option maxRecDepth 100000
namespace Row
open PySem PySem.Spec PyProof.Rows L2 L2.DL
variable [TabL]
def law_r19 : IS := IS.ret (IX.call 30 6 (IX.argV 1 (IX.argV 2 (IX.argV 3 (IX.argV 4 (IX.argV 7 (IX.argV 13 (IX.nil))))))))
def law_s18 : IS := IS.ite (IX.tev (IX.b2 (O2.gt) (IX.bi (Bi.len) (IX.cons (IX.lc (IX.seq (IX.pk 13)) (Tg.nm 15) [15] (IX.tev (IX.b2 (O2.ne) (IX.bi (Bi.list) (IX.cons (IX.pk 15) (IX.nil))) (IX.bi (Bi.sset) (IX.cons (IX.pk 15) (IX.nil))))) (IX.c (PyData.int 1))) (IX.nil))) (IX.c (PyData.int 0)))) (IS.ret (IX.c (PyData.bool false))) (IS.skip)
def law_r18 : IS := IS.seq law_s18 law_r19
def law_s17 : IS := IS.forS [] (IX.rng1 (IX.cons (IX.var 3) (IX.nil))) (Tg.nm 6) (IS.forS [] (IX.rng1 (IX.cons (IX.var 2) (IX.nil))) (Tg.nm 16) (IS.seq (IS.asg (Tg.nm 18) (IX.bi (Bi.len) (IX.cons (IX.lc (IX.seq (IX.ix (IX.pk 13) (IX.pk 16))) (Tg.nm 22) [22] (IX.tev (IX.b2 (O2.eq) (IX.call 26 2 (IX.argV 22 (IX.argV 6 (IX.nil)))) (IX.pk 22))) (IX.var 22)) (IX.nil)))) (IS.ite (IX.tev (IX.b2 (O2.ne) (IX.b2 (O2.mod) (IX.bi (Bi.int) (IX.cons (IX.pk 18) (IX.nil))) (IX.c (PyData.int 2))) (IX.b2 (O2.mod) (IX.bi (Bi.int) (IX.cons (IX.b2 (O2.div) (IX.ix (IX.pk 4) (IX.pk 6)) (IX.ix (IX.lst (IX.cons (IX.c (PyData.int 1)) (IX.cons (IX.c (PyData.int 2)) (IX.cons (IX.c (PyData.int 4)) (IX.nil))))) (IX.pk 16))) (IX.nil))) (IX.c (PyData.int 2))))) (IS.ret (IX.c (PyData.bool false))) (IS.skip))))
def law_r17 : IS := IS.seq law_s17 law_r18
def law_s16 : IS := IS.asg (Tg.nm 13) (IX.call 10 2 (IX.argV 2 (IX.argV 4 (IX.nil))))
def law_r16 : IS := IS.seq law_s16 law_r17
def law_s15 : IS := IS.forS [] (IX.rng1 (IX.cons (IX.var 3) (IX.nil))) (Tg.nm 12) (IS.ite (IX.tev (IX.b2 (O2.ne) (IX.bi (Bi.sum) (IX.cons (IX.lc (IX.seq (IX.pk 9)) (Tg.nm 19) [19] (IX.tt) (IX.b2 (O2.mul) (IX.ix (IX.pk 19) (IX.pk 12)) (IX.ix (IX.pk 19) (IX.pk 12)))) (IX.nil))) (IX.b2 (O2.mul) (IX.pk 3) (IX.pk 3)))) (IS.ret (IX.c (PyData.bool false))) (IS.skip))
def law_r15 : IS := IS.seq law_s15 law_r16
def law_s14 : IS := IS.ite (IX.tif (IX.tev (IX.b2 (O2.ne) (IX.call 7 2 (IX.argV 2 (IX.argV 4 (IX.nil)))) (IX.bi (Bi.tuple) (IX.cons (IX.pk 9) (IX.nil))))) (IX.tt) (IX.tif (IX.tev (IX.b2 (O2.ne) (IX.call 8 2 (IX.argV 2 (IX.argV 4 (IX.nil)))) (IX.pk 11))) (IX.tt) (IX.tev (IX.b2 (O2.ne) (IX.call 9 2 (IX.argV 2 (IX.argV 4 (IX.nil)))) (IX.b2 (O2.div) (IX.b2 (O2.sub) (IX.pk 3) (IX.pk 11)) (IX.c (PyData.int 2))))))) (IS.ret (IX.c (PyData.bool false))) (IS.skip)
def law_r14 : IS := IS.seq law_s14 law_r15
def law_s13 : IS := IS.asg (Tg.nm 11) (IX.bi (Bi.max) (IX.cons (IX.lc (IX.seq (IX.pk 9)) (Tg.nm 19) [19] (IX.tt) (IX.bi (Bi.max) (IX.cons (IX.lc (IX.seq (IX.sl (IX.pk 19) (IX.tru (IX.c (PyData.int 1))) (IX.none))) (Tg.nm 6) [6] (IX.tt) (IX.bi (Bi.abs) (IX.cons (IX.pk 6) (IX.nil)))) (IX.nil)))) (IX.nil)))
def law_r13 : IS := IS.seq law_s13 law_r14
def law_s12 : IS := IS.forS [] (IX.rng1 (IX.cons (IX.var 3) (IX.nil))) (Tg.nm 10) (IS.seq (IS.asgO 15 (IX.lst (IX.nil))) (IS.seq (IS.forS [] (IX.rng1 (IX.cons (IX.var 3) (IX.nil))) (Tg.nm 12) (IS.seq (IS.asg (Tg.nm 17) (IX.bi (Bi.len) (IX.cons (IX.lc (IX.rng1 (IX.cons (IX.var 3) (IX.nil))) (Tg.nm 6) [6] (IX.tev (IX.b2 (O2.eq) (IX.b2 (O2.mod) (IX.bi (Bi.int) (IX.cons (IX.b2 (O2.add) (IX.call 27 1 (IX.argC (IX.call 26 2 (IX.argV 6 (IX.argV 10 (IX.nil)))) (IX.nil))) (IX.call 27 1 (IX.argC (IX.call 26 2 (IX.argC (IX.ix (IX.pk 4) (IX.pk 6)) (IX.argV 12 (IX.nil)))) (IX.nil)))) (IX.nil))) (IX.c (PyData.int 2))) (IX.c (PyData.int 0)))) (IX.var 6)) (IX.nil)))) (IS.app 15 (IX.b2 (O2.sub) (IX.b2 (O2.mul) (IX.c (PyData.int 2)) (IX.pk 17)) (IX.pk 3))))) (IS.app 9 (IX.bi (Bi.tuple) (IX.cons (IX.pk 15) (IX.nil))))))
def law_r12 : IS := IS.seq law_s12 law_r13
def law_s11 : IS := IS.asgO 9 (IX.lst (IX.nil))
def law_r11 : IS := IS.seq law_s11 law_r12
def law_s10 : IS := IS.ite (IX.tev (IX.b2 (O2.gt) (IX.bi (Bi.len) (IX.cons (IX.lc (IX.seq (IX.pk 7)) (Tg.nm 19) [19] (IX.tif (IX.tev (IX.b2 (O2.ne) (IX.bi (Bi.sum) (IX.cons (IX.pk 19) (IX.nil))) (IX.pk 3))) (IX.tt) (IX.tev (IX.b2 (O2.gt) (IX.bi (Bi.len) (IX.cons (IX.lc (IX.seq (IX.pk 19)) (Tg.nm 6) [6] (IX.tev (IX.b2 (O2.eq) (IX.b2 (O2.mod) (IX.bi (Bi.int) (IX.cons (IX.pk 6) (IX.nil))) (IX.c (PyData.int 2))) (IX.c (PyData.int 1)))) (IX.var 6)) (IX.nil))) (IX.c (PyData.int 0))))) (IX.var 19)) (IX.nil))) (IX.c (PyData.int 0)))) (IS.ret (IX.c (PyData.bool false))) (IS.skip)
def law_r10 : IS := IS.seq law_s10 law_r11
def law_s9 : IS := IS.ite (IX.tif (IX.tev (IX.b2 (O2.ne) (IX.call 5 2 (IX.argV 2 (IX.argV 4 (IX.nil)))) (IX.bi (Bi.tuple) (IX.cons (IX.pk 7) (IX.nil))))) (IX.tt) (IX.tev (IX.b2 (O2.ne) (IX.call 6 2 (IX.argV 2 (IX.argV 4 (IX.nil)))) (IX.bi (Bi.max) (IX.cons (IX.lc (IX.seq (IX.sl (IX.pk 7) (IX.tru (IX.c (PyData.int 1))) (IX.none))) (Tg.nm 19) [19] (IX.tt) (IX.bi (Bi.max) (IX.cons (IX.pk 19) (IX.nil)))) (IX.nil)))))) (IS.ret (IX.c (PyData.bool false))) (IS.skip)
def law_r9 : IS := IS.seq law_s9 law_r10
def law_s8 : IS := IS.forS [] (IX.rng1 (IX.cons (IX.var 3) (IX.nil))) (Tg.nm 8) (IS.app 7 (IX.bi (Bi.tuple) (IX.cons (IX.lc (IX.rng1 (IX.cons (IX.var 3) (IX.nil))) (Tg.nm 21) [21] (IX.tt) (IX.bi (Bi.len) (IX.cons (IX.lc (IX.rng1 (IX.cons (IX.var 3) (IX.nil))) (Tg.nm 6) [6] (IX.tev (IX.b2 (O2.eq) (IX.call 25 2 (IX.argC (IX.ix (IX.pk 4) (IX.pk 6)) (IX.argC (IX.ix (IX.pk 4) (IX.call 25 2 (IX.argV 6 (IX.argV 8 (IX.nil))))) (IX.nil)))) (IX.pk 21))) (IX.var 6)) (IX.nil)))) (IX.nil))))
def law_r8 : IS := IS.seq law_s8 law_r9
def law_s7 : IS := IS.asgO 7 (IX.lst (IX.nil))
def law_r7 : IS := IS.seq law_s7 law_r8
def law_s6 : IS := IS.ite (IX.tev (IX.b2 (O2.eq) (IX.bi (Bi.len) (IX.cons (IX.pk 5) (IX.nil))) (IX.c (PyData.int 0)))) (IS.seq (IS.asg (Tg.nm 14) (IX.call 4 2 (IX.argV 2 (IX.argV 4 (IX.nil))))) (IS.ite (IX.tif (IX.tev (IX.b2 (O2.ne) (IX.call 20 3 (IX.argV 2 (IX.argV 4 (IX.argV 14 (IX.nil))))) (IX.tupRg (IX.cons (IX.var 3) (IX.nil))))) (IX.tt) (IX.tev (IX.b2 (O2.ne) (IX.call 5 2 (IX.argV 2 (IX.argV 14 (IX.nil)))) (IX.bi (Bi.tuple) (IX.cons (IX.lc (IX.rng1 (IX.cons (IX.var 3) (IX.nil))) (Tg.nm 23) [23] (IX.tt) (IX.bi (Bi.tuple) (IX.cons (IX.lc (IX.rng1 (IX.cons (IX.var 3) (IX.nil))) (Tg.nm 24) [24] (IX.tt) (IX.ix (IX.ix (IX.call 5 2 (IX.argV 2 (IX.argV 4 (IX.nil)))) (IX.pk 24)) (IX.pk 23))) (IX.nil)))) (IX.nil)))))) (IS.ret (IX.c (PyData.bool false))) (IS.skip))) (IS.skip)
def law_r6 : IS := IS.seq law_s6 law_r7
def law_s5 : IS := IS.ite (IX.tev (IX.b2 (O2.ne) (IX.call 3 2 (IX.argV 2 (IX.argV 4 (IX.nil)))) (IX.ife (IX.tev (IX.b2 (O2.gt) (IX.bi (Bi.len) (IX.cons (IX.pk 5) (IX.nil))) (IX.c (PyData.int 0)))) (IX.ix (IX.pk 5) (IX.c (PyData.int 0))) (IX.c (PyData.none))))) (IS.ret (IX.c (PyData.bool false))) (IS.skip)
def law_r5 : IS := IS.seq law_s5 law_r6
def law_s4 : IS := IS.forS [] (IX.rng1 (IX.cons (IX.var 3) (IX.nil))) (Tg.nm 6) (IS.asg (Tg.nm 5) (IX.b2 (O2.add) (IX.pk 5) (IX.lc (IX.rng2 (IX.cons (IX.b2 (O2.add) (IX.pk 6) (IX.c (PyData.int 1))) (IX.cons (IX.var 3) (IX.nil)))) (Tg.nm 20) [20] (IX.tev (IX.b2 (O2.eq) (IX.ix (IX.pk 4) (IX.pk 6)) (IX.ix (IX.pk 4) (IX.pk 20)))) (IX.tup (IX.cons (IX.var 6) (IX.cons (IX.var 20) (IX.nil)))))))
def law_r4 : IS := IS.seq law_s4 law_r5
def law_s3 : IS := IS.asg (Tg.nm 5) (IX.lst (IX.nil))
def law_r3 : IS := IS.seq law_s3 law_r4
def law_s2 : IS := IS.asg (Tg.nm 4) (IX.call 28 2 (IX.argV 1 (IX.argV 3 (IX.nil))))
def law_r2 : IS := IS.seq law_s2 law_r3
def law_s1 : IS := IS.asg (Tg.nm 3) (IX.ix (IX.lst (IX.cons (IX.c (PyData.int 2)) (IX.cons (IX.c (PyData.int 4)) (IX.cons (IX.c (PyData.int 8)) (IX.nil))))) (IX.b2 (O2.sub) (IX.pk 2) (IX.c (PyData.int 1))))
def law_r1 : IS := IS.seq law_s1 law_r2
def law_s0 : IS := IS.asg (Tg.nm 2) (IX.b2 (O2.add) (IX.c (PyData.int 1)) (IX.call 23 2 (IX.argV 1 (IX.argC (IX.c (PyData.int 3)) (IX.nil)))))
def law_r0 : IS := IS.seq law_s0 law_r1
theorem ir_law_is : ir_law = law_r0 := by kernel_rfl
@[simp] theorem law_e0 {F : Nat → Fn} {k kb kc : Kn} {env : En} {s : Dr} : evS' F law_r0 k kb kc env s = evS' F law_s0 (evS' F law_r1 k kb kc) kb kc env s := by rw [law_r0]; exact xS_seqS
@[simp] theorem law_e1 {F : Nat → Fn} {k kb kc : Kn} {env : En} {s : Dr} : evS' F law_r1 k kb kc env s = evS' F law_s1 (evS' F law_r2 k kb kc) kb kc env s := by rw [law_r1]; exact xS_seqS
@[simp] theorem law_e2 {F : Nat → Fn} {k kb kc : Kn} {env : En} {s : Dr} : evS' F law_r2 k kb kc env s = evS' F law_s2 (evS' F law_r3 k kb kc) kb kc env s := by rw [law_r2]; exact xS_seqS
@[simp] theorem law_e3 {F : Nat → Fn} {k kb kc : Kn} {env : En} {s : Dr} : evS' F law_r3 k kb kc env s = evS' F law_s3 (evS' F law_r4 k kb kc) kb kc env s := by rw [law_r3]; exact xS_seqS
@[simp] theorem law_e4 {F : Nat → Fn} {k kb kc : Kn} {env : En} {s : Dr} : evS' F law_r4 k kb kc env s = evS' F law_s4 (evS' F law_r5 k kb kc) kb kc env s := by rw [law_r4]; exact xS_seqS
@[simp] theorem law_e5 {F : Nat → Fn} {k kb kc : Kn} {env : En} {s : Dr} : evS' F law_r5 k kb kc env s = evS' F law_s5 (evS' F law_r6 k kb kc) kb kc env s := by rw [law_r5]; exact xS_seqS
@[simp] theorem law_e6 {F : Nat → Fn} {k kb kc : Kn} {env : En} {s : Dr} : evS' F law_r6 k kb kc env s = evS' F law_s6 (evS' F law_r7 k kb kc) kb kc env s := by rw [law_r6]; exact xS_seqS
@[simp] theorem law_e7 {F : Nat → Fn} {k kb kc : Kn} {env : En} {s : Dr} : evS' F law_r7 k kb kc env s = evS' F law_s7 (evS' F law_r8 k kb kc) kb kc env s := by rw [law_r7]; exact xS_seqS
@[simp] theorem law_e8 {F : Nat → Fn} {k kb kc : Kn} {env : En} {s : Dr} : evS' F law_r8 k kb kc env s = evS' F law_s8 (evS' F law_r9 k kb kc) kb kc env s := by rw [law_r8]; exact xS_seqS
@[simp] theorem law_e9 {F : Nat → Fn} {k kb kc : Kn} {env : En} {s : Dr} : evS' F law_r9 k kb kc env s = evS' F law_s9 (evS' F law_r10 k kb kc) kb kc env s := by rw [law_r9]; exact xS_seqS
@[simp] theorem law_e10 {F : Nat → Fn} {k kb kc : Kn} {env : En} {s : Dr} : evS' F law_r10 k kb kc env s = evS' F law_s10 (evS' F law_r11 k kb kc) kb kc env s := by rw [law_r10]; exact xS_seqS
@[simp] theorem law_e11 {F : Nat → Fn} {k kb kc : Kn} {env : En} {s : Dr} : evS' F law_r11 k kb kc env s = evS' F law_s11 (evS' F law_r12 k kb kc) kb kc env s := by rw [law_r11]; exact xS_seqS
@[simp] theorem law_e12 {F : Nat → Fn} {k kb kc : Kn} {env : En} {s : Dr} : evS' F law_r12 k kb kc env s = evS' F law_s12 (evS' F law_r13 k kb kc) kb kc env s := by rw [law_r12]; exact xS_seqS
@[simp] theorem law_e13 {F : Nat → Fn} {k kb kc : Kn} {env : En} {s : Dr} : evS' F law_r13 k kb kc env s = evS' F law_s13 (evS' F law_r14 k kb kc) kb kc env s := by rw [law_r13]; exact xS_seqS
@[simp] theorem law_e14 {F : Nat → Fn} {k kb kc : Kn} {env : En} {s : Dr} : evS' F law_r14 k kb kc env s = evS' F law_s14 (evS' F law_r15 k kb kc) kb kc env s := by rw [law_r14]; exact xS_seqS
@[simp] theorem law_e15 {F : Nat → Fn} {k kb kc : Kn} {env : En} {s : Dr} : evS' F law_r15 k kb kc env s = evS' F law_s15 (evS' F law_r16 k kb kc) kb kc env s := by rw [law_r15]; exact xS_seqS
@[simp] theorem law_e16 {F : Nat → Fn} {k kb kc : Kn} {env : En} {s : Dr} : evS' F law_r16 k kb kc env s = evS' F law_s16 (evS' F law_r17 k kb kc) kb kc env s := by rw [law_r16]; exact xS_seqS
@[simp] theorem law_e17 {F : Nat → Fn} {k kb kc : Kn} {env : En} {s : Dr} : evS' F law_r17 k kb kc env s = evS' F law_s17 (evS' F law_r18 k kb kc) kb kc env s := by rw [law_r17]; exact xS_seqS
@[simp] theorem law_e18 {F : Nat → Fn} {k kb kc : Kn} {env : En} {s : Dr} : evS' F law_r18 k kb kc env s = evS' F law_s18 (evS' F law_r19 k kb kc) kb kc env s := by rw [law_r18]; exact xS_seqS
def _law_part1_r28 : IS := IS.ret (IX.andV (IX.b2 (O2.eq) (IX.bi (Bi.tuple) (IX.cons (IX.bi (Bi.sset) (IX.cons (IX.lc (IX.seq (IX.call 18 3 (IX.argV 1 (IX.argV 3 (IX.argC (IX.tup (IX.cons (IX.var 9) (IX.cons (IX.var 23) (IX.nil)))) (IX.nil)))))) (Tg.tup (Tg.tcons (Tg.nm 22) (Tg.tcons (Tg.nm 27) (Tg.tnil)))) [22, 27] (IX.tt) (IX.var 22)) (IX.nil))) (IX.nil))) (IX.pk 24)) (IX.call 29 0 (IX.nil)))
def _law_part1_s27 : IS := IS.ite (IX.tev (IX.b2 (O2.ne) (IX.pk 24) (IX.bi (Bi.tuple) (IX.cons (IX.lc (IX.rng1 (IX.cons (IX.var 2) (IX.nil))) (Tg.nm 22) [22] (IX.tev (IX.b2 (O2.eq) (IX.call 25 2 (IX.argC (IX.ix (IX.pk 3) (IX.call 25 2 (IX.argC (IX.ix (IX.pk 9) (IX.c (PyData.int 0))) (IX.argV 22 (IX.nil))))) (IX.argC (IX.ix (IX.pk 3) (IX.call 25 2 (IX.argC (IX.ix (IX.pk 23) (IX.c (PyData.int 0))) (IX.argV 22 (IX.nil))))) (IX.nil)))) (IX.call 25 2 (IX.argC (IX.ix (IX.pk 9) (IX.c (PyData.int 1))) (IX.argC (IX.ix (IX.pk 23) (IX.c (PyData.int 1))) (IX.nil)))))) (IX.var 22)) (IX.nil))))) (IS.ret (IX.c (PyData.bool false))) (IS.skip)
def _law_part1_r27 : IS := IS.seq _law_part1_s27 _law_part1_r28
def _law_part1_s26 : IS := IS.asg (Tg.nm 24) (IX.call 19 4 (IX.argV 1 (IX.argV 3 (IX.argV 9 (IX.argV 23 (IX.nil))))))
def _law_part1_r26 : IS := IS.seq _law_part1_s26 _law_part1_r27
def _law_part1_s25 : IS := IS.asg (Tg.nm 23) (IX.tup (IX.cons (IX.call 23 2 (IX.argV 0 (IX.argV 2 (IX.nil)))) (IX.cons (IX.call 23 2 (IX.argV 0 (IX.argV 2 (IX.nil)))) (IX.nil))))
def _law_part1_r25 : IS := IS.seq _law_part1_s25 _law_part1_r26
def _law_part1_s24 : IS := IS.asg (Tg.nm 9) (IX.tup (IX.cons (IX.call 23 2 (IX.argV 0 (IX.argV 2 (IX.nil)))) (IX.cons (IX.call 23 2 (IX.argV 0 (IX.argV 2 (IX.nil)))) (IX.nil))))
def _law_part1_r24 : IS := IS.seq _law_part1_s24 _law_part1_r25
def _law_part1_s23 : IS := IS.ite (IX.tev (IX.b2 (O2.ne) (IX.call 18 3 (IX.argV 1 (IX.argV 3 (IX.argV 20 (IX.nil))))) (IX.bi (Bi.tuple) (IX.cons (IX.pk 21) (IX.nil))))) (IS.ret (IX.c (PyData.bool false))) (IS.skip)
def _law_part1_r23 : IS := IS.seq _law_part1_s23 _law_part1_r24
def _law_part1_s22 : IS := IS.forS [] (IX.rng1 (IX.cons (IX.var 2) (IX.nil))) (Tg.nm 22) (IS.asg (Tg.nm 21) (IX.b2 (O2.add) (IX.pk 21) (IX.lc (IX.rng1 (IX.cons (IX.var 2) (IX.nil))) (Tg.nm 27) [27] (IX.tev (IX.b2 (O2.eq) (IX.bi (Bi.len) (IX.cons (IX.lc (IX.seq (IX.pk 20)) (Tg.tup (Tg.tcons (Tg.nm 9) (Tg.tcons (Tg.nm 26) (Tg.tnil)))) [9, 26] (IX.tev (IX.b2 (O2.ne) (IX.call 25 2 (IX.argC (IX.ix (IX.pk 3) (IX.call 25 2 (IX.argV 9 (IX.argV 22 (IX.nil))))) (IX.argV 27 (IX.nil)))) (IX.pk 26))) (IX.c (PyData.int 1))) (IX.nil))) (IX.c (PyData.int 0)))) (IX.tup (IX.cons (IX.var 22) (IX.cons (IX.var 27) (IX.nil)))))))
def _law_part1_r22 : IS := IS.seq _law_part1_s22 _law_part1_r23
def _law_part1_s21 : IS := IS.asg (Tg.nm 21) (IX.lst (IX.nil))
def _law_part1_r21 : IS := IS.seq _law_part1_s21 _law_part1_r22
def _law_part1_s20 : IS := IS.ite (IX.tev (IX.b2 (O2.eq) (IX.call 23 2 (IX.argV 0 (IX.argC (IX.c (PyData.int 3)) (IX.nil)))) (IX.c (PyData.int 0)))) (IS.asg (Tg.nm 20) (IX.b2 (O2.add) (IX.pk 20) (IX.tup (IX.cons (IX.tup (IX.cons (IX.call 23 2 (IX.argV 0 (IX.argV 2 (IX.nil)))) (IX.cons (IX.call 23 2 (IX.argV 0 (IX.argV 2 (IX.nil)))) (IX.nil)))) (IX.nil))))) (IS.skip)
def _law_part1_r20 : IS := IS.seq _law_part1_s20 _law_part1_r21
def _law_part1_s19 : IS := IS.asg (Tg.nm 20) (IX.bi (Bi.tuple) (IX.cons (IX.lc (IX.rng1 (IX.cons (IX.var 2) (IX.nil))) (Tg.nm 9) [9] (IX.tev (IX.b2 (O2.eq) (IX.call 23 2 (IX.argV 0 (IX.argC (IX.c (PyData.int 2)) (IX.nil)))) (IX.c (PyData.int 0)))) (IX.tup (IX.cons (IX.var 9) (IX.cons (IX.ix (IX.pk 19) (IX.pk 9)) (IX.nil))))) (IX.nil)))
def _law_part1_r19 : IS := IS.seq _law_part1_s19 _law_part1_r20
def _law_part1_s18 : IS := IS.ite (IX.tif (IX.tev (IX.b2 (O2.ne) (IX.pk 19) (IX.bi (Bi.tuple) (IX.cons (IX.lc (IX.rng1 (IX.cons (IX.var 2) (IX.nil))) (Tg.nm 9) [9] (IX.tt) (IX.call 25 2 (IX.argC (IX.ix (IX.pk 3) (IX.call 25 2 (IX.argV 9 (IX.argV 17 (IX.nil))))) (IX.argV 18 (IX.nil))))) (IX.nil))))) (IX.tt) (IX.tev (IX.b2 (O2.ne) (IX.call 5 2 (IX.argV 1 (IX.argV 19 (IX.nil)))) (IX.bi (Bi.tuple) (IX.cons (IX.pk 4) (IX.nil)))))) (IS.ret (IX.c (PyData.bool false))) (IS.skip)
def _law_part1_r18 : IS := IS.seq _law_part1_s18 _law_part1_r19
def _law_part1_s17 : IS := IS.asg (Tg.nm 19) (IX.call 17 4 (IX.argV 1 (IX.argV 3 (IX.argV 17 (IX.argV 18 (IX.nil))))))
def _law_part1_r17 : IS := IS.seq _law_part1_s17 _law_part1_r18
def _law_part1_s16 : IS := IS.asg (Tg.nm 18) (IX.call 23 2 (IX.argV 0 (IX.argV 2 (IX.nil))))
def _law_part1_r16 : IS := IS.seq _law_part1_s16 _law_part1_r17
def _law_part1_s15 : IS := IS.asg (Tg.nm 17) (IX.call 23 2 (IX.argV 0 (IX.argV 2 (IX.nil))))
def _law_part1_r15 : IS := IS.seq _law_part1_s15 _law_part1_r16
def _law_part1_s14 : IS := IS.ite (IX.tif (IX.tev (IX.b2 (O2.ne) (IX.ix (IX.pk 16) (IX.b2 (O2.add) (IX.b2 (O2.mul) (IX.pk 12) (IX.pk 2)) (IX.pk 13))) (IX.b2 (O2.add) (IX.b2 (O2.mul) (IX.ix (IX.pk 14) (IX.c (PyData.int 0))) (IX.pk 2)) (IX.ix (IX.pk 14) (IX.c (PyData.int 1)))))) (IX.tt) (IX.tev (IX.b2 (O2.ne) (IX.bi (Bi.sorted) (IX.cons (IX.pk 16) (IX.nil))) (IX.listRg (IX.cons (IX.b2 (O2.mul) (IX.pk 2) (IX.pk 2)) (IX.nil)))))) (IS.ret (IX.c (PyData.bool false))) (IS.skip)
def _law_part1_r14 : IS := IS.seq _law_part1_s14 _law_part1_r15
def _law_part1_s13 : IS := IS.asg (Tg.nm 16) (IX.call 16 3 (IX.argV 1 (IX.argV 10 (IX.argV 11 (IX.nil)))))
def _law_part1_r13 : IS := IS.seq _law_part1_s13 _law_part1_r14
def _law_part1_s12 : IS := IS.ite (IX.tif (IX.tev (IX.b2 (O2.ne) (IX.call 14 5 (IX.argV 1 (IX.argV 10 (IX.argV 11 (IX.argV 12 (IX.argV 13 (IX.nil))))))) (IX.pk 14))) (IX.tt) (IX.tev (IX.b2 (O2.ne) (IX.call 15 5 (IX.argV 1 (IX.argV 10 (IX.argV 11 (IX.argC (IX.ix (IX.pk 14) (IX.c (PyData.int 0))) (IX.argC (IX.ix (IX.pk 14) (IX.c (PyData.int 1))) (IX.nil))))))) (IX.tup (IX.cons (IX.var 12) (IX.cons (IX.var 13) (IX.nil))))))) (IS.ret (IX.c (PyData.bool false))) (IS.skip)
def _law_part1_r12 : IS := IS.seq _law_part1_s12 _law_part1_r13
def _law_part1_s11 : IS := IS.forS [] (IX.rng1 (IX.cons (IX.bi (Bi.len) (IX.cons (IX.pk 10) (IX.nil))) (IX.nil))) (Tg.nm 15) (IS.asg (Tg.nm 14) (IX.tup (IX.cons (IX.ix (IX.pk 14) (IX.c (PyData.int 1))) (IX.cons (IX.call 25 2 (IX.argC (IX.ix (IX.pk 14) (IX.c (PyData.int 0))) (IX.argC (IX.ix (IX.ix (IX.pk 10) (IX.pk 15)) (IX.call 25 2 (IX.argC (IX.ix (IX.pk 14) (IX.c (PyData.int 1))) (IX.argC (IX.ix (IX.pk 11) (IX.pk 15)) (IX.nil))))) (IX.nil)))) (IX.nil)))))
def _law_part1_r11 : IS := IS.seq _law_part1_s11 _law_part1_r12
def _law_part1_s10 : IS := IS.asg (Tg.nm 14) (IX.tup (IX.cons (IX.var 12) (IX.cons (IX.var 13) (IX.nil))))
def _law_part1_r10 : IS := IS.seq _law_part1_s10 _law_part1_r11
def _law_part1_s9 : IS := IS.asg (Tg.nm 13) (IX.call 23 2 (IX.argV 0 (IX.argV 2 (IX.nil))))
def _law_part1_r9 : IS := IS.seq _law_part1_s9 _law_part1_r10
def _law_part1_s8 : IS := IS.asg (Tg.nm 12) (IX.call 23 2 (IX.argV 0 (IX.argV 2 (IX.nil))))
def _law_part1_r8 : IS := IS.seq _law_part1_s8 _law_part1_r9
def _law_part1_s7 : IS := IS.asg (Tg.nm 11) (IX.bi (Bi.tuple) (IX.cons (IX.lc (IX.seq (IX.pk 10)) (Tg.nm 9) [9] (IX.tt) (IX.call 23 2 (IX.argV 0 (IX.argV 2 (IX.nil))))) (IX.nil)))
def _law_part1_r7 : IS := IS.seq _law_part1_s7 _law_part1_r8
def _law_part1_s6 : IS := IS.asg (Tg.nm 10) (IX.bi (Bi.tuple) (IX.cons (IX.lc (IX.rng1 (IX.cons (IX.call 23 2 (IX.argV 0 (IX.argC (IX.c (PyData.int 4)) (IX.nil)))) (IX.nil))) (Tg.nm 15) [15] (IX.tt) (IX.call 28 2 (IX.argV 0 (IX.argV 2 (IX.nil))))) (IX.nil)))
def _law_part1_r6 : IS := IS.seq _law_part1_s6 _law_part1_r7
def _law_part1_s5 : IS := IS.ite (IX.tif (IX.tev (IX.b2 (O2.ne) (IX.call 21 2 (IX.argV 1 (IX.argV 3 (IX.nil)))) (IX.ife (IX.tev (IX.b2 (O2.gt) (IX.bi (Bi.len) (IX.cons (IX.pk 8) (IX.nil))) (IX.c (PyData.int 0)))) (IX.ix (IX.pk 8) (IX.c (PyData.int 0))) (IX.c (PyData.none))))) (IX.tt) (IX.tev (IX.b2 (O2.ne) (IX.b2 (O2.eq) (IX.bi (Bi.len) (IX.cons (IX.pk 8) (IX.nil))) (IX.c (PyData.int 0))) (IX.b2 (O2.lt) (IX.call 11 2 (IX.argV 1 (IX.argV 3 (IX.nil)))) (IX.c (PyData.int 2)))))) (IS.ret (IX.c (PyData.bool false))) (IS.skip)
def _law_part1_r5 : IS := IS.seq _law_part1_s5 _law_part1_r6
def _law_part1_s4 : IS := IS.forS [] (IX.rng1 (IX.cons (IX.var 2) (IX.nil))) (Tg.nm 9) (IS.asg (Tg.nm 8) (IX.b2 (O2.add) (IX.pk 8) (IX.lc (IX.rng2 (IX.cons (IX.var 9) (IX.cons (IX.var 2) (IX.nil)))) (Tg.nm 26) [26] (IX.tev (IX.b2 (O2.ne) (IX.ix (IX.pk 3) (IX.call 25 2 (IX.argV 9 (IX.argV 26 (IX.nil))))) (IX.call 25 2 (IX.argC (IX.call 25 2 (IX.argC (IX.ix (IX.pk 3) (IX.pk 9)) (IX.argC (IX.ix (IX.pk 3) (IX.pk 26)) (IX.nil)))) (IX.argC (IX.ix (IX.pk 3) (IX.c (PyData.int 0))) (IX.nil)))))) (IX.tup (IX.cons (IX.var 9) (IX.cons (IX.var 26) (IX.nil)))))))
def _law_part1_r4 : IS := IS.seq _law_part1_s4 _law_part1_r5
def _law_part1_s3 : IS := IS.asg (Tg.nm 8) (IX.lst (IX.nil))
def _law_part1_r3 : IS := IS.seq _law_part1_s3 _law_part1_r4
def _law_part1_s2 : IS := IS.ite (IX.tev (IX.b2 (O2.ne) (IX.call 11 2 (IX.argV 1 (IX.argV 3 (IX.nil)))) (IX.bi (Bi.max) (IX.cons (IX.pk 6) (IX.nil))))) (IS.ret (IX.c (PyData.bool false))) (IS.skip)
def _law_part1_r2 : IS := IS.seq _law_part1_s2 _law_part1_r3
def _law_part1_s1 : IS := IS.forS [5] (IX.seq (IX.pk 5)) (Tg.nm 7) (IS.asg (Tg.nm 6) (IX.b2 (O2.add) (IX.pk 6) (IX.lc (IX.seq (IX.pk 7)) (Tg.nm 25) [25] (IX.tt) (IX.call 27 1 (IX.argV 25 (IX.nil))))))
def _law_part1_r1 : IS := IS.seq _law_part1_s1 _law_part1_r2
def _law_part1_s0 : IS := IS.asg (Tg.nm 6) (IX.lst (IX.cons (IX.c (PyData.int 0)) (IX.nil)))
def _law_part1_r0 : IS := IS.seq _law_part1_s0 _law_part1_r1
theorem ir__law_part1_is : ir__law_part1 = _law_part1_r0 := by kernel_rfl
@[simp] theorem _law_part1_e0 {F : Nat → Fn} {k kb kc : Kn} {env : En} {s : Dr} : evS' F _law_part1_r0 k kb kc env s = evS' F _law_part1_s0 (evS' F _law_part1_r1 k kb kc) kb kc env s := by rw [_law_part1_r0]; exact xS_seqS
@[simp] theorem _law_part1_e1 {F : Nat → Fn} {k kb kc : Kn} {env : En} {s : Dr} : evS' F _law_part1_r1 k kb kc env s = evS' F _law_part1_s1 (evS' F _law_part1_r2 k kb kc) kb kc env s := by rw [_law_part1_r1]; exact xS_seqS
@[simp] theorem _law_part1_e2 {F : Nat → Fn} {k kb kc : Kn} {env : En} {s : Dr} : evS' F _law_part1_r2 k kb kc env s = evS' F _law_part1_s2 (evS' F _law_part1_r3 k kb kc) kb kc env s := by rw [_law_part1_r2]; exact xS_seqS
@[simp] theorem _law_part1_e3 {F : Nat → Fn} {k kb kc : Kn} {env : En} {s : Dr} : evS' F _law_part1_r3 k kb kc env s = evS' F _law_part1_s3 (evS' F _law_part1_r4 k kb kc) kb kc env s := by rw [_law_part1_r3]; exact xS_seqS
@[simp] theorem _law_part1_e4 {F : Nat → Fn} {k kb kc : Kn} {env : En} {s : Dr} : evS' F _law_part1_r4 k kb kc env s = evS' F _law_part1_s4 (evS' F _law_part1_r5 k kb kc) kb kc env s := by rw [_law_part1_r4]; exact xS_seqS
@[simp] theorem _law_part1_e5 {F : Nat → Fn} {k kb kc : Kn} {env : En} {s : Dr} : evS' F _law_part1_r5 k kb kc env s = evS' F _law_part1_s5 (evS' F _law_part1_r6 k kb kc) kb kc env s := by rw [_law_part1_r5]; exact xS_seqS
@[simp] theorem _law_part1_e6 {F : Nat → Fn} {k kb kc : Kn} {env : En} {s : Dr} : evS' F _law_part1_r6 k kb kc env s = evS' F _law_part1_s6 (evS' F _law_part1_r7 k kb kc) kb kc env s := by rw [_law_part1_r6]; exact xS_seqS
@[simp] theorem _law_part1_e7 {F : Nat → Fn} {k kb kc : Kn} {env : En} {s : Dr} : evS' F _law_part1_r7 k kb kc env s = evS' F _law_part1_s7 (evS' F _law_part1_r8 k kb kc) kb kc env s := by rw [_law_part1_r7]; exact xS_seqS
@[simp] theorem _law_part1_e8 {F : Nat → Fn} {k kb kc : Kn} {env : En} {s : Dr} : evS' F _law_part1_r8 k kb kc env s = evS' F _law_part1_s8 (evS' F _law_part1_r9 k kb kc) kb kc env s := by rw [_law_part1_r8]; exact xS_seqS
@[simp] theorem _law_part1_e9 {F : Nat → Fn} {k kb kc : Kn} {env : En} {s : Dr} : evS' F _law_part1_r9 k kb kc env s = evS' F _law_part1_s9 (evS' F _law_part1_r10 k kb kc) kb kc env s := by rw [_law_part1_r9]; exact xS_seqS
@[simp] theorem _law_part1_e10 {F : Nat → Fn} {k kb kc : Kn} {env : En} {s : Dr} : evS' F _law_part1_r10 k kb kc env s = evS' F _law_part1_s10 (evS' F _law_part1_r11 k kb kc) kb kc env s := by rw [_law_part1_r10]; exact xS_seqS
@[simp] theorem _law_part1_e11 {F : Nat → Fn} {k kb kc : Kn} {env : En} {s : Dr} : evS' F _law_part1_r11 k kb kc env s = evS' F _law_part1_s11 (evS' F _law_part1_r12 k kb kc) kb kc env s := by rw [_law_part1_r11]; exact xS_seqS
@[simp] theorem _law_part1_e12 {F : Nat → Fn} {k kb kc : Kn} {env : En} {s : Dr} : evS' F _law_part1_r12 k kb kc env s = evS' F _law_part1_s12 (evS' F _law_part1_r13 k kb kc) kb kc env s := by rw [_law_part1_r12]; exact xS_seqS
@[simp] theorem _law_part1_e13 {F : Nat → Fn} {k kb kc : Kn} {env : En} {s : Dr} : evS' F _law_part1_r13 k kb kc env s = evS' F _law_part1_s13 (evS' F _law_part1_r14 k kb kc) kb kc env s := by rw [_law_part1_r13]; exact xS_seqS
@[simp] theorem _law_part1_e14 {F : Nat → Fn} {k kb kc : Kn} {env : En} {s : Dr} : evS' F _law_part1_r14 k kb kc env s = evS' F _law_part1_s14 (evS' F _law_part1_r15 k kb kc) kb kc env s := by rw [_law_part1_r14]; exact xS_seqS
@[simp] theorem _law_part1_e15 {F : Nat → Fn} {k kb kc : Kn} {env : En} {s : Dr} : evS' F _law_part1_r15 k kb kc env s = evS' F _law_part1_s15 (evS' F _law_part1_r16 k kb kc) kb kc env s := by rw [_law_part1_r15]; exact xS_seqS
@[simp] theorem _law_part1_e16 {F : Nat → Fn} {k kb kc : Kn} {env : En} {s : Dr} : evS' F _law_part1_r16 k kb kc env s = evS' F _law_part1_s16 (evS' F _law_part1_r17 k kb kc) kb kc env s := by rw [_law_part1_r16]; exact xS_seqS
@[simp] theorem _law_part1_e17 {F : Nat → Fn} {k kb kc : Kn} {env : En} {s : Dr} : evS' F _law_part1_r17 k kb kc env s = evS' F _law_part1_s17 (evS' F _law_part1_r18 k kb kc) kb kc env s := by rw [_law_part1_r17]; exact xS_seqS
@[simp] theorem _law_part1_e18 {F : Nat → Fn} {k kb kc : Kn} {env : En} {s : Dr} : evS' F _law_part1_r18 k kb kc env s = evS' F _law_part1_s18 (evS' F _law_part1_r19 k kb kc) kb kc env s := by rw [_law_part1_r18]; exact xS_seqS
@[simp] theorem _law_part1_e19 {F : Nat → Fn} {k kb kc : Kn} {env : En} {s : Dr} : evS' F _law_part1_r19 k kb kc env s = evS' F _law_part1_s19 (evS' F _law_part1_r20 k kb kc) kb kc env s := by rw [_law_part1_r19]; exact xS_seqS
@[simp] theorem _law_part1_e20 {F : Nat → Fn} {k kb kc : Kn} {env : En} {s : Dr} : evS' F _law_part1_r20 k kb kc env s = evS' F _law_part1_s20 (evS' F _law_part1_r21 k kb kc) kb kc env s := by rw [_law_part1_r20]; exact xS_seqS
@[simp] theorem _law_part1_e21 {F : Nat → Fn} {k kb kc : Kn} {env : En} {s : Dr} : evS' F _law_part1_r21 k kb kc env s = evS' F _law_part1_s21 (evS' F _law_part1_r22 k kb kc) kb kc env s := by rw [_law_part1_r21]; exact xS_seqS
@[simp] theorem _law_part1_e22 {F : Nat → Fn} {k kb kc : Kn} {env : En} {s : Dr} : evS' F _law_part1_r22 k kb kc env s = evS' F _law_part1_s22 (evS' F _law_part1_r23 k kb kc) kb kc env s := by rw [_law_part1_r22]; exact xS_seqS
@[simp] theorem _law_part1_e23 {F : Nat → Fn} {k kb kc : Kn} {env : En} {s : Dr} : evS' F _law_part1_r23 k kb kc env s = evS' F _law_part1_s23 (evS' F _law_part1_r24 k kb kc) kb kc env s := by rw [_law_part1_r23]; exact xS_seqS
@[simp] theorem _law_part1_e24 {F : Nat → Fn} {k kb kc : Kn} {env : En} {s : Dr} : evS' F _law_part1_r24 k kb kc env s = evS' F _law_part1_s24 (evS' F _law_part1_r25 k kb kc) kb kc env s := by rw [_law_part1_r24]; exact xS_seqS
@[simp] theorem _law_part1_e25 {F : Nat → Fn} {k kb kc : Kn} {env : En} {s : Dr} : evS' F _law_part1_r25 k kb kc env s = evS' F _law_part1_s25 (evS' F _law_part1_r26 k kb kc) kb kc env s := by rw [_law_part1_r25]; exact xS_seqS
@[simp] theorem _law_part1_e26 {F : Nat → Fn} {k kb kc : Kn} {env : En} {s : Dr} : evS' F _law_part1_r26 k kb kc env s = evS' F _law_part1_s26 (evS' F _law_part1_r27 k kb kc) kb kc env s := by rw [_law_part1_r26]; exact xS_seqS
@[simp] theorem _law_part1_e27 {F : Nat → Fn} {k kb kc : Kn} {env : En} {s : Dr} : evS' F _law_part1_r27 k kb kc env s = evS' F _law_part1_s27 (evS' F _law_part1_r28 k kb kc) kb kc env s := by rw [_law_part1_r27]; exact xS_seqS
end Row

set_option Elab.async false
set_option linter.all false
set_option maxRecDepth 100000
set_option maxHeartbeats 1000000
namespace Row
open PySem PySem.Spec PyProof.Rows L2 L2.DL
open Enc (enc)
variable [TabL]
local macro_rules | `(tactic| trivial) => `(tactic| (simp only [decide_eq_true_eq, decide_eq_false_iff_not, Bool.and_eq_true, Bool.or_eq_true, Bool.not_eq_true', Bool.not_eq_false', Bool.or_eq_false_iff, Bool.and_eq_false_iff, List.length_map, irange_len, List.length_append, List.length_cons, List.length_nil]; omega))
local macro_rules | `(tactic| trivial) => `(tactic| exact Nat.le_of_ble_eq_true rfl)
local macro_rules | `(tactic| trivial) => `(tactic| omega)
local macro_rules | `(tactic| trivial) => `(tactic| assumption)
variable {n b g : Nat} {t : List Int} {s : Dr}
theorem B3.pw (hb : B3 b g) : 1 ≤ b ∧ b ≤ 3 ∧ 2 ^ b = g ∧ g ≤ 8 ∧ 2 ≤ g := by
  rcases hb with ⟨rfl, rfl⟩ | ⟨rfl, rfl⟩ | ⟨rfl, rfl⟩ <;> decide
theorem law1 (hs : DrOk s) (k kb kc : Kn) (Q : D → Dr → Prop)
    (hk : ∀ (b g : Nat) (t : List Int) (s : Dr), DrOk s → B3 b g → BoxOk b g t → Wp (evS' (FP 20) law_r3 k kb kc [.no, .drw, .val (.int (b : Int)), .val (.int (g : Int)), .val (enc t), .no, .no, .no, .no, .no, .no, .no, .no, .no, .no, .no, .no, .no, .no, .no, .no, .no, .no, .no, .no] s) Q) :
    Wp (evS' (FP 20) law_r0 k kb kc [.no, .drw, .no, .no, .no, .no, .no, .no, .no, .no, .no, .no, .no, .no, .no, .no, .no, .no, .no, .no, .no, .no, .no, .no, .no] s) Q := by
  simp (disch := trivial) [law_s0]
  refine wp_took (take (by omega) (by omega) (by omega) hs) fun t0 s h0 h1 hs => ?_
  obtain ⟨b, g, hb, hbt⟩ : ∃ b g : Nat, B3 b g ∧ t0 = (b : Int) - 1 := by
    have : t0 = 0 ∨ t0 = 1 ∨ t0 = 2 := by omega
    rcases this with rfl | rfl | rfl
    · exact ⟨1, 2, .inl ⟨rfl, rfl⟩, rfl⟩
    · exact ⟨2, 4, .inr (.inl ⟨rfl, rfl⟩), rfl⟩
    · exact ⟨3, 8, .inr (.inr ⟨rfl, rfl⟩), rfl⟩
  subst hbt
  have e0 : gAdd (.int 1) (.int ((b : Int) - 1)) = some (.int b) := by
    rcases hb with ⟨rfl, rfl⟩ | ⟨rfl, rfl⟩ | ⟨rfl, rfl⟩ <;> rfl
  have e1 : gIx (.list [.int 2, .int 4, .int 8]) (.int ((b : Int) - 1)) = some (.int g) := by
    rcases hb with ⟨rfl, rfl⟩ | ⟨rfl, rfl⟩ | ⟨rfl, rfl⟩ <;> rfl
  have hg := hb.pw
  simp (disch := trivial) [e0, law_s1, e1]
  obtain ⟨_, s2, e2, r, rfl, hr, hs2⟩ := law_box (n := 20) (b := b) (m := g) (by omega) hg.1 (by omega) hg.2.2.1 (by omega) hs
  simp (disch := trivial) [law_s2, e2, -law_e3]
  exact hk b g r s2 hs2 hb hr
theorem law2 (hs : DrOk s) (hb : B3 b g) (ht : BoxOk b g t) (k kb kc : Kn) (Q : D → Dr → Prop)
    (hk : ∀ (s : Dr) (y6 : Sl), DrOk s → y6.nl = true → Wp (evS' (FP 20) law_r6 k kb kc [.no, .drw, .val (.int (b : Int)), .val (.int (g : Int)), .val (enc t), .val (.list (encs (pairsL t))), y6, .no, .no, .no, .no, .no, .no, .no, .no, .no, .no, .no, .no, .no, .no, .no, .no, .no, .no] s) Q) :
    Wp (evS' (FP 20) law_r3 k kb kc [.no, .drw, .val (.int (b : Int)), .val (.int (g : Int)), .val (enc t), .no, .no, .no, .no, .no, .no, .no, .no, .no, .no, .no, .no, .no, .no, .no, .no, .no, .no, .no, .no] s) Q := by
  have hg := hb.pw
  have hl := ht.len
  have c1 := fun s => is_order (n := 20) (s := s) (by omega) ht
  simp (disch := trivial) [law_s3, law_s4]
  refine for_inv (fun pre post env s' => DrOk s' ∧ ∃ y, y.nl = true ∧ env = [.no, .drw, .val (.int (b : Int)), .val (.int (g : Int)), .val (enc t), .val (.list (encs (pre.flatMap fun k => ((irange (k + 1) t.length).filter fun j => decide (nth t k = nth t j)).map fun j => (k, j)))), y, .no, .no, .no, .no, .no, .no, .no, .no, .no, .no, .no, .no, .no, .no, .no, .no, .no, .no]) ⟨hs, .no, rfl, rfl⟩ ?_ ?_
  · rintro pre z post env s kk kb e ⟨hs, y, hy, rfl⟩ hkk hkb
    obtain ⟨e1, e2, e3, e4⟩ := irange_at e
    simp (disch := trivial)
    refine lc_enc (irange (z + 1) g) (fun j => decide (nth t z = nth t j)) (fun j => (z, j)) (by simp (disch := trivial) <;> rfl) (fun j hj => ?_) ?_
    · obtain ⟨j0, j1⟩ := mem_irange.mp hj
      simp (disch := trivial)
    rw [← hl]
    have hb1 : ∀ k : Int, k ∈ pre → (((irange (k + 1) t.length).filter fun j => decide (nth t k = nth t j)).map fun j => (k, j)).length ≤ 12 := fun k hk => by
      have hk0 : 0 ≤ k := by
        have : k ∈ irange 0 g := by rw [e]; simp [hk]
        exact (mem_irange.mp this).1
      rw [List.length_map]
      refine Nat.le_trans (List.length_filter_le _ _) ?_
      rw [irange_len]; omega
    have hb2 := length_flatMap_le hb1
    have hb3 : (((irange (z + 1) t.length).filter fun j => decide (nth t z = nth t j)).map fun j => (z, j)).length ≤ 12 := by
      rw [List.length_map]
      refine Nat.le_trans (List.length_filter_le _ _) ?_
      rw [irange_len]; omega
    have hb : (pre.flatMap fun k => ((irange (k + 1) t.length).filter fun j => decide (nth t k = nth t j)).map fun j => (k, j)).length + (((irange (z + 1) t.length).filter fun j => decide (nth t z = nth t j)).map fun j => (z, j)).length ≤ 16777216 := by omega
    simp (disch := first | exact hb | trivial)
    rw [hl]
    refine hkk _ _ ⟨hs, .val (.int z), rfl, ?_⟩
    rw [List.flatMap_append]
    simp [hl]
  · rintro env s ⟨hs, y, hy, rfl⟩
    have hp : ((irange 0 (g : Int)).flatMap fun k => ((irange (k + 1) t.length).filter fun j => decide (nth t k = nth t j)).map fun j => (k, j)) = pairsL t := by rw [← hl]; rfl
    rw [hp]
    have hp : pairsL t = [] ∨ 0 < (pairsL t).length := by
      cases pairsL t with
      | nil => exact .inl rfl
      | cons => exact .inr (Nat.succ_pos _)
    rcases hp with hp | hp
    · simp (disch := trivial) [law_s5, c1, hp, -law_e6]
      have := hk s y hs hy
      rw [hp] at this
      exact this
    · simp (disch := trivial) [law_s5, c1, head_nth hp, -law_e6]
      exact hk s y hs hy
end Row

set_option Elab.async false
set_option linter.all false
set_option maxRecDepth 100000
set_option maxHeartbeats 1000000
namespace Row
open PySem PySem.Spec PyProof.Rows L2 L2.DL
open Enc (enc)
variable [TabL]
local macro_rules | `(tactic| trivial) => `(tactic| (simp only [decide_eq_true_eq, decide_eq_false_iff_not, Bool.and_eq_true, Bool.or_eq_true, Bool.not_eq_true', Bool.not_eq_false', Bool.or_eq_false_iff, Bool.and_eq_false_iff, List.length_map, irange_len, List.length_append, List.length_cons, List.length_nil]; omega))
local macro_rules | `(tactic| trivial) => `(tactic| exact Nat.le_of_ble_eq_true rfl)
local macro_rules | `(tactic| trivial) => `(tactic| omega)
local macro_rules | `(tactic| trivial) => `(tactic| assumption)
variable {n b g : Nat} {t : List Int} {s : Dr}
theorem gaps_at {t : List Int} {g : Nat} (ht : t.length = g) {x y : Int} (x0 : 0 ≤ x) (x1 : x < g) (y0 : 0 ≤ y) (y1 : y < g) : nth (nth (gapsL t) x) y = G t x y := by
  rw [gaps_row ht x0 x1, nth_mapr y0 y1]
theorem gaps_rlen {t : List Int} {g : Nat} (ht : t.length = g) {x : Int} (x0 : 0 ≤ x) (x1 : x < g) : (nth (gapsL t) x).length = g := by
  rw [gaps_row ht x0 x1, List.length_map, irange_len]; omega
theorem law3 (hs : DrOk s) (hb : B3 b g) (ht : BoxOk b g t) {y6 : Sl} (h6 : y6.nl = true) (k kb kc : Kn) (Q : D → Dr → Prop)
    (hk : ∀ (s : Dr) (y14 : Sl), DrOk s → y14.nl = true → Wp (evS' (FP 20) law_r7 k kb kc [.no, .drw, .val (.int (b : Int)), .val (.int (g : Int)), .val (enc t), .val (.list (encs (pairsL t))), y6, .no, .no, .no, .no, .no, .no, .no, y14, .no, .no, .no, .no, .no, .no, .no, .no, .no, .no] s) Q) :
    Wp (evS' (FP 20) law_r6 k kb kc [.no, .drw, .val (.int (b : Int)), .val (.int (g : Int)), .val (enc t), .val (.list (encs (pairsL t))), y6, .no, .no, .no, .no, .no, .no, .no, .no, .no, .no, .no, .no, .no, .no, .no, .no, .no, .no] s) Q := by
  have hg := hb.pw
  by_cases hp : pairsL t = []
  · have hi := pairs_nil.mp hp
    obtain ⟨hv, hvi⟩ := inv_ok ht hi
    have c1 := fun s => turned (n := 20) (s := s) (by omega) ht hp
    have c2 := fun s => joined (n := 20) (s := s) (by omega) ht hv
    have c3 := fun s => gaps (n := 20) (s := s) (by omega) hv
    have c4 := fun s => gaps (n := 20) (s := s) (by omega) ht
    have e1 : joinedL t (invL t) = irange 0 g := by
      refine list_eq (joined_ok ht hv).len (by rw [irange_len]; omega) fun x x0 x1 => ?_
      rw [joined_at ht x0 x1, inv_at ht hi x0 x1, nth_irange x0 (by omega), Int.zero_add]
    have g1 : (gapsL t).length = g := by rw [gapsL_len, ht.len]
    have hr : ∀ s, rgaR [.int (g : Int)] s = .ok ((0, (g : Int)), s) := fun s => by
      unfold rgaR
      dsimp only
      rw [inR_18 (by omega) (by omega), if_pos (by rw [Bool.true_and, fitB_le']; omega)]
    have hr3 : rngD 0 g 1 = encs (irange 0 g) := by
      have : rngD 0 ((g : Int) - 0).toNat 1 = encs (irange 0 g) := by
        rw [rngD_irange]
        have : (0 : Int) + (((g : Int) - 0).toNat : Int) = g := by omega
        rw [this]; rfl
      rw [← this]
      congr 1
    have e9 : gNe (enc (irange 0 (g : Int))) (.tuple (encs (irange 0 (g : Int)))) = some (.bool false) := by
      have := gNe_enc (α := List Int) (a := irange 0 (g : Int)) (b := irange 0 (g : Int)) (by trivial)
      rw [decide_eq_true rfl] at this
      exact this
    simp (disch := trivial) [law_s6, hp, c1, c2, e1, hr, hr3, e9, c3]
    refine lc_all (irange 0 (g : Int)) (fun z => (irange 0 (g : Int)).map fun j => nth (nth (gapsL t) j) z) (by simp (disch := trivial) <;> rfl) (fun z hz => ?_) ?_
    · obtain ⟨z0, z1⟩ := mem_irange.mp hz
      simp (disch := trivial)
      refine lc_all (irange 0 (g : Int)) (fun j => nth (nth (gapsL t) j) z) (by simp (disch := trivial) <;> rfl) (fun j hj => ?_) ?_
      · obtain ⟨j0, j1⟩ := mem_irange.mp hj
        have m := gaps_rlen ht.len j0 j1
        simp (disch := trivial) [c4]
      · simp (disch := trivial)
    · have r : (irange 0 (g : Int)).map (fun z => (irange 0 (g : Int)).map fun j => nth (nth (gapsL t) j) z) = gapsL (invL t) := by
        show _ = (irange 0 ((invL t).length : Int)).map fun x => rowG (invL t) x (irange 0 (invL t).length)
        rw [hv.len]
        refine map_congr fun z hz => ?_
        obtain ⟨z0, z1⟩ := mem_irange.mp hz
        have e := gaps_row hv.len z0 z1
        unfold gapsL at e
        rw [hv.len, nth_mapr z0 z1] at e
        rw [e]
        refine map_congr fun j hj => ?_
        obtain ⟨j0, j1⟩ := mem_irange.mp hj
        rw [gaps_at ht.len j0 j1 z0 z1, inv_G ht hi z0 z1 j0 j1]
      rw [r]
      simp (disch := trivial) [-law_e7]
      have := hk s (.val (enc (invL t))) hs rfl
      rw [hp] at this
      exact this
  · have hp2 : ¬ (pairsL t).length = 0 := fun h => hp (List.eq_nil_of_length_eq_zero h)
    simp (disch := trivial) [law_s6, hp, -law_e7]
    exact hk s _ hs rfl
end Row

set_option Elab.async false
set_option linter.all false
set_option maxRecDepth 100000
set_option maxHeartbeats 1000000
namespace Row
open PySem PySem.Spec PyProof.Rows L2 L2.DL
open Enc (enc)
variable [TabL]
local macro_rules | `(tactic| trivial) => `(tactic| (simp only [decide_eq_true_eq, decide_eq_false_iff_not, Bool.and_eq_true, Bool.or_eq_true, Bool.not_eq_true', Bool.not_eq_false', Bool.or_eq_false_iff, Bool.and_eq_false_iff, List.length_map, irange_len, List.length_append, List.length_cons, List.length_nil]; omega))
local macro_rules | `(tactic| trivial) => `(tactic| exact Nat.le_of_ble_eq_true rfl)
local macro_rules | `(tactic| trivial) => `(tactic| omega)
local macro_rules | `(tactic| trivial) => `(tactic| assumption)
variable {n b g : Nat} {t : List Int} {s : Dr}
theorem law4 (hs : DrOk s) (hb : B3 b g) (ht : BoxOk b g t) {y6 y14 : Sl} (h6 : y6.nl = true) (h14 : y14.nl = true) (k kb kc : Kn) (Q : D → Dr → Prop)
    (hk : ∀ (s : Dr) (y8 : Sl), DrOk s → y8.nl = true → Wp (evS' (FP 20) law_r9 k kb kc [.no, .drw, .val (.int (b : Int)), .val (.int (g : Int)), .val (enc t), .val (.list (encs (pairsL t))), y6, .lst false (encs (gapsL t)), y8, .no, .no, .no, .no, .no, y14, .no, .no, .no, .no, .no, .no, .no, .no, .no, .no] s) Q) :
    Wp (evS' (FP 20) law_r7 k kb kc [.no, .drw, .val (.int (b : Int)), .val (.int (g : Int)), .val (enc t), .val (.list (encs (pairsL t))), y6, .no, .no, .no, .no, .no, .no, .no, y14, .no, .no, .no, .no, .no, .no, .no, .no, .no, .no] s) Q := by
  have hg := hb.pw
  have hl := ht.len
  simp (disch := trivial) [law_s7, law_s8]
  refine for_inv (fun pre post env s' => DrOk s' ∧ ∃ y, y.nl = true ∧ env = [.no, .drw, .val (.int (b : Int)), .val (.int (g : Int)), .val (enc t), .val (.list (encs (pairsL t))), y6, .lst false (encs (pre.map fun x => rowG t x (irange 0 (g : Int)))), y, .no, .no, .no, .no, .no, y14, .no, .no, .no, .no, .no, .no, .no, .no, .no, .no]) ⟨hs, .no, rfl, rfl⟩ ?_ ?_
  · rintro pre z post env s kk kb e ⟨hs, y, hy, rfl⟩ hkk hkb
    obtain ⟨e1, z0, z1, e4⟩ := irange_at e
    simp (disch := trivial)
    refine lc_all (irange 0 (g : Int)) (fun d => cntG t z d (irange 0 (g : Int))) (by simp (disch := trivial) <;> rfl) (fun d hd => ?_) ?_
    · obtain ⟨d0, d1⟩ := mem_irange.mp hd
      simp (disch := trivial)
      refine lc_enc (irange 0 (g : Int)) (fun x => decide (Builtin.bitXor (nth t x) (nth t (Builtin.bitXor x z)) = d)) (fun x => x) (by simp (disch := trivial) <;> rfl) (fun x hx => ?_) ?_
      · obtain ⟨x0, x1⟩ := mem_irange.mp hx
        obtain ⟨w0, w1⟩ := ht.xi x0 x1 z0 z1
        obtain ⟨p0, p1⟩ := ht.at_ x0 x1
        obtain ⟨q0, q1⟩ := ht.at_ w0 w1
        have c1 := fun s => law_xor (n := 20) (s := s) (by omega) x0 (show x < 8 by omega) z0 (show z < 8 by omega)
        have c2 := fun s => law_xor (n := 20) (s := s) (by omega) p0 (show nth t x < 8 by omega) q0 (show nth t (Builtin.bitXor x z) < 8 by omega)
        simp (disch := trivial) [c1, c2]
      · rw [List.map_id']
        simp (disch := trivial)
        rfl
    simp (disch := trivial)
    refine hkk _ _ ⟨hs, .val (.int z), rfl, ?_⟩
    rw [List.map_append]
    unfold rowG
    rw [hl]
    rfl
  · rintro env s ⟨hs, y, hy, rfl⟩
    simp (disch := trivial) [-law_e9]
    have e : (irange 0 (g : Int)).map (fun x => rowG t x (irange 0 (g : Int))) = gapsL t := by
      unfold gapsL
      rw [hl]
    rw [e]
    exact hk s y hs hy
end Row

set_option Elab.async false
set_option linter.all false
set_option maxRecDepth 100000
set_option maxHeartbeats 1000000
namespace Row
open PySem PySem.Spec PyProof.Rows L2 L2.DL
open Enc (enc)
variable [TabL]
local macro_rules | `(tactic| trivial) => `(tactic| (simp only [decide_eq_true_eq, decide_eq_false_iff_not, Bool.and_eq_true, Bool.or_eq_true, Bool.not_eq_true', Bool.not_eq_false', Bool.or_eq_false_iff, Bool.and_eq_false_iff, List.length_map, irange_len, List.length_append, List.length_cons, List.length_nil]; omega))
local macro_rules | `(tactic| trivial) => `(tactic| exact Nat.le_of_ble_eq_true rfl)
local macro_rules | `(tactic| trivial) => `(tactic| omega)
local macro_rules | `(tactic| trivial) => `(tactic| assumption)
variable {n b g : Nat} {t : List Int} {s : Dr}
/-! counts: they add up, and are even -/
def cntP (l : List Int) (p : Int → Bool) : Int := ((l.filter p).length : Int)
theorem sum_counts {f : Int → Int} {m : Nat} : ∀ {l : List Int}, (∀ x ∈ l, 0 ≤ f x ∧ f x < m) → ((irange 0 (m : Int)).map fun d => cntP l fun x => decide (f x = d)).sum = l.length
  | [], _ => by
    have : ∀ k : List Int, (k.map fun d => cntP [] fun x => decide (f x = d)).sum = 0 := fun k => by
      induction k with
      | nil => rfl
      | cons a k ih => rw [List.map_cons, List.sum_cons, ih]; rfl
    rw [this]; rfl
  | a :: l, h => by
    have ih := sum_counts (f := f) (m := m) (l := l) fun x hx => h x (List.mem_cons_of_mem _ hx)
    obtain ⟨a0, a1⟩ := h a (List.mem_cons_self ..)
    have e : ∀ d : Int, cntP (a :: l) (fun x => decide (f x = d)) = cntP l (fun x => decide (f x = d)) + if f a = d then 1 else 0 := fun d => by
      unfold cntP
      rw [List.filter_cons]
      by_cases hd : f a = d
      · rw [if_pos (decide_eq_true hd), if_pos hd]; rfl
      · rw [if_neg (by rw [decide_eq_true_eq]; exact hd), if_neg hd, Int.add_zero]
    have s2 : ∀ k : List Int, (k.map fun d => cntP (a :: l) fun x => decide (f x = d)).sum = (k.map fun d => cntP l fun x => decide (f x = d)).sum + (k.map fun d => if f a = d then (1 : Int) else 0).sum := fun k => by
      induction k with
      | nil => rfl
      | cons d k ih => rw [List.map_cons, List.sum_cons, List.map_cons, List.sum_cons, List.map_cons, List.sum_cons, ih, e]; omega
    have s3 : ∀ k : List Int, k.Nodup → (k.map fun d => if f a = d then (1 : Int) else 0).sum = if f a ∈ k then 1 else 0 := fun k hk => by
      induction k with
      | nil => rfl
      | cons d k ih =>
        obtain ⟨k1, k2⟩ := List.nodup_cons.mp hk
        rw [List.map_cons, List.sum_cons, ih k2]
        by_cases hd : f a = d
        · rw [if_pos hd, if_neg (by rw [hd]; exact k1), if_pos (by rw [hd]; exact List.mem_cons_self ..)]; rfl
        · rw [if_neg hd, Int.zero_add]
          by_cases hm : f a ∈ k
          · rw [if_pos hm, if_pos (List.mem_cons_of_mem _ hm)]
          · rw [if_neg hm, if_neg]
            intro z
            rcases List.mem_cons.mp z with z | z
            · exact hd z
            · exact hm z
    rw [s2, ih, s3 _ irange_nodup, if_pos (mem_irange.mpr ⟨a0, a1⟩), List.length_cons]
    omega
theorem ev2 : ∀ h : Fin 2, 1 ≤ h.val → ∀ r ∈ bitsOf 2, (∀ x ∈ irange 0 2, nth r (Builtin.bitXor x (h.val : Int)) = nth r x) → r.sum % 2 = 0 := by decide +kernel
theorem ev4 : ∀ h : Fin 4, 1 ≤ h.val → ∀ r ∈ bitsOf 4, (∀ x ∈ irange 0 4, nth r (Builtin.bitXor x (h.val : Int)) = nth r x) → r.sum % 2 = 0 := by decide +kernel
theorem ev8 : ∀ h : Fin 8, 1 ≤ h.val → ∀ r ∈ bitsOf 8, (∀ x ∈ irange 0 8, nth r (Builtin.bitXor x (h.val : Int)) = nth r x) → r.sum % 2 = 0 := by decide +kernel
theorem sum_ind {p : Int → Bool} : ∀ {l : List Int}, (l.map fun x => if p x = true then (1 : Int) else 0).sum = cntP l p
  | [] => rfl
  | a :: l => by
    rw [List.map_cons, List.sum_cons, sum_ind]
    unfold cntP
    rw [List.filter_cons]
    by_cases h : p a = true
    · rw [if_pos h, if_pos h, List.length_cons]; omega
    · rw [if_neg h, if_neg h]; omega
theorem even_count (hb : B3 b g) {p : Int → Bool} {h : Int} (h0 : 1 ≤ h) (h1 : h < g) (hp : ∀ x : Int, 0 ≤ x → x < g → p (Builtin.bitXor x h) = p x) : cntP (irange 0 (g : Int)) p % 2 = 0 := by
  have hm : (irange 0 (g : Int)).map (fun x => if p x = true then (1 : Int) else 0) ∈ bitsOf g := bits_map fun x x0 x1 => by
    by_cases h : p x = true
    · rw [if_pos h]; omega
    · rw [if_neg h]; omega
  have hx : ∀ x ∈ irange 0 (g : Int), nth ((irange 0 (g : Int)).map fun x => if p x = true then (1 : Int) else 0) (Builtin.bitXor x h) = nth ((irange 0 (g : Int)).map fun x => if p x = true then (1 : Int) else 0) x := fun x hx => by
    obtain ⟨x0, x1⟩ := mem_irange.mp hx
    have hg : (b = 1 ∧ g = 2) ∨ (b = 2 ∧ g = 4) ∨ (b = 3 ∧ g = 8) ∨ (b = 4 ∧ g = 16) := by unfold B3 at hb; omega
    obtain ⟨y0, y1⟩ := xr_in hg x0 x1 (show 0 ≤ h by omega) h1
    rw [nth_mapr y0 y1, nth_mapr x0 x1, hp x x0 x1]
  rw [← sum_ind]
  rcases hb with ⟨rfl, rfl⟩ | ⟨rfl, rfl⟩ | ⟨rfl, rfl⟩
  · refine ev2 ⟨h.toNat, by omega⟩ (by show 1 ≤ h.toNat; omega) _ hm ?_
    dsimp only
    rw [Int.toNat_of_nonneg (by omega)]
    exact hx
  · refine ev4 ⟨h.toNat, by omega⟩ (by show 1 ≤ h.toNat; omega) _ hm ?_
    dsimp only
    rw [Int.toNat_of_nonneg (by omega)]
    exact hx
  · refine ev8 ⟨h.toNat, by omega⟩ (by show 1 ≤ h.toNat; omega) _ hm ?_
    dsimp only
    rw [Int.toNat_of_nonneg (by omega)]
    exact hx
/-- gaps: rows add up to the size, and are even -/
theorem gaps_sum (ht : BoxOk b g t) {x : Int} (x0 : 0 ≤ x) (x1 : x < g) : (nth (gapsL t) x).sum = g := by
  rw [gaps_row ht.len x0 x1]
  have := sum_counts (f := fun k => Builtin.bitXor (nth t k) (nth t (Builtin.bitXor k x))) (m := g) (l := irange 0 (g : Int)) fun k hk => by
    obtain ⟨k0, k1⟩ := mem_irange.mp hk
    obtain ⟨y0, y1⟩ := ht.xi k0 k1 x0 x1
    obtain ⟨p0, p1⟩ := ht.at_ k0 k1
    obtain ⟨q0, q1⟩ := ht.at_ y0 y1
    exact ht.xi p0 p1 q0 q1
  rw [irange_len] at this
  refine Eq.trans ?_ (this.trans (by omega))
  congr 1
  refine map_congr fun d _ => ?_
  unfold G cntG cntP
  rw [ht.len]
theorem gaps_even (hb : B3 b g) (ht : BoxOk b g t) {x d : Int} (x0 : 0 ≤ x) (x1 : x < g) (d0 : 0 ≤ d) (d1 : d < g) : G t x d % 2 = 0 := by
  have hg := ht.le
  have e : G t x d = cntP (irange 0 (g : Int)) fun k => decide (Builtin.bitXor (nth t k) (nth t (Builtin.bitXor k x)) = d) := by
    unfold G cntG cntP
    rw [ht.len]
  by_cases hx : x = 0
  · subst hx
    have h0 : ∀ k ∈ irange 0 (g : Int), Builtin.bitXor (nth t k) (nth t (Builtin.bitXor k 0)) = 0 := fun k hk => by
      obtain ⟨k0, k1⟩ := mem_irange.mp hk
      rw [xr_zero (s_of hg.2 k0 k1), xr_self (ht.s k0 k1)]
    by_cases hd : d = 0
    · subst hd
      rw [e]
      unfold cntP
      rw [List.filter_eq_self.mpr fun k hk => decide_eq_true (h0 k hk), irange_len]
      unfold B3 at hb
      omega
    · rw [G_zero ht (by omega)]; rfl
  · rw [e]
    refine even_count hb (h := x) (by omega) x1 fun k k0 k1 => ?_
    obtain ⟨y0, y1⟩ := ht.xi k0 k1 x0 x1
    rw [xr_back (s_of hg.2 k0 k1) (s_of hg.2 x0 x1), xr_comm (ht.s y0 y1) (ht.s k0 k1)]
end Row

set_option Elab.async false
set_option linter.all false
set_option maxRecDepth 100000
set_option maxHeartbeats 1000000
namespace Row
open PySem PySem.Spec PyProof.Rows L2 L2.DL
open Enc (enc)
variable [TabL]
local macro_rules | `(tactic| trivial) => `(tactic| (simp only [decide_eq_true_eq, decide_eq_false_iff_not, Bool.and_eq_true, Bool.or_eq_true, Bool.not_eq_true', Bool.not_eq_false', Bool.or_eq_false_iff, Bool.and_eq_false_iff, List.length_map, irange_len, List.length_append, List.length_cons, List.length_nil]; omega))
local macro_rules | `(tactic| trivial) => `(tactic| exact Nat.le_of_ble_eq_true rfl)
local macro_rules | `(tactic| trivial) => `(tactic| omega)
local macro_rules | `(tactic| trivial) => `(tactic| assumption)
variable {n b g : Nat} {t : List Int} {s : Dr}
theorem list_irangeL {α : Type} [Inhabited α] {t : List α} : t = (irange 0 (t.length : Int)).map (nth t) := by
  refine List.ext_getElem (by rw [List.length_map, irange_len]; omega) fun i h1 h2 => ?_
  have h3 := nth_mapr (g := t.length) (φ := nth t) (x := (i : Int)) (by omega) (by omega)
  have e : ∀ (l : List α) (h : i < l.length), nth l (i : Int) = l[i] := fun l h => by
    unfold nth
    rw [Int.toNat_natCast, List.getElem?_eq_getElem h]; rfl
  rw [e _ h2, e _ h1] at h3
  exact h3.symm
theorem law5 (hs : DrOk s) (hb : B3 b g) (ht : BoxOk b g t) {y6 y8 y14 : Sl} (h6 : y6.nl = true) (h8 : y8.nl = true) (h14 : y14.nl = true) (k kb kc : Kn) (Q : D → Dr → Prop)
    (hk : ∀ (s : Dr), DrOk s → Wp (evS' (FP 20) law_r11 k kb kc [.no, .drw, .val (.int (b : Int)), .val (.int (g : Int)), .val (enc t), .val (.list (encs (pairsL t))), y6, .lst false (encs (gapsL t)), y8, .no, .no, .no, .no, .no, y14, .no, .no, .no, .no, .no, .no, .no, .no, .no, .no] s) Q) :
    Wp (evS' (FP 20) law_r9 k kb kc [.no, .drw, .val (.int (b : Int)), .val (.int (g : Int)), .val (enc t), .val (.list (encs (pairsL t))), y6, .lst false (encs (gapsL t)), y8, .no, .no, .no, .no, .no, y14, .no, .no, .no, .no, .no, .no, .no, .no, .no, .no] s) Q := by
  have hg := hb.pw
  have hl := ht.len
  have gl : (gapsL t).length = g := by rw [gapsL_len, hl]
  have tl : ((gapsL t).tail).length = g - 1 := by rw [List.length_tail, gl]
  have c1 := fun s => gaps (n := 20) (s := s) (by omega) ht
  have c2 := fun s => most_gap (n := 20) (s := s) (by omega) ht
  have hrow : ∀ row ∈ gapsL t, row.length = g ∧ row.sum = g ∧ ∀ z ∈ row, z % 2 = 0 := fun row hr => by
    have hx : ∃ x : Int, (0 ≤ x ∧ x < g) ∧ row = nth (gapsL t) x := by
      rw [show gapsL t = (irange 0 (g : Int)).map (nth (gapsL t)) by rw [← gl]; exact list_irangeL] at hr
      obtain ⟨x, hx, rfl⟩ := List.mem_map.mp hr
      exact ⟨x, mem_irange.mp hx, rfl⟩
    obtain ⟨x, ⟨x0, x1⟩, rfl⟩ := hx
    refine ⟨gaps_rlen hl x0 x1, gaps_sum ht x0 x1, fun z hz => ?_⟩
    rw [gaps_row hl x0 x1] at hz
    obtain ⟨d, hd, rfl⟩ := List.mem_map.mp hz
    obtain ⟨d0, d1⟩ := mem_irange.mp hd
    exact gaps_even hb ht x0 x1 d0 d1
  have s1 : gSl (.list (encs (gapsL t))) (some 1) none = some (.list (encs (gapsL t).tail)) := by
    have h := gSl_from1 (xs := gapsL t)
    have e : gSl (.list (encs (gapsL t))) (some 1) none = some (.list (cutD (encs (gapsL t)) (some 1) none)) := rfl
    have e2 : gSl (enc (gapsL t)) (some 1) none = some (.tuple (cutD (encs (gapsL t)) (some 1) none)) := rfl
    rw [e2] at h
    injection h with h
    injection h with h
    rw [e, h]; rfl
  simp (disch := trivial) [law_s9, c1, c2]
  refine lc_all (gapsL t).tail topL (by simp (disch := trivial) [s1, -List.map_tail] <;> rfl) (fun row hr => ?_) ?_
  · have := (hrow row (List.mem_of_mem_tail hr)).1
    simp (disch := trivial)
  have e1 : gMax [.list (encs ((gapsL t).tail.map topL))] = some (.int (mostL (gapsL t).tail)) := gMax_enc (by rw [List.length_map, tl]; omega)
  simp (disch := trivial) [e1, law_s10, -List.map_tail]
  refine lc_enc (gapsL t) (fun _ => false) (fun row => row) (by simp (disch := trivial) <;> rfl) (fun row hr => ?_) ?_
  · obtain ⟨r1, r2, r3⟩ := hrow row hr
    simp (disch := trivial) [r2]
    refine lc_enc row (fun z => decide (z % 2 = 1)) (fun z => z) (by simp (disch := trivial) <;> rfl) (fun z hz => ?_) ?_
    · simp (disch := trivial)
    · have ef : (row.filter fun z => decide (z % 2 = 1)) = [] := List.filter_eq_nil_iff.mpr fun z hz => by
        rw [decide_eq_true_eq, r3 z hz]; decide
      rw [ef]
      simp (disch := trivial)
  · simp (disch := trivial) [-law_e11]
    exact hk s hs
end Row

set_option Elab.async false
set_option linter.all false
set_option maxRecDepth 100000
set_option maxHeartbeats 1000000
namespace Row
open PySem PySem.Spec PyProof.Rows L2 L2.DL
open Enc (enc)
variable [TabL]
local macro_rules | `(tactic| trivial) => `(tactic| (simp only [decide_eq_true_eq, decide_eq_false_iff_not, Bool.and_eq_true, Bool.or_eq_true, Bool.not_eq_true', Bool.not_eq_false', Bool.or_eq_false_iff, Bool.and_eq_false_iff, List.length_map, irange_len, List.length_append, List.length_cons, List.length_nil]; omega))
local macro_rules | `(tactic| trivial) => `(tactic| exact Nat.le_of_ble_eq_true rfl)
local macro_rules | `(tactic| trivial) => `(tactic| omega)
local macro_rules | `(tactic| trivial) => `(tactic| assumption)
variable {n b g : Nat} {t : List Int} {s : Dr}
theorem and8_8 : ∀ a : Fin 8, ∀ c : Fin 8, 0 ≤ Builtin.bitAnd (a.val : Int) (c.val : Int) ∧ Builtin.bitAnd (a.val : Int) (c.val : Int) < 8 := by decide +kernel
theorem and8 {x y : Int} (x0 : 0 ≤ x) (x1 : x < 8) (y0 : 0 ≤ y) (y1 : y < 8) : 0 ≤ Builtin.bitAnd x y ∧ Builtin.bitAnd x y < 8 := by
  have := and8_8 ⟨x.toNat, by omega⟩ ⟨y.toNat, by omega⟩
  dsimp only at this
  rwa [Int.toNat_of_nonneg x0, Int.toNat_of_nonneg y0] at this
/-- masks by counting -/
theorem msk_term (p q : Int) : 1 - 2 * Builtin.bitXor (par p) (par q) = if (ones p + ones q) % 2 = 0 then 1 else -1 := by
  have h1 := par_in p
  have h2 := par_in q
  have e1 : par p = ones p % 2 := rfl
  have e2 : par q = ones q % 2 := rfl
  have c1 : par p = 0 ∨ par p = 1 := by omega
  have c2 : par q = 0 ∨ par q = 1 := by omega
  rcases c1 with c1 | c1 <;> rcases c2 with c2 | c2 <;> rw [c1, c2]
  · rw [if_pos (by omega)]; decide
  · rw [if_neg (by omega)]; decide
  · rw [if_neg (by omega)]; decide
  · rw [if_pos (by omega)]; decide
theorem sum_pm {p : Int → Bool} : ∀ {l : List Int}, (l.map fun x => if p x = true then (1 : Int) else -1).sum = 2 * cntP l p - l.length
  | [] => rfl
  | a :: l => by
    rw [List.map_cons, List.sum_cons, sum_pm]
    unfold cntP
    rw [List.filter_cons, List.length_cons]
    by_cases h : p a = true
    · rw [if_pos h, if_pos h, List.length_cons]; omega
    · rw [if_neg h, if_neg h]; omega
theorem msk_count (ht : BoxOk b g t) {a c : Int} : mskV t a c = 2 * cntP (irange 0 (g : Int)) (fun x => decide ((ones (Builtin.bitAnd x a) + ones (Builtin.bitAnd (nth t x) c)) % 2 = 0)) - g := by
  have h := sum_pm (p := fun x => decide ((ones (Builtin.bitAnd x a) + ones (Builtin.bitAnd (nth t x) c)) % 2 = 0)) (l := irange 0 (g : Int))
  rw [irange_len] at h
  unfold mskV
  rw [ht.len]
  refine Eq.trans ?_ (h.trans (by omega))
  congr 1
  refine map_congr fun x _ => ?_
  rw [msk_term]
  simp only [decide_eq_true_eq]
theorem law6 (hs : DrOk s) (hb : B3 b g) (ht : BoxOk b g t) {y6 y8 y14 : Sl} (h6 : y6.nl = true) (h8 : y8.nl = true) (h14 : y14.nl = true) (k kb kc : Kn) (Q : D → Dr → Prop)
    (hk : ∀ (s : Dr) (y10 y12 y15 y17 : Sl), DrOk s → y10.nl = true → y12.nl = true → (y15.nl = true ∨ ∃ xs, y15 = .lst false xs) → y17.nl = true → Wp (evS' (FP 20) law_r13 k kb kc [.no, .drw, .val (.int (b : Int)), .val (.int (g : Int)), .val (enc t), .val (.list (encs (pairsL t))), y6, .lst false (encs (gapsL t)), y8, .lst false (encs (masksL t)), y10, .no, y12, .no, y14, y15, .no, y17, .no, .no, .no, .no, .no, .no, .no] s) Q) :
    Wp (evS' (FP 20) law_r11 k kb kc [.no, .drw, .val (.int (b : Int)), .val (.int (g : Int)), .val (enc t), .val (.list (encs (pairsL t))), y6, .lst false (encs (gapsL t)), y8, .no, .no, .no, .no, .no, y14, .no, .no, .no, .no, .no, .no, .no, .no, .no, .no] s) Q := by
  have hg := hb.pw
  have hl := ht.len
  simp (disch := trivial) [law_s11, law_s12]
  refine for_inv (fun pre post env s' => DrOk s' ∧ ∃ y10 y12 y15 y17, y10.nl = true ∧ y12.nl = true ∧ (y15.nl = true ∨ ∃ xs, y15 = .lst false xs) ∧ y17.nl = true ∧ env = [.no, .drw, .val (.int (b : Int)), .val (.int (g : Int)), .val (enc t), .val (.list (encs (pairsL t))), y6, .lst false (encs (gapsL t)), y8, .lst false (encs (pre.map fun a => (irange 0 (g : Int)).map fun c => mskV t a c)), y10, .no, y12, .no, y14, y15, .no, y17, .no, .no, .no, .no, .no, .no, .no]) ⟨hs, .no, .no, .no, .no, rfl, rfl, .inl rfl, rfl, rfl⟩ ?_ ?_
  · rintro pre a post env s kk kb e ⟨hs, y10, y12, y15, y17, h10, h12, h15, h17, rfl⟩ hkk hkb
    obtain ⟨e1, a0, a1, e4⟩ := irange_at e
    rcases h15 with h15 | ⟨xs, rfl⟩ <;> simp (disch := trivial)
    all_goals
      refine for_inv (fun pre2 post env s' => DrOk s' ∧ ∃ y12 y17, y12.nl = true ∧ y17.nl = true ∧ env = [.no, .drw, .val (.int (b : Int)), .val (.int (g : Int)), .val (enc t), .val (.list (encs (pairsL t))), y6, .lst false (encs (gapsL t)), y8, .lst false (encs (pre.map fun a => (irange 0 (g : Int)).map fun c => mskV t a c)), .val (.int a), .no, y12, .no, y14, .lst false (encs (pre2.map fun c => mskV t a c)), .no, y17, .no, .no, .no, .no, .no, .no, .no]) ⟨hs, y12, y17, h12, h17, rfl⟩ ?_ ?_
      · rintro pre2 c post2 env s kk2 kb2 e2 ⟨hs, y12, y17, h12, h17, rfl⟩ hkk2 hkb2
        obtain ⟨_, d0, d1, _⟩ := irange_at e2
        simp (disch := trivial)
        refine lc_enc (irange 0 (g : Int)) (fun x => decide ((ones (Builtin.bitAnd x a) + ones (Builtin.bitAnd (nth t x) c)) % 2 = 0)) (fun x => x) (by simp (disch := trivial) <;> rfl) (fun x hx => ?_) ?_
        · obtain ⟨x0, x1⟩ := mem_irange.mp hx
          obtain ⟨p0, p1⟩ := ht.at_ x0 x1
          have q1 := and8 x0 (show x < 8 by omega) a0 (show a < 8 by omega)
          have q2 := and8 p0 (show nth t x < 8 by omega) d0 (show c < 8 by omega)
          have c1 := fun s => law_and (n := 20) (s := s) (by omega) x0 (show x < 8 by omega) a0 (show a < 8 by omega)
          have c2 := fun s => law_and (n := 20) (s := s) (by omega) p0 (show nth t x < 8 by omega) d0 (show c < 8 by omega)
          have c3 := fun s => law_ones (n := 20) (s := s) (by omega) q1.1 q1.2
          have c4 := fun s => law_ones (n := 20) (s := s) (by omega) q2.1 q2.2
          simp (disch := trivial) [c1, c2, c3, c4]
        · rw [List.map_id']
          have hm := msk_count ht (a := a) (c := c)
          unfold cntP at hm
          have hle : ((irange 0 (g : Int)).filter fun x => decide ((ones (Builtin.bitAnd x a) + ones (Builtin.bitAnd (nth t x) c)) % 2 = 0)).length ≤ 8 := by
            refine Nat.le_trans (List.length_filter_le _ _) ?_
            rw [irange_len]; omega
          generalize ((irange 0 (g : Int)).filter fun x => decide ((ones (Builtin.bitAnd x a) + ones (Builtin.bitAnd (nth t x) c)) % 2 = 0)) = fl at hm hle ⊢
          simp (disch := trivial)
          refine hkk2 _ _ ⟨hs, .val (.int c), .val (.int fl.length), rfl, rfl, ?_⟩
          rw [List.map_append, List.map_cons, List.map_nil, hm]
      · rintro env s ⟨hs, y12, y17, h12, h17, rfl⟩
        simp (disch := trivial)
        refine hkk _ _ ⟨hs, .val (.int a), y12, .lst false (encs ((irange 0 (g : Int)).map fun c => mskV t a c)), y17, rfl, h12, .inr ⟨_, rfl⟩, h17, ?_⟩
        rw [List.map_append]; rfl
  · rintro env s ⟨hs, y10, y12, y15, y17, h10, h12, h15, h17, rfl⟩
    have e : (irange 0 (g : Int)).map (fun a => (irange 0 (g : Int)).map fun c => mskV t a c) = masksL t := by
      unfold masksL
      rw [hl]
    rw [e]
    rcases h15 with h15 | ⟨xs, rfl⟩ <;> simp (disch := trivial) [-law_e13]
    · exact hk s y10 y12 y15 y17 hs h10 h12 (.inl h15) h17
    · exact hk s y10 y12 _ y17 hs h10 h12 (.inr ⟨_, rfl⟩) h17
end Row

set_option Elab.async false
set_option linter.all false
set_option maxRecDepth 100000
set_option maxHeartbeats 1000000
namespace Row
open PySem PySem.Spec PyProof.Rows L2 L2.DL
open Enc (enc)
variable [TabL]
local macro_rules | `(tactic| trivial) => `(tactic| (simp only [decide_eq_true_eq, decide_eq_false_iff_not, Bool.and_eq_true, Bool.or_eq_true, Bool.not_eq_true', Bool.not_eq_false', Bool.or_eq_false_iff, Bool.and_eq_false_iff, List.length_map, irange_len, List.length_append, List.length_cons, List.length_nil]; omega))
local macro_rules | `(tactic| trivial) => `(tactic| exact Nat.le_of_ble_eq_true rfl)
local macro_rules | `(tactic| trivial) => `(tactic| omega)
local macro_rules | `(tactic| trivial) => `(tactic| assumption)
variable {n b g : Nat} {t : List Int} {s : Dr}
theorem masks_row_len {row : List Int} (ht : BoxOk b g t) (hr : row ∈ masksL t) : row.length = g := by
  unfold masksL at hr
  obtain ⟨a, _, rfl⟩ := List.mem_map.mp hr
  rw [List.length_map, irange_len, ht.len]; omega
theorem law7 (hs : DrOk s) (hb : B3 b g) (ht : BoxOk b g t) {y6 y8 y10 y12 y14 y15 y17 : Sl} (h6 : y6.nl = true) (h8 : y8.nl = true) (h10 : y10.nl = true) (h12 : y12.nl = true) (h14 : y14.nl = true) (h17 : y17.nl = true) (k kb kc : Kn) (Q : D → Dr → Prop)
    (hk : ∀ (s : Dr), DrOk s → Wp (evS' (FP 20) law_r15 k kb kc [.no, .drw, .val (.int (b : Int)), .val (.int (g : Int)), .val (enc t), .val (.list (encs (pairsL t))), y6, .lst false (encs (gapsL t)), y8, .lst false (encs (masksL t)), y10, .val (.int (mostM (masksL t))), y12, .no, y14, y15, .no, y17, .no, .no, .no, .no, .no, .no, .no] s) Q) :
    Wp (evS' (FP 20) law_r13 k kb kc [.no, .drw, .val (.int (b : Int)), .val (.int (g : Int)), .val (enc t), .val (.list (encs (pairsL t))), y6, .lst false (encs (gapsL t)), y8, .lst false (encs (masksL t)), y10, .no, y12, .no, y14, y15, .no, y17, .no, .no, .no, .no, .no, .no, .no] s) Q := by
  have hg := hb.pw
  have hl := ht.len
  have ml := masksL_len (t := t)
  have c1 := fun s => masks (n := 20) (s := s) (by omega) ht
  have c2 := fun s => most_mask (n := 20) (s := s) (by omega) ht
  have c3 := fun s => far (n := 20) (s := s) (by omega) ht
  simp (disch := trivial) [law_s13]
  refine lc_all (masksL t) topA (by simp (disch := trivial) <;> rfl) (fun row hr => ?_) ?_
  · have rl := masks_row_len ht hr
    have tl : row.tail.length = g - 1 := by rw [List.length_tail, rl]
    simp (disch := trivial)
    refine lc_all row.tail absI (by simp (disch := trivial) <;> rfl) (fun z hz => ?_) ?_
    · simp (disch := trivial)
      rfl
    · have e : gMax [.list (encs (row.tail.map absI))] = some (.int (topA row)) := gMax_enc (by rw [List.length_map, tl]; omega)
      simp (disch := trivial) [e, -List.map_tail]
  have e1 : gMax [.list (encs ((masksL t).map topA))] = some (.int (mostM (masksL t))) := gMax_enc (by rw [List.length_map, ml]; omega)
  simp (disch := trivial) [e1, law_s14, c1, c2, c3, hl, -law_e15]
  exact hk s hs
end Row

set_option Elab.async false
set_option linter.all false
set_option maxRecDepth 100000
set_option maxHeartbeats 1000000
namespace Row
open PySem PySem.Spec PyProof.Rows L2 L2.DL
open Enc (enc)
variable [TabL]
local macro_rules | `(tactic| trivial) => `(tactic| (simp only [decide_eq_true_eq, decide_eq_false_iff_not, Bool.and_eq_true, Bool.or_eq_true, Bool.not_eq_true', Bool.not_eq_false', Bool.or_eq_false_iff, Bool.and_eq_false_iff, List.length_map, irange_len, List.length_append, List.length_cons, List.length_nil]; omega))
local macro_rules | `(tactic| trivial) => `(tactic| exact Nat.le_of_ble_eq_true rfl)
local macro_rules | `(tactic| trivial) => `(tactic| omega)
local macro_rules | `(tactic| trivial) => `(tactic| assumption)
variable {n b g : Nat} {t : List Int} {s : Dr}
/-- squares of masks -/
def mskR (g : Nat) (r : List Int) (a : Int) : Int := ((irange 0 (g : Int)).map fun x => sg x a * (1 - 2 * nth r x)).sum
theorem sq2 : ∀ r ∈ bitsOf 2, ((irange 0 2).map fun a => mskR 2 r a * mskR 2 r a).sum = 4 := by decide +kernel
theorem sq4 : ∀ r ∈ bitsOf 4, ((irange 0 4).map fun a => mskR 4 r a * mskR 4 r a).sum = 16 := by decide +kernel
theorem sq8 : ∀ r ∈ bitsOf 8, ((irange 0 8).map fun a => mskR 8 r a * mskR 8 r a).sum = 64 := by decide +kernel
theorem msk_squares (hb : B3 b g) (ht : BoxOk b g t) {c : Int} : ((irange 0 (g : Int)).map fun a => mskV t a c * mskV t a c).sum = (g : Int) * g := by
  have hm : (irange 0 (g : Int)).map (fun x => par (Builtin.bitAnd (nth t x) c)) ∈ bitsOf g := bits_map fun x _ _ => par_in _
  have e : ∀ a : Int, mskV t a c = mskR g ((irange 0 (g : Int)).map fun x => par (Builtin.bitAnd (nth t x) c)) a := fun a => by
    rw [msk_sg, ht.len]
    unfold mskR
    congr 1
    refine map_congr fun x hx => ?_
    obtain ⟨x0, x1⟩ := mem_irange.mp hx
    rw [nth_mapr x0 x1]
    rfl
  simp only [e]
  rcases hb with ⟨rfl, rfl⟩ | ⟨rfl, rfl⟩ | ⟨rfl, rfl⟩
  · exact sq2 _ hm
  · exact sq4 _ hm
  · exact sq8 _ hm
theorem masks_at {t : List Int} {g : Nat} (ht : t.length = g) {x y : Int} (x0 : 0 ≤ x) (x1 : x < g) (y0 : 0 ≤ y) (y1 : y < g) : nth ((irange 0 (g : Int)).map fun c => mskV t x c) y = mskV t x y := nth_mapr y0 y1
theorem law8 (hs : DrOk s) (hb : B3 b g) (ht : BoxOk b g t) {y6 y8 y10 y11 y12 y14 y15 y17 : Sl} (h6 : y6.nl = true) (h8 : y8.nl = true) (h10 : y10.nl = true) (h12 : y12.nl = true) (h14 : y14.nl = true) (h17 : y17.nl = true) (k kb kc : Kn) (Q : D → Dr → Prop)
    (hk : ∀ (s : Dr) (y12 : Sl), DrOk s → y12.nl = true → Wp (evS' (FP 20) law_r16 k kb kc [.no, .drw, .val (.int (b : Int)), .val (.int (g : Int)), .val (enc t), .val (.list (encs (pairsL t))), y6, .lst false (encs (gapsL t)), y8, .lst false (encs (masksL t)), y10, y11, y12, .no, y14, y15, .no, y17, .no, .no, .no, .no, .no, .no, .no] s) Q) :
    Wp (evS' (FP 20) law_r15 k kb kc [.no, .drw, .val (.int (b : Int)), .val (.int (g : Int)), .val (enc t), .val (.list (encs (pairsL t))), y6, .lst false (encs (gapsL t)), y8, .lst false (encs (masksL t)), y10, y11, y12, .no, y14, y15, .no, y17, .no, .no, .no, .no, .no, .no, .no] s) Q := by
  have hg := hb.pw
  have hl := ht.len
  simp (disch := trivial) [law_s15]
  refine for_inv (fun pre post env s' => DrOk s' ∧ ∃ y12, y12.nl = true ∧ env = [.no, .drw, .val (.int (b : Int)), .val (.int (g : Int)), .val (enc t), .val (.list (encs (pairsL t))), y6, .lst false (encs (gapsL t)), y8, .lst false (encs (masksL t)), y10, y11, y12, .no, y14, y15, .no, y17, .no, .no, .no, .no, .no, .no, .no]) ⟨hs, y12, h12, rfl⟩ ?_ ?_
  · rintro pre c post env s kk kb e ⟨hs, y12, h12, rfl⟩ hkk hkb
    obtain ⟨_, c0, c1, _⟩ := irange_at e
    simp (disch := trivial)
    refine lc_all (masksL t) (fun row => nth row c * nth row c) (by simp (disch := trivial) <;> rfl) (fun row hr => ?_) ?_
    · have rl := masks_row_len ht hr
      have hb8 : -8 ≤ nth row c ∧ nth row c ≤ 8 := by
        unfold masksL at hr
        rw [hl] at hr
        obtain ⟨a, _, rfl⟩ := List.mem_map.mp hr
        rw [nth_mapr c0 c1, msk_count ht]
        unfold cntP
        have hle := List.length_filter_le (fun x => decide ((ones (Builtin.bitAnd x a) + ones (Builtin.bitAnd (nth t x) c)) % 2 = 0)) (irange 0 (g : Int))
        rw [irange_len] at hle
        omega
      have hsq : 0 ≤ nth row c * nth row c ∧ nth row c * nth row c ≤ 64 := by
        obtain ⟨m, hm⟩ : ∃ m, nth row c = m := ⟨_, rfl⟩
        rw [hm] at hb8 ⊢
        have : m = -8 ∨ m = -7 ∨ m = -6 ∨ m = -5 ∨ m = -4 ∨ m = -3 ∨ m = -2 ∨ m = -1 ∨ m = 0 ∨ m = 1 ∨ m = 2 ∨ m = 3 ∨ m = 4 ∨ m = 5 ∨ m = 6 ∨ m = 7 ∨ m = 8 := by omega
        rcases this with rfl | rfl | rfl | rfl | rfl | rfl | rfl | rfl | rfl | rfl | rfl | rfl | rfl | rfl | rfl | rfl | rfl <;> decide
      simp (disch := trivial)
    have e2 : ((masksL t).map fun row => nth row c * nth row c).sum = (g : Int) * g := by
      rw [← msk_squares hb ht (c := c)]
      unfold masksL
      rw [List.map_map, hl]
      congr 1
      refine map_congr fun a ha => ?_
      show nth ((irange 0 (g : Int)).map fun c => mskV t a c) c * nth ((irange 0 (g : Int)).map fun c => mskV t a c) c = _
      rw [nth_mapr c0 c1]
    simp (disch := trivial) [e2]
    exact hkk _ _ ⟨hs, .val (.int c), rfl, rfl⟩
  · rintro env s ⟨hs, y12, h12, rfl⟩
    simp (disch := trivial) [-law_e16]
    exact hk s y12 hs h12
end Row

set_option Elab.async false
set_option linter.all false
set_option maxRecDepth 100000
set_option maxHeartbeats 1000000
namespace Row
open PySem PySem.Spec PyProof.Rows L2 L2.DL
open Enc (enc)
variable [TabL]
local macro_rules | `(tactic| trivial) => `(tactic| (simp only [decide_eq_true_eq, decide_eq_false_iff_not, Bool.and_eq_true, Bool.or_eq_true, Bool.not_eq_true', Bool.not_eq_false', Bool.or_eq_false_iff, Bool.and_eq_false_iff, List.length_map, irange_len, List.length_append, List.length_cons, List.length_nil]; omega))
local macro_rules | `(tactic| trivial) => `(tactic| exact Nat.le_of_ble_eq_true rfl)
local macro_rules | `(tactic| trivial) => `(tactic| omega)
local macro_rules | `(tactic| trivial) => `(tactic| assumption)
variable {n b g : Nat} {t : List Int} {s : Dr}
/-- the products below a number, counted -/
def prodN (b : Nat) (r : List Int) (x : Int) : Nat := (((irange 0 (r.length : Int)).filter fun k => decide (nth (mobI b r) k = 1)).filter fun k => decide (Builtin.bitAnd k x = k)).length
theorem pr2 : ∀ r ∈ bitsOf 2, ∀ x ∈ irange 0 2, (prodN 1 r x : Int) % 2 = nth r x := by decide +kernel
theorem pr4 : ∀ r ∈ bitsOf 4, ∀ x ∈ irange 0 4, (prodN 2 r x : Int) % 2 = nth r x := by decide +kernel
theorem pr8 : ∀ r ∈ bitsOf 8, ∀ x ∈ irange 0 8, (prodN 3 r x : Int) % 2 = nth r x := by decide +kernel
theorem forms_at {t : List Int} {i : Int} (i0 : 0 ≤ i) (i1 : i < b) : nth (formsL b t) i = formL b t i := by
  unfold formsL
  rw [nth_mapr i0 i1]
theorem prod_bit (hb : B3 b g) (ht : BoxOk b g t) {i x : Int} (x0 : 0 ≤ x) (x1 : x < g) : (((formL b t i).filter fun k => decide (Builtin.bitAnd k x = k)).length : Int) % 2 = nth (bitRow t i) x := by
  have hr := row_mem (i := i) ht
  have e : ((formL b t i).filter fun k => decide (Builtin.bitAnd k x = k)).length = prodN b (bitRow t i) x := by
    unfold formL prodN
    rw [bitRow_len]
  rw [e]
  have hx := mem_irange.mpr ⟨x0, x1⟩
  rcases hb with ⟨rfl, rfl⟩ | ⟨rfl, rfl⟩ | ⟨rfl, rfl⟩
  · exact pr2 _ hr x hx
  · exact pr4 _ hr x hx
  · exact pr8 _ hr x hx
end Row

set_option Elab.async false
set_option linter.all false
set_option maxRecDepth 100000
set_option maxHeartbeats 1000000
namespace Row
open PySem PySem.Spec PyProof.Rows L2 L2.DL
open Enc (enc)
variable [TabL]
local macro_rules | `(tactic| trivial) => `(tactic| (simp only [decide_eq_true_eq, decide_eq_false_iff_not, Bool.and_eq_true, Bool.or_eq_true, Bool.not_eq_true', Bool.not_eq_false', Bool.or_eq_false_iff, Bool.and_eq_false_iff, List.length_map, irange_len, List.length_append, List.length_cons, List.length_nil]; omega))
local macro_rules | `(tactic| trivial) => `(tactic| exact Nat.le_of_ble_eq_true rfl)
local macro_rules | `(tactic| trivial) => `(tactic| omega)
local macro_rules | `(tactic| trivial) => `(tactic| assumption)
variable {n b g : Nat} {t : List Int} {s : Dr}
theorem mem_formL {t : List Int} {i k : Int} (ht : t.length = g) (h : k ∈ formL b t i) : 0 ≤ k ∧ k < g := by
  unfold formL at h
  have := mem_irange.mp (List.mem_filter.mp h).1
  rw [ht] at this
  exact this
theorem formL_len {t : List Int} {i : Int} (ht : t.length = g) : (formL b t i).length ≤ g := by
  unfold formL
  refine Nat.le_trans (List.length_filter_le _ _) ?_
  rw [irange_len]; omega
theorem law9 (hs : DrOk s) (hb : B3 b g) (ht : BoxOk b g t) {y6 y8 y10 y11 y12 y14 y15 y17 : Sl} (h6 : y6.nl = true) (h8 : y8.nl = true) (h10 : y10.nl = true) (h12 : y12.nl = true) (h14 : y14.nl = true) (h17 : y17.nl = true) (k kb kc : Kn) (Q : D → Dr → Prop)
    (hk : ∀ (s : Dr) (y6 y16 y18 : Sl), DrOk s → y6.nl = true → y16.nl = true → y18.nl = true → Wp (evS' (FP 20) law_r18 k kb kc [.no, .drw, .val (.int (b : Int)), .val (.int (g : Int)), .val (enc t), .val (.list (encs (pairsL t))), y6, .lst false (encs (gapsL t)), y8, .lst false (encs (masksL t)), y10, y11, y12, .val (enc (formsL b t)), y14, y15, y16, y17, y18, .no, .no, .no, .no, .no, .no] s) Q) :
    Wp (evS' (FP 20) law_r16 k kb kc [.no, .drw, .val (.int (b : Int)), .val (.int (g : Int)), .val (enc t), .val (.list (encs (pairsL t))), y6, .lst false (encs (gapsL t)), y8, .lst false (encs (masksL t)), y10, y11, y12, .no, y14, y15, .no, y17, .no, .no, .no, .no, .no, .no, .no] s) Q := by
  have hg := hb.pw
  have hl := ht.len
  have fl : (formsL b t).length = b := by unfold formsL; rw [List.length_map, irange_len]; omega
  have c1 := fun s => forms (n := 20) (s := s) (by omega) ht
  simp (disch := trivial) [law_s16, law_s17, c1]
  refine for_inv (fun pre post env s' => DrOk s' ∧ ∃ y6 y16 y18, y6.nl = true ∧ y16.nl = true ∧ y18.nl = true ∧ env = [.no, .drw, .val (.int (b : Int)), .val (.int (g : Int)), .val (enc t), .val (.list (encs (pairsL t))), y6, .lst false (encs (gapsL t)), y8, .lst false (encs (masksL t)), y10, y11, y12, .val (enc (formsL b t)), y14, y15, y16, y17, y18, .no, .no, .no, .no, .no, .no]) ⟨hs, y6, .no, .no, h6, rfl, rfl, rfl⟩ ?_ ?_
  · rintro pre x post env s kk kb e ⟨hs, y6, y16, y18, h6, h16, h18, rfl⟩ hkk hkb
    obtain ⟨e1, x0, x1, e4⟩ := irange_at e
    obtain ⟨p0, p1⟩ := ht.at_ x0 x1
    simp (disch := trivial)
    refine for_inv (fun pre2 post env s' => DrOk s' ∧ ∃ y16 y18, y16.nl = true ∧ y18.nl = true ∧ env = [.no, .drw, .val (.int (b : Int)), .val (.int (g : Int)), .val (enc t), .val (.list (encs (pairsL t))), .val (.int x), .lst false (encs (gapsL t)), y8, .lst false (encs (masksL t)), y10, y11, y12, .val (enc (formsL b t)), y14, y15, y16, y17, y18, .no, .no, .no, .no, .no, .no]) ⟨hs, y16, y18, h16, h18, rfl⟩ ?_ ?_
    · rintro pre2 i post2 env s kk2 kb2 e2 ⟨hs, y16, y18, h16, h18, rfl⟩ hkk2 hkb2
      obtain ⟨_, i0, i1, _⟩ := irange_at e2
      have hfl := formL_len (b := b) (t := t) (i := i) hl
      simp (disch := trivial) [forms_at i0 i1]
      refine lc_enc (formL b t i) (fun k => decide (Builtin.bitAnd k x = k)) (fun k => k) (by simp (disch := trivial) [forms_at i0 i1] <;> rfl) (fun k hk => ?_) ?_
      · obtain ⟨k0, k1⟩ := mem_formL hl hk
        have c1 := fun s => law_and (n := 20) (s := s) (by omega) k0 (show k < 8 by omega) x0 (show x < 8 by omega)
        simp (disch := trivial) [c1]
      · rw [List.map_id']
        have hp := prod_bit hb ht (i := i) x0 x1
        rw [bitRow_at ht x0 x1] at hp
        have hi : i = 0 ∨ i = 1 ∨ i = 2 := by omega
        generalize ((formL b t i).filter fun k => decide (Builtin.bitAnd k x = k)) = fl2 at hp ⊢
        rcases hi with rfl | rfl | rfl
        all_goals
          have e2 := hp
          simp only [show ((0 : Int).toNat) = 0 from rfl, show ((1 : Int).toNat) = 1 from rfl, show ((2 : Int).toNat) = 2 from rfl, Nat.pow_zero, Nat.pow_one, show (2 : Nat) ^ 2 = 4 from rfl, show ((1 : Nat) : Int) = 1 from rfl, show ((2 : Nat) : Int) = 2 from rfl, show ((4 : Nat) : Int) = 4 from rfl, Int.ediv_one] at e2
          simp (disch := trivial) [e2]
          exact hkk2 _ _ ⟨hs, .val (.int _), .val (.int fl2.length), rfl, rfl, rfl⟩
    · rintro env s ⟨hs, y16, y18, h16, h18, rfl⟩
      simp (disch := trivial)
      exact hkk _ _ ⟨hs, .val (.int x), y16, y18, rfl, h16, h18, rfl⟩
  · rintro env s ⟨hs, y6, y16, y18, h6, h16, h18, rfl⟩
    simp (disch := trivial) [-law_e18]
    exact hk s y6 y16 y18 hs h6 h16 h18
end Row

set_option Elab.async false
set_option linter.all false
set_option maxRecDepth 100000
set_option maxHeartbeats 1000000
namespace Row
open PySem PySem.Spec PyProof.Rows L2 L2.DL
open Enc (enc)
variable [TabL]
local macro_rules | `(tactic| trivial) => `(tactic| (simp only [decide_eq_true_eq, decide_eq_false_iff_not, Bool.and_eq_true, Bool.or_eq_true, Bool.not_eq_true', Bool.not_eq_false', Bool.or_eq_false_iff, Bool.and_eq_false_iff, List.length_map, irange_len, List.length_append, List.length_cons, List.length_nil]; omega))
local macro_rules | `(tactic| trivial) => `(tactic| exact Nat.le_of_ble_eq_true rfl)
local macro_rules | `(tactic| trivial) => `(tactic| omega)
local macro_rules | `(tactic| trivial) => `(tactic| assumption)
variable {n b g : Nat} {t : List Int} {s : Dr}
theorem irange_lt {a c : Int} : (irange a c).Pairwise (· < ·) := by
  unfold irange
  rw [List.pairwise_map]
  refine List.Pairwise.imp ?_ List.pairwise_lt_range
  intro x y h
  omega
theorem formL_lt {t : List Int} {i : Int} : (formL b t i).Pairwise (· < ·) := irange_lt.filter _
theorem gNe_encL {α : Type} [Enc α] [DecidableEq α] {a b : List α} (h : Enc.lv α ≤ 39) : gNe (.list (encs a)) (.list (encs b)) = some (.bool (!decide (a = b))) := by
  have e := gEq_encL_s (a := a) (b := b) h
  unfold gEq at e
  unfold gNe
  split at e
  · rename_i hc
    rw [if_pos hc]
    injection e with e
    injection e with e
    rw [e]
  · cases e
theorem law10 (hs : DrOk s) (hb : B3 b g) (ht : BoxOk b g t) {y6 y8 y10 y11 y12 y14 y15 y16 y17 y18 : Sl} (k kb kc : Kn) (Q : D → Dr → Prop)
    (hk : ∀ (s : Dr), DrOk s → Wp (evS' (FP 20) law_r19 k kb kc [.no, .drw, .val (.int (b : Int)), .val (.int (g : Int)), .val (enc t), .val (.list (encs (pairsL t))), y6, .lst false (encs (gapsL t)), y8, .lst false (encs (masksL t)), y10, y11, y12, .val (enc (formsL b t)), y14, y15, y16, y17, y18, .no, .no, .no, .no, .no, .no] s) Q) :
    Wp (evS' (FP 20) law_r18 k kb kc [.no, .drw, .val (.int (b : Int)), .val (.int (g : Int)), .val (enc t), .val (.list (encs (pairsL t))), y6, .lst false (encs (gapsL t)), y8, .lst false (encs (masksL t)), y10, y11, y12, .val (enc (formsL b t)), y14, y15, y16, y17, y18, .no, .no, .no, .no, .no, .no] s) Q := by
  have hg := hb.pw
  have hl := ht.len
  simp (disch := trivial) [law_s18]
  refine lc_enc (β := Int) (formsL b t) (fun _ => false) (fun _ => 1) (by simp (disch := trivial) <;> rfl) (fun row hr => ?_) ?_
  · unfold formsL at hr
    obtain ⟨i, hi, rfl⟩ := List.mem_map.mp hr
    have h8 := formL_len (b := b) (t := t) (i := i) hl
    have e := sortU_of (l := formL b t i) formL_lt fun k => Iff.rfl
    have e1 : gNe (.list (encs (formL b t i))) (.list (encs (formL b t i))) = some (.bool false) := by
      rw [gNe_encL (by decide), decide_eq_true rfl]; rfl
    simp (disch := trivial) [e, e1]
  · simp (disch := trivial)
    exact hk s hs
theorem degF_flat : ∀ {rows : List (List Int)} {a : Int}, degF rows a = topL (a :: rows.flatMap fun row => row.map ones)
  | [], _ => rfl
  | r :: rows, a => by
    show degF rows (topL (a :: r.map ones)) = _
    rw [degF_flat, List.flatMap_cons]
    show topI (topI a (r.map ones)) _ = topI a _
    unfold topI
    rw [List.foldl_append]
theorem forms_mem {t row : List Int} (ht : t.length = g) (hr : row ∈ formsL b t) : row.length ≤ g ∧ ∀ x ∈ row, 0 ≤ x ∧ x < g := by
  unfold formsL at hr
  obtain ⟨i, _, rfl⟩ := List.mem_map.mp hr
  exact ⟨formL_len ht, fun x hx => mem_formL ht hx⟩
theorem part_1 (hs : DrOk s) (hb : B3 b g) (ht : BoxOk b g t) (k kb kc : Kn) (Q : D → Dr → Prop)
    (hk : ∀ (s : Dr) (y6 y7 : Sl), DrOk s → y6.nl = true → y7.nl = true → Wp (evS' (FP 19) _law_part1_r3 k kb kc [.drw, .val (.int (b : Int)), .val (.int (g : Int)), .val (enc t), .val (.list (encs (gapsL t))), .val (enc (formsL b t)), y6, y7, .no, .no, .no, .no, .no, .no, .no, .no, .no, .no, .no, .no, .no, .no, .no, .no, .no, .no, .no, .no] s) Q) :
    Wp (evS' (FP 19) _law_part1_r0 k kb kc [.drw, .val (.int (b : Int)), .val (.int (g : Int)), .val (enc t), .val (.list (encs (gapsL t))), .val (enc (formsL b t)), .no, .no, .no, .no, .no, .no, .no, .no, .no, .no, .no, .no, .no, .no, .no, .no, .no, .no, .no, .no, .no, .no] s) Q := by
  have hg := hb.pw
  have hl := ht.len
  have c1 := fun s => degree (n := 19) (s := s) (by omega) ht
  have fl : (formsL b t).length = b := by unfold formsL; rw [List.length_map, irange_len]; omega
  simp (disch := trivial) [_law_part1_s0, _law_part1_s1]
  refine for_inv (γ := List Int) (fun pre post env s' => DrOk s' ∧ ∃ y7, y7.nl = true ∧ env = [.drw, .val (.int (b : Int)), .val (.int (g : Int)), .val (enc t), .val (.list (encs (gapsL t))), .val (enc (formsL b t)), .val (.list (encs (0 :: pre.flatMap fun row => row.map ones))), y7, .no, .no, .no, .no, .no, .no, .no, .no, .no, .no, .no, .no, .no, .no, .no, .no, .no, .no, .no, .no]) ⟨hs, .no, rfl, rfl⟩ ?_ ?_
  · rintro pre row post env s kk kb e ⟨hs, y7, h7, rfl⟩ hkk hkb
    have hr : row ∈ formsL b t := by rw [e]; simp
    obtain ⟨r1, r2⟩ := forms_mem hl hr
    have hpl : pre.length ≤ 3 := by
      have := congrArg List.length e
      rw [fl, List.length_append] at this
      omega
    have hfm : (pre.flatMap fun row => row.map ones).length ≤ pre.length * 8 := length_flatMap_le fun q hq => by
      have := (forms_mem (b := b) hl (show q ∈ formsL b t by rw [e]; simp [hq])).1
      rw [List.length_map]; omega
    simp (disch := trivial)
    refine lc_all row ones (by simp (disch := trivial) <;> rfl) (fun x hx => ?_) ?_
    · obtain ⟨x0, x1⟩ := r2 x hx
      have c2 := fun s => law_ones (n := 19) (s := s) (by omega) x0 (show x < 8 by omega)
      simp (disch := trivial) [c2]
    have ea : gAdd (.list (encs (0 :: pre.flatMap fun row => row.map ones))) (.list (encs (row.map ones))) = some (.list (encs ((0 :: pre.flatMap fun row => row.map ones) ++ row.map ones))) := gAdd_encL_s (by rw [List.length_cons, List.length_map]; omega)
    simp (disch := trivial) [ea, -List.cons_append]
    refine hkk _ _ ⟨hs, .val (enc row), rfl, ?_⟩
    rw [List.flatMap_append, List.flatMap_cons, List.flatMap_nil, List.append_nil]
  · rintro env s ⟨hs, y7, h7, rfl⟩
    have em : gMax [.list (encs (0 :: (formsL b t).flatMap fun row => row.map ones))] = some (.int (degL b t)) := by
      rw [gMax_enc_s (by rw [List.length_cons]; omega)]
      unfold degL
      rw [degF_flat]
    simp (disch := trivial) [_law_part1_s2, c1, em, -_law_part1_e3]
    exact hk s _ y7 hs rfl h7
theorem part_2 (hs : DrOk s) (hb : B3 b g) (ht : BoxOk b g t) {y6 y7 : Sl} (h6 : y6.nl = true) (h7 : y7.nl = true) (k kb kc : Kn) (Q : D → Dr → Prop)
    (hk : ∀ (s : Dr) (y8 y9 : Sl), DrOk s → y8.nl = true → y9.nl = true → Wp (evS' (FP 19) _law_part1_r6 k kb kc [.drw, .val (.int (b : Int)), .val (.int (g : Int)), .val (enc t), .val (.list (encs (gapsL t))), .val (enc (formsL b t)), y6, y7, y8, y9, .no, .no, .no, .no, .no, .no, .no, .no, .no, .no, .no, .no, .no, .no, .no, .no, .no, .no] s) Q) :
    Wp (evS' (FP 19) _law_part1_r3 k kb kc [.drw, .val (.int (b : Int)), .val (.int (g : Int)), .val (enc t), .val (.list (encs (gapsL t))), .val (enc (formsL b t)), y6, y7, .no, .no, .no, .no, .no, .no, .no, .no, .no, .no, .no, .no, .no, .no, .no, .no, .no, .no, .no, .no] s) Q := by
  have hg := hb.pw
  have hl := ht.len
  have c1 := fun s => degree (n := 19) (s := s) (by omega) ht
  have c2 := fun s => is_straight (n := 19) (s := s) (by omega) ht
  have hlen : ∀ k : Int, 0 ≤ k → (((irange k t.length).filter fun y => !decide (nth t (Builtin.bitXor k y) = Builtin.bitXor (Builtin.bitXor (nth t k) (nth t y)) (nth t 0))).map fun y => (k, y)).length ≤ 8 := fun k hk0 => by
    rw [List.length_map]
    refine Nat.le_trans (List.length_filter_le _ _) ?_
    rw [irange_len]; omega
  simp (disch := trivial) [_law_part1_s3, _law_part1_s4]
  refine for_inv (fun pre post env s' => DrOk s' ∧ ∃ y9, y9.nl = true ∧ env = [.drw, .val (.int (b : Int)), .val (.int (g : Int)), .val (enc t), .val (.list (encs (gapsL t))), .val (enc (formsL b t)), y6, y7, .val (.list (encs (pre.flatMap fun x => ((irange x t.length).filter fun y => !decide (nth t (Builtin.bitXor x y) = Builtin.bitXor (Builtin.bitXor (nth t x) (nth t y)) (nth t 0))).map fun y => (x, y)))), y9, .no, .no, .no, .no, .no, .no, .no, .no, .no, .no, .no, .no, .no, .no, .no, .no, .no, .no]) ⟨hs, .no, rfl, rfl⟩ ?_ ?_
  · rintro pre x post env s kk kb e ⟨hs, y9, h9, rfl⟩ hkk hkb
    obtain ⟨e1, x0, x1, e4⟩ := irange_at e
    obtain ⟨p0, p1⟩ := ht.at_ x0 x1
    obtain ⟨z0, z1⟩ := ht.at_ (i := 0) (by omega) (by omega)
    simp (disch := trivial)
    refine lc_enc (irange x g) (fun y => !decide (nth t (Builtin.bitXor x y) = Builtin.bitXor (Builtin.bitXor (nth t x) (nth t y)) (nth t 0))) (fun y => (x, y)) (by simp (disch := trivial) <;> rfl) (fun y hy => ?_) ?_
    · obtain ⟨a0, a1⟩ := mem_irange.mp hy
      obtain ⟨q0, q1⟩ := ht.at_ (show (0 : Int) ≤ y by omega) a1
      obtain ⟨w0, w1⟩ := ht.xi x0 x1 (show (0 : Int) ≤ y by omega) a1
      obtain ⟨v0, v1⟩ := ht.xi p0 p1 q0 q1
      have d1 := fun s => law_xor (n := 19) (s := s) (by omega) x0 (show x < 8 by omega) (show (0 : Int) ≤ y by omega) (show y < 8 by omega)
      have d2 := fun s => law_xor (n := 19) (s := s) (by omega) p0 (show nth t x < 8 by omega) q0 (show nth t y < 8 by omega)
      have d3 := fun s => law_xor (n := 19) (s := s) (by omega) v0 (show Builtin.bitXor (nth t x) (nth t y) < 8 by omega) z0 (show nth t 0 < 8 by omega)
      simp (disch := trivial) [d1, d2, d3]
    rw [← hl]
    have hb2 := length_flatMap_le (l := pre) (f := fun x => ((irange x t.length).filter fun y => !decide (nth t (Builtin.bitXor x y) = Builtin.bitXor (Builtin.bitXor (nth t x) (nth t y)) (nth t 0))).map fun y => (x, y)) (c := 8) fun q hq => by
      have hk0 : 0 ≤ q := by
        have : q ∈ irange 0 (g : Int) := by rw [e]; simp [hq]
        exact (mem_irange.mp this).1
      exact hlen q hk0
    have hb3 := hlen x x0
    have hbb := gAdd_encL_s (xs := pre.flatMap fun x => ((irange x t.length).filter fun y => !decide (nth t (Builtin.bitXor x y) = Builtin.bitXor (Builtin.bitXor (nth t x) (nth t y)) (nth t 0))).map fun y => (x, y)) (ys := ((irange x t.length).filter fun y => !decide (nth t (Builtin.bitXor x y) = Builtin.bitXor (Builtin.bitXor (nth t x) (nth t y)) (nth t 0))).map fun y => (x, y)) (by omega)
    simp (disch := trivial) only [hbb, xS_asg, bnd_ok, R.ofO_some, bindT_nm, setE_is, slot_succ, slot_zero, setR_val, setR_nl, Sl.nl_val]
    simp (disch := trivial)
    rw [hl]
    refine hkk _ _ ⟨hs, .val (.int x), rfl, ?_⟩
    rw [List.flatMap_append]
    simp [hl]
  · rintro env s ⟨hs, y9, h9, rfl⟩
    have hp : ((irange 0 (g : Int)).flatMap fun x => ((irange x t.length).filter fun y => !decide (nth t (Builtin.bitXor x y) = Builtin.bitXor (Builtin.bitXor (nth t x) (nth t y)) (nth t 0))).map fun y => (x, y)) = bentL t := by rw [← hl]; rfl
    rw [hp]
    have hd : bentL t = [] ↔ degL b t < 2 := (bent_nil ht).trans (lin_deg ht hb)
    have hp : bentL t = [] ∨ 0 < (bentL t).length := by
      cases bentL t with
      | nil => exact .inl rfl
      | cons => exact .inr (Nat.succ_pos _)
    rcases hp with hp | hp
    · have hd2 : decide (degL b t < 2) = true := decide_eq_true (hd.mp hp)
      have hd3 : degL b t < 2 := hd.mp hp
      simp (disch := trivial) [_law_part1_s5, c1, c2, hp, hd3, -_law_part1_e6]
      have := hk s (.val (.list (encs (bentL t)))) y9 hs rfl h9
      rw [hp] at this
      exact this
    · have hd3 : ¬ degL b t < 2 := fun z => by
        rw [hd.mpr z] at hp; exact absurd hp (by decide)
      have hl0 : ¬ (bentL t).length = 0 := by omega
      simp (disch := trivial) [_law_part1_s5, c1, c2, head_nth hp, hd3, hl0, -_law_part1_e6]
      exact hk s _ y9 hs rfl h9
end Row

set_option Elab.async false
set_option linter.all false
set_option maxRecDepth 100000
set_option maxHeartbeats 1000000
namespace Row
open PySem PySem.Spec PyProof.Rows L2 L2.DL
open Enc (enc)
variable [TabL]
local macro_rules | `(tactic| trivial) => `(tactic| (simp only [decide_eq_true_eq, decide_eq_false_iff_not, Bool.and_eq_true, Bool.or_eq_true, Bool.not_eq_true', Bool.not_eq_false', Bool.or_eq_false_iff, Bool.and_eq_false_iff, List.length_map, irange_len, List.length_append, List.length_cons, List.length_nil]; omega))
local macro_rules | `(tactic| trivial) => `(tactic| exact Nat.le_of_ble_eq_true rfl)
local macro_rules | `(tactic| trivial) => `(tactic| omega)
local macro_rules | `(tactic| trivial) => `(tactic| assumption)
variable {n b g : Nat} {t : List Int} {s : Dr}

theorem rgaR_ok {m : Int} {s : Dr} (h0 : 0 ≤ m) (h : m ≤ 16777216) : rgaR [.int m] s = .ok ((0, m), s) := by
  unfold rgaR
  dsimp only
  rw [inR_18 (by omega) (by omega), if_pos (by rw [Bool.true_and, fitB_le']; omega)]
theorem rngD_ok {m : Int} (h0 : 0 ≤ m) : rngD 0 (m - 0).toNat 1 = encs (irange 0 m) := by
  rw [rngD_irange]
  have : (0 : Int) + ((m - 0).toNat : Int) = m := by omega
  rw [this]; rfl
def RB (b g : Nat) (bs : List (List Int)) (ks : List Int) : Prop := bs.length = ks.length ∧ bs.length ≤ 3 ∧ (∀ r ∈ bs, BoxOk b g r) ∧ ∀ k ∈ ks, 0 ≤ k ∧ k < g
theorem RB.at_ {bs : List (List Int)} {ks : List Int} (h : RB b g bs ks) {k : Int} (k0 : 0 ≤ k) (k1 : k < bs.length) : BoxOk b g (nth bs k) ∧ 0 ≤ nth ks k ∧ nth ks k < g := by
  obtain ⟨h1, h2, h3, h4⟩ := h
  exact ⟨h3 _ (nth_mem k0 k1), h4 _ (nth_mem k0 (by omega))⟩
theorem RB.ok {bs : List (List Int)} {ks : List Int} (h : RB b g bs ks) : RndOk b g (List.zip bs ks) := fun q hq => by
  rw [zip_nth h.1] at hq
  obtain ⟨k, hk, rfl⟩ := List.mem_map.mp hq
  obtain ⟨k0, k1⟩ := mem_irange.mp hk
  exact h.at_ k0 k1
theorem part_3 (hs : DrOk s) (hb : B3 b g) (ht : BoxOk b g t) {y6 y7 y8 y9 : Sl} (h6 : y6.nl = true) (h7 : y7.nl = true) (h8 : y8.nl = true) (h9 : y9.nl = true) (k kb kc : Kn) (Q : D → Dr → Prop)
    (hk : ∀ (s : Dr) (y9 y15 : Sl) (bs : List (List Int)) (ks : List Int) (l r : Int), DrOk s → y9.nl = true → y15.nl = true → RB b g bs ks → In2 g (l, r) → Wp (evS' (FP 19) _law_part1_r11 k kb kc [.drw, .val (.int (b : Int)), .val (.int (g : Int)), .val (enc t), .val (.list (encs (gapsL t))), .val (enc (formsL b t)), y6, y7, y8, y9, .val (enc bs), .val (enc ks), .val (.int l), .val (.int r), .val (enc (l, r)), y15, .no, .no, .no, .no, .no, .no, .no, .no, .no, .no, .no, .no] s) Q) :
    Wp (evS' (FP 19) _law_part1_r6 k kb kc [.drw, .val (.int (b : Int)), .val (.int (g : Int)), .val (enc t), .val (.list (encs (gapsL t))), .val (enc (formsL b t)), y6, y7, y8, y9, .no, .no, .no, .no, .no, .no, .no, .no, .no, .no, .no, .no, .no, .no, .no, .no, .no, .no] s) Q := by
  have hg := hb.pw
  have hl := ht.len
  simp (disch := trivial) [_law_part1_s6]
  obtain ⟨nb, s1, e0, n0, n1, hs1⟩ := take (n := 19) (m := 4) (by omega) (by omega) (by omega) hs
  refine lc_draws (β := List Int) (irange 0 nb) (BoxOk b g) hs1 (by simp (disch := trivial) [e0] <;> rfl) (fun x hx s hs => ?_) fun bs s hbl hO hs => ?_
  · simp (disch := trivial)
    exact law_box (n := 19) (by omega) hg.1 (by omega) hg.2.2.1 (by omega) hs
  rw [irange_len] at hbl
  simp (disch := trivial) [_law_part1_s7]
  refine lc_draws (β := Int) bs (fun y => 0 ≤ y ∧ y < g) hs (by simp (disch := trivial) <;> rfl) (fun x hx s hs => ?_) fun ks s hkl hK hs => ?_
  · simp (disch := trivial)
    exact Took.draw (take (by omega) (by omega) (by omega) hs)
  simp (disch := trivial) [_law_part1_s8]
  refine wp_took (take (by omega) (by omega) (by omega) hs) fun l s l0 l1 hs => ?_
  simp (disch := trivial) [_law_part1_s9]
  refine wp_took (take (by omega) (by omega) (by omega) hs) fun r s r0 r1 hs => ?_
  simp (disch := trivial) [_law_part1_s10, -_law_part1_e11]
  exact hk s _ .no bs ks l r hs (by assumption) rfl ⟨hkl.symm, by omega, hO, hK⟩ ⟨⟨l0, l1⟩, r0, r1⟩
theorem part_4 (hs : DrOk s) (hb : B3 b g) (ht : BoxOk b g t) {bs : List (List Int)} {ks : List Int} {l r : Int} (hr : RB b g bs ks) (hlr : In2 g (l, r)) {y6 y7 y8 y9 y15 : Sl} (h6 : y6.nl = true) (h7 : y7.nl = true) (h8 : y8.nl = true) (h9 : y9.nl = true) (h15 : y15.nl = true) (k kb kc : Kn) (Q : D → Dr → Prop)
    (hk : ∀ (s : Dr) (y15 : Sl), DrOk s → y15.nl = true → Wp (evS' (FP 19) _law_part1_r12 k kb kc [.drw, .val (.int (b : Int)), .val (.int (g : Int)), .val (enc t), .val (.list (encs (gapsL t))), .val (enc (formsL b t)), y6, y7, y8, y9, .val (enc bs), .val (enc ks), .val (.int l), .val (.int r), .val (enc (rndF (List.zip bs ks) (l, r))), y15, .no, .no, .no, .no, .no, .no, .no, .no, .no, .no, .no, .no] s) Q) :
    Wp (evS' (FP 19) _law_part1_r11 k kb kc [.drw, .val (.int (b : Int)), .val (.int (g : Int)), .val (enc t), .val (.list (encs (gapsL t))), .val (enc (formsL b t)), y6, y7, y8, y9, .val (enc bs), .val (enc ks), .val (.int l), .val (.int r), .val (enc (l, r)), y15, .no, .no, .no, .no, .no, .no, .no, .no, .no, .no, .no, .no] s) Q := by
  have hg := hb.pw
  have hl := ht.len
  have hbl := hr.2.1
  simp (disch := trivial) [_law_part1_s11, -enc_mk]
  refine for_inv (fun pre post env s' => DrOk s' ∧ ∃ y15, y15.nl = true ∧ env = [.drw, .val (.int (b : Int)), .val (.int (g : Int)), .val (enc t), .val (.list (encs (gapsL t))), .val (enc (formsL b t)), y6, y7, y8, y9, .val (enc bs), .val (enc ks), .val (.int l), .val (.int r), .val (enc (rndF (pre.map fun k => (nth bs k, nth ks k)) (l, r))), y15, .no, .no, .no, .no, .no, .no, .no, .no, .no, .no, .no, .no]) ⟨hs, y15, h15, rfl⟩ ?_ ?_
  · rintro pre x post env s kk kb e ⟨hs, y15, h15, rfl⟩ hkk hkb
    obtain ⟨e1, x0, x1, e4⟩ := irange_at e
    obtain ⟨q1, q2, q3⟩ := hr.at_ x0 x1
    have q1l := q1.len
    have hpre : RndOk b g (pre.map fun k => (nth bs k, nth ks k)) := fun q hq => by
      obtain ⟨k, hk, rfl⟩ := List.mem_map.mp hq
      have : k ∈ irange 0 (bs.length : Int) := by rw [e]; simp [hk]
      obtain ⟨k0, k1⟩ := mem_irange.mp this
      exact hr.at_ k0 k1
    obtain ⟨⟨a0, a1⟩, b0, b1⟩ := rndF_in ht.g hpre hlr
    have hkl := hr.1
    generalize hP : rndF (pre.map fun k => (nth bs k, nth ks k)) (l, r) = P at a0 a1 b0 b1 ⊢
    obtain ⟨w0, w1⟩ := ht.xi b0 b1 q2 q3
    obtain ⟨v0, v1⟩ := q1.at_ w0 w1
    have d1 := fun s => law_xor (n := 19) (s := s) (by omega) b0 (show P.2 < 8 by omega) q2 (show nth ks x < 8 by omega)
    have d2 := fun s => law_xor (n := 19) (s := s) (by omega) a0 (show P.1 < 8 by omega) v0 (show nth (nth bs x) (Builtin.bitXor P.2 (nth ks x)) < 8 by omega)
    simp (disch := trivial) [d1, d2]
    refine hkk _ _ ⟨hs, .val (.int x), rfl, ?_⟩
    rw [List.map_append, List.map_cons, List.map_nil, rndF_snoc, hP]
    simp
  · rintro env s ⟨hs, y15, h15, rfl⟩
    rw [← zip_nth hr.1]
    simp (disch := trivial) [-_law_part1_e12]
    exact hk s y15 hs h15
theorem part_5 (hs : DrOk s) (hb : B3 b g) (ht : BoxOk b g t) {bs : List (List Int)} {ks : List Int} {l r : Int} (hr : RB b g bs ks) (hlr : In2 g (l, r)) {y6 y7 y8 y9 y15 : Sl} (h6 : y6.nl = true) (h7 : y7.nl = true) (h8 : y8.nl = true) (h9 : y9.nl = true) (h15 : y15.nl = true) (k kb kc : Kn) (Q : D → Dr → Prop)
    (hk : ∀ (s : Dr) (y14 y16 : Sl), DrOk s → y14.nl = true → y16.nl = true → Wp (evS' (FP 19) _law_part1_r15 k kb kc [.drw, .val (.int (b : Int)), .val (.int (g : Int)), .val (enc t), .val (.list (encs (gapsL t))), .val (enc (formsL b t)), y6, y7, y8, y9, .val (enc bs), .val (enc ks), .val (.int l), .val (.int r), y14, y15, y16, .no, .no, .no, .no, .no, .no, .no, .no, .no, .no, .no] s) Q) :
    Wp (evS' (FP 19) _law_part1_r12 k kb kc [.drw, .val (.int (b : Int)), .val (.int (g : Int)), .val (enc t), .val (.list (encs (gapsL t))), .val (enc (formsL b t)), y6, y7, y8, y9, .val (enc bs), .val (enc ks), .val (.int l), .val (.int r), .val (enc (rndF (List.zip bs ks) (l, r))), y15, .no, .no, .no, .no, .no, .no, .no, .no, .no, .no, .no, .no] s) Q := by
  have hg := hb.pw
  have hl := ht.len
  have hbl := hr.2.1
  have hkl := hr.1
  have hR := hr.ok
  have hin := rndF_in ht.g hR hlr
  have hle8 := hg.2.2.2.1
  obtain ⟨O, hO⟩ : ∃ O, rndF (List.zip bs ks) (l, r) = O := ⟨_, rfl⟩
  have c1 : ∀ s, FP 19 14 [.val (.int (b : Int)), .val (enc bs), .val (enc ks), .val (.int l), .val (.int r)] s = .ok (enc O, s) := fun s => by
    rw [← hO]
    exact rounds (by omega) hg.1 (by omega) hg.2.2.1 hr.1 (by omega) hR hlr
  rw [hO] at hin
  have hrev : RndOk b g (List.zip bs.reverse ks.reverse) := fun q hq => by
    rw [zip_rev hr.1] at hq
    exact hR q (List.mem_reverse.mp hq)
  have c2 : ∀ s, FP 19 15 [.val (.int (b : Int)), .val (enc bs), .val (enc ks), .val (.int O.1), .val (.int O.2)] s = .ok (enc (l, r), s) := fun s => by
    have hbk := rnd_back ht.g hR hlr
    rw [hO, ← zip_rev hr.1] at hbk
    have e := back_rounds (n := 19) (s := s) (boxes := bs) (keys := ks) (l := O.1) (r := O.2) (by omega) hg.1 (by omega) hg.2.2.1 hr.1 (by omega) hrev ⟨hin.2, hin.1⟩
    rw [hbk] at e
    exact e
  have c3 : ∀ s, FP 19 16 [.val (.int (b : Int)), .val (enc bs), .val (enc ks)] s = .ok (enc (wholeL g (List.zip bs ks)), s) := fun s => whole_box (by omega) hg.1 hg.2.1 hg.2.2.1 hr.1 (by omega) hR
  obtain ⟨⟨l0, l1⟩, r0, r1⟩ := hlr
  dsimp only at l0 l1 r0 r1
  obtain ⟨⟨o0, o1⟩, o2, o3⟩ := hin
  have hgg : (0 : Int) < g := by omega
  have hlg : l * (g : Int) + r < (g : Int) * g := by
    have : l * (g : Int) ≤ ((g : Int) - 1) * g := Int.mul_le_mul_of_nonneg_right (by omega) (by omega)
    rw [Int.sub_mul, Int.one_mul] at this
    omega
  have hlg0 : 0 ≤ l * (g : Int) := Int.mul_nonneg l0 (by omega)
  have hsq : (g : Int) * g ≤ 64 := by
    have : (g : Int) * g ≤ 8 * 8 := Int.mul_le_mul (by omega) (by omega) (by omega) (by decide)
    omega
  have hat : nth (wholeL g (List.zip bs ks)) (l * (g : Int) + r) = O.1 * g + O.2 := by
    unfold wholeL
    rw [nth_map (by omega) (by rw [irange_len]; omega), nth_irange (by omega) (by omega), Int.zero_add]
    have e1 : (l * (g : Int) + r) / g = l := by rw [Int.add_comm, Int.add_mul_ediv_right _ _ (by omega), Int.ediv_eq_zero_of_lt r0 r1, Int.zero_add]
    have e2 : (l * (g : Int) + r) % g = r := by rw [Int.add_comm, Int.add_mul_emod_self_right, Int.emod_eq_of_lt r0 r1]
    rw [e1, e2, hO]
  have hwl : (wholeL g (List.zip bs ks)).length = ((g : Int) * g).toNat := by unfold wholeL; rw [List.length_map, irange_len]; omega
  have hwp := whole_perm ht.g hR
  have es : gSorted [enc (wholeL g (List.zip bs ks))] = some (.list (encs (irange 0 ((g : Int) * g)))) := by
    have e := gSorted_int (xs := wholeL g (List.zip bs ks)) (by omega)
    rw [sort_perm hwp irange_pair] at e
    exact e
  have er := fun s => rgaR_ok (s := s) (m := (g : Int) * g) (by omega) (by omega)
  have er2 := rngD_ok (m := (g : Int) * g) (by omega)
  rw [Int.sub_zero] at er2
  rw [hO]
  generalize hG : (g : Int) * g = GG at *
  generalize hW : wholeL g (List.zip bs ks) = W at *
  have e1 : gNe (.list (encs (irange 0 GG))) (.list (encs (irange 0 GG))) = some (.bool false) := by
    rw [gNe_encL (by decide), decide_eq_true rfl]; rfl
  simp (disch := trivial) [_law_part1_s12, c1, c2, _law_part1_s13, c3]
  simp (disch := trivial) [_law_part1_s14, hat, es, hG, er, er2, e1, -_law_part1_e15]
  exact hk s (.val (enc O)) (.val (enc W)) hs rfl rfl
theorem part_6 (hs : DrOk s) (hb : B3 b g) (ht : BoxOk b g t) {y6 y7 y8 y9 y10 y11 y12 y13 y14 y15 y16 : Sl} (h9 : y9.nl = true) (k kb kc : Kn) (Q : D → Dr → Prop)
    (hk : ∀ (s : Dr) (y9 : Sl) (f l : Int), DrOk s → y9.nl = true → (0 ≤ f ∧ f < g) → (0 ≤ l ∧ l < g) → Wp (evS' (FP 19) _law_part1_r19 k kb kc [.drw, .val (.int (b : Int)), .val (.int (g : Int)), .val (enc t), .val (.list (encs (gapsL t))), .val (enc (formsL b t)), y6, y7, y8, y9, y10, y11, y12, y13, y14, y15, y16, .val (.int f), .val (.int l), .val (enc (keyedL t f l)), .no, .no, .no, .no, .no, .no, .no, .no] s) Q) :
    Wp (evS' (FP 19) _law_part1_r15 k kb kc [.drw, .val (.int (b : Int)), .val (.int (g : Int)), .val (enc t), .val (.list (encs (gapsL t))), .val (enc (formsL b t)), y6, y7, y8, y9, y10, y11, y12, y13, y14, y15, y16, .no, .no, .no, .no, .no, .no, .no, .no, .no, .no, .no] s) Q := by
  have hg := hb.pw
  have hl := ht.len
  simp (disch := trivial) [_law_part1_s15]
  refine wp_took (take (by omega) (by omega) (by omega) hs) fun f s f0 f1 hs => ?_
  simp (disch := trivial) [_law_part1_s16]
  refine wp_took (take (by omega) (by omega) (by omega) hs) fun l s l0 l1 hs => ?_
  have hk2 := keyed_ok ht f0 f1 l0 l1
  have c1 := fun s => keyed (n := 19) (s := s) (by omega) ht f0 f1 l0 l1
  have c3 := fun s => gaps (n := 19) (s := s) (by omega) hk2
  simp only [keyed_gaps ht f0 f1 l0 l1] at c3
  simp (disch := trivial) [_law_part1_s17, c1, _law_part1_s18]
  refine lc_all (irange 0 (g : Int)) (fun x => Builtin.bitXor (nth t (Builtin.bitXor x f)) l) (by simp (disch := trivial) <;> rfl) (fun x hx => ?_) ?_
  · obtain ⟨x0, x1⟩ := mem_irange.mp hx
    obtain ⟨w0, w1⟩ := ht.xi x0 x1 f0 f1
    obtain ⟨v0, v1⟩ := ht.at_ w0 w1
    have d1 := fun s => law_xor (n := 19) (s := s) (by omega) x0 (show x < 8 by omega) f0 (show f < 8 by omega)
    have d2 := fun s => law_xor (n := 19) (s := s) (by omega) v0 (show nth t (Builtin.bitXor x f) < 8 by omega) l0 (show l < 8 by omega)
    simp (disch := trivial) [d1, d2]
  have e : (irange 0 (g : Int)).map (fun x => Builtin.bitXor (nth t (Builtin.bitXor x f)) l) = keyedL t f l := by unfold keyedL; rw [hl]
  rw [e]
  simp (disch := trivial) [c3, -_law_part1_e19]
  exact hk s y9 f l hs h9 ⟨f0, f1⟩ ⟨l0, l1⟩
end Row

set_option Elab.async false
set_option linter.all false
set_option maxRecDepth 100000
set_option maxHeartbeats 1000000
namespace Row
open PySem PySem.Spec PyProof.Rows L2 L2.DL
open Enc (enc)
variable [TabL]
local macro_rules | `(tactic| trivial) => `(tactic| (simp only [decide_eq_true_eq, decide_eq_false_iff_not, Bool.and_eq_true, Bool.or_eq_true, Bool.not_eq_true', Bool.not_eq_false', Bool.or_eq_false_iff, Bool.and_eq_false_iff, List.length_map, irange_len, List.length_append, List.length_cons, List.length_nil]; omega))
local macro_rules | `(tactic| trivial) => `(tactic| exact Nat.le_of_ble_eq_true rfl)
local macro_rules | `(tactic| trivial) => `(tactic| omega)
local macro_rules | `(tactic| trivial) => `(tactic| assumption)
section
variable {α β : Type} [Enc α] [Enc β] {fi : Ev (List D)} {t : Tg} {own : List Nat} {ft : Ev Bool} {fe : Ev D} {env : En} {s s1 : Dr}
/-- a comprehension whose test draws: some of the items -/
theorem lc_some {γ : Type} {K : Ct (D × Dr) (γ × Dr)} {Q : γ → Dr → Prop} (items : List α) (F : α → β) (hs : DrOk s1) (hi : fi env s = .ok (encs items, s1)) (hb : ∀ x ∈ items, ∀ s, DrOk s → Wp (bnd (R.ofO (bindT t (enc x) (wipeE env own))) (f := ⟨fun env2 => bnd (ft env2 s) (f := ⟨fun p => .ok ((env2, p.1), p.2)⟩)⟩)) fun r s' => DrOk s' ∧ Wp (fe r.1 s') fun d s'' => d = enc (F x) ∧ s'' = s')
    (h : ∀ (ys : List β) s', ys.length ≤ items.length → (∀ y ∈ ys, ∃ x ∈ items, y = F x) → DrOk s' → Wp (K.run (.list (encs ys), s')) Q) : Wp (@bnd _ _ (evLc fi t own ft fe env s) K) Q := by
  have key : ∀ (items : List α) (s1 : Dr), DrOk s1 → (∀ x ∈ items, ∀ s, DrOk s → Wp (bnd (R.ofO (bindT t (enc x) (wipeE env own))) (f := ⟨fun env2 => bnd (ft env2 s) (f := ⟨fun p => .ok ((env2, p.1), p.2)⟩)⟩)) fun r s' => DrOk s' ∧ Wp (fe r.1 s') fun d s'' => d = enc (F x) ∧ s'' = s') →
      ∃ (ys : List β) (s' : Dr), lcLoop t own ft fe env (items.map enc) s1 = .ok (ys.map enc, s') ∧ ys.length ≤ items.length ∧ (∀ y ∈ ys, ∃ x ∈ items, y = F x) ∧ DrOk s' := by
    intro items
    induction items with
    | nil => exact fun s1 hs _ => ⟨[], s1, rfl, Nat.le_refl _, (fun _ h => nomatch h), hs⟩
    | cons x xs ih =>
      intro s1 hs hb
      obtain ⟨env2, h1, h2⟩ := Wp.ofO_bnd (hb x (List.mem_cons_self ..) s1 hs)
      obtain ⟨b, s2, h2, h3⟩ := Wp.bnd_inv h2
      obtain ⟨r, s3, h4, h6, h7⟩ := h3
      cases h4
      obtain ⟨d, s4, h8, rfl, rfl⟩ := h7
      obtain ⟨ys, s5, i1, i2, i3, i4⟩ := ih s4 h6 fun y hy => hb y (List.mem_cons_of_mem _ hy)
      have h8 : fe env2 s4 = .ok (enc (F x), s4) := h8
      cases hq : b with
      | true =>
        rw [hq] at h2
        refine ⟨F x :: ys, s5, ?_, by rw [List.length_cons, List.length_cons]; omega, fun e he => ?_, i4⟩
        · rw [List.map_cons, lcLoop, h1]
          simp only [R.ofO, R.bind, h2, R.calm, h8, i1, if_true]
          rfl
        · rcases List.mem_cons.mp he with rfl | he
          · exact ⟨x, List.mem_cons_self .., rfl⟩
          · obtain ⟨z, hz, e2⟩ := i3 _ he
            exact ⟨z, List.mem_cons_of_mem _ hz, e2⟩
      | false =>
        rw [hq] at h2
        refine ⟨ys, s5, ?_, by rw [List.length_cons]; omega, fun e he => ?_, i4⟩
        · rw [List.map_cons, lcLoop, h1]
          simp only [R.ofO, R.bind, h2, R.calm, h8, i1]
          rfl
        · obtain ⟨z, hz, e2⟩ := i3 _ he
          exact ⟨z, List.mem_cons_of_mem _ hz, e2⟩
  obtain ⟨ys, s', e1, e2, e3, e4⟩ := key items s1 hs hb
  refine Wp.of ?_ (h ys s' e2 e3 e4)
  unfold evLc
  rw [hi, R.bnd_ok]
  show ((lcLoop t own ft fe env (items.map enc) s1).bind _).bind K.run = _
  rw [e1]
  rfl
end

variable {n b g : Nat} {t : List Int} {s : Dr} {f l : Int}
theorem part_7 (hs : DrOk s) (hb : B3 b g) (ht : BoxOk b g t) (f0 : 0 ≤ f ∧ f < g) (l0 : 0 ≤ l ∧ l < g) {y6 y7 y8 y9 y10 y11 y12 y13 y14 y15 y16 : Sl} (h9 : y9.nl = true) (k kb kc : Kn) (Q : D → Dr → Prop)
    (hk : ∀ (s : Dr) (y9 : Sl) (ps : List (Int × Int)), DrOk s → y9.nl = true → ps.length ≤ 9 → (∀ p ∈ ps, In2 g p) → Wp (evS' (FP 19) _law_part1_r21 k kb kc [.drw, .val (.int (b : Int)), .val (.int (g : Int)), .val (enc t), .val (.list (encs (gapsL t))), .val (enc (formsL b t)), y6, y7, y8, y9, y10, y11, y12, y13, y14, y15, y16, .val (.int f), .val (.int l), .val (enc (keyedL t f l)), .val (enc ps), .no, .no, .no, .no, .no, .no, .no] s) Q) :
    Wp (evS' (FP 19) _law_part1_r19 k kb kc [.drw, .val (.int (b : Int)), .val (.int (g : Int)), .val (enc t), .val (.list (encs (gapsL t))), .val (enc (formsL b t)), y6, y7, y8, y9, y10, y11, y12, y13, y14, y15, y16, .val (.int f), .val (.int l), .val (enc (keyedL t f l)), .no, .no, .no, .no, .no, .no, .no, .no] s) Q := by
  have hg := hb.pw
  have hl := ht.len
  have hkb := keyed_ok ht f0.1 f0.2 l0.1 l0.2
  have hkl := hkb.len
  simp (disch := trivial) [_law_part1_s19]
  refine lc_some (β := Int × Int) (irange 0 (g : Int)) (fun k => (k, nth (keyedL t f l) k)) hs (by simp (disch := trivial) <;> rfl) (fun z hz s hs => ?_) fun ps s hpl hO hs => ?_
  · obtain ⟨z0, z1⟩ := mem_irange.mp hz
    simp (disch := trivial)
    refine wp_took (take (by omega) (by omega) (by omega) hs) fun t1 s h2 h3 hs => ?_
    simp (disch := trivial) [hs]
  · rw [irange_len] at hpl
    have hin : ∀ p ∈ ps, In2 g p := fun p hp => by
      obtain ⟨z, hz, rfl⟩ := hO p hp
      have hz2 := mem_irange.mp hz
      exact ⟨hz2, hkb.at_ hz2.1 hz2.2⟩
    simp (disch := trivial) [_law_part1_s20]
    refine wp_took (take (by omega) (by omega) (by omega) hs) fun t1 s h2 h3 hs => ?_
    simp (disch := trivial)
    refine Wp.ite_of (fun hc => ?_) fun hc => ?_
    · simp (disch := trivial)
      refine wp_took (take (by omega) (by omega) (by omega) hs) fun u s u0 u1 hs => ?_
      simp (disch := trivial)
      refine wp_took (take (by omega) (by omega) (by omega) hs) fun v s v0 v1 hs => ?_
      have ea : gAdd (enc ps) (.tuple [.tuple [.int u, .int v]]) = some (enc (ps ++ [(u, v)])) := gAdd_enc (xs := ps) (ys := [(u, v)]) (by rw [List.length_singleton]; omega)
      simp (disch := trivial) [ea, -_law_part1_e21]
      refine hk s y9 (ps ++ [(u, v)]) hs h9 (by rw [List.length_append, List.length_singleton]; omega) fun p hp => ?_
      rcases List.mem_append.mp hp with hp | hp
      · exact hin p hp
      · rw [List.mem_singleton.mp hp]; exact ⟨⟨u0, u1⟩, v0, v1⟩
    · simp (disch := trivial) [-_law_part1_e21]
      exact hk s y9 ps hs h9 (by omega) hin
theorem part_8 (hs : DrOk s) (hb : B3 b g) (ht : BoxOk b g t) {ps : List (Int × Int)} (hpl : ps.length ≤ 9) (hps : ∀ p ∈ ps, In2 g p) {y6 y7 y8 y9 y10 y11 y12 y13 y14 y15 y16 : Sl} (h9 : y9.nl = true) (k kb kc : Kn) (Q : D → Dr → Prop)
    (hk : ∀ (s : Dr) (y21 y22 : Sl), DrOk s → y21.nl = true → y22.nl = true → Wp (evS' (FP 19) _law_part1_r24 k kb kc [.drw, .val (.int (b : Int)), .val (.int (g : Int)), .val (enc t), .val (.list (encs (gapsL t))), .val (enc (formsL b t)), y6, y7, y8, y9, y10, y11, y12, y13, y14, y15, y16, .val (.int f), .val (.int l), .val (enc (keyedL t f l)), .val (enc ps), y21, y22, .no, .no, .no, .no, .no] s) Q) :
    Wp (evS' (FP 19) _law_part1_r21 k kb kc [.drw, .val (.int (b : Int)), .val (.int (g : Int)), .val (enc t), .val (.list (encs (gapsL t))), .val (enc (formsL b t)), y6, y7, y8, y9, y10, y11, y12, y13, y14, y15, y16, .val (.int f), .val (.int l), .val (enc (keyedL t f l)), .val (enc ps), .no, .no, .no, .no, .no, .no, .no] s) Q := by
  have hg := hb.pw
  have hl := ht.len
  have c1 := fun s => keys_for (n := 19) (s := s) (by omega) ht hps
  have hlen : ∀ f : Int, (((irange 0 t.length).filter fun l => ps.all fun p => decide (Builtin.bitXor (nth t (Builtin.bitXor p.1 f)) l = p.2)).map fun l => (f, l)).length ≤ 8 := fun k => by
    rw [List.length_map]
    refine Nat.le_trans (List.length_filter_le _ _) ?_
    rw [irange_len]; omega
  simp (disch := trivial) [_law_part1_s21, _law_part1_s22]
  refine for_inv (fun pre post env s' => DrOk s' ∧ ∃ y22, y22.nl = true ∧ env = [.drw, .val (.int (b : Int)), .val (.int (g : Int)), .val (enc t), .val (.list (encs (gapsL t))), .val (enc (formsL b t)), y6, y7, y8, y9, y10, y11, y12, y13, y14, y15, y16, .val (.int f), .val (.int l), .val (enc (keyedL t f l)), .val (enc ps), .val (.list (encs (pre.flatMap fun f => ((irange 0 t.length).filter fun l => ps.all fun p => decide (Builtin.bitXor (nth t (Builtin.bitXor p.1 f)) l = p.2)).map fun l => (f, l)))), y22, .no, .no, .no, .no, .no]) ⟨hs, .no, rfl, rfl⟩ ?_ ?_
  · rintro pre x post env s kk kb e ⟨hs, y22, h22, rfl⟩ hkk hkb
    obtain ⟨e1, x0, x1, e4⟩ := irange_at e
    simp (disch := trivial)
    refine lc_enc (irange 0 (g : Int)) (fun l => ps.all fun p => decide (Builtin.bitXor (nth t (Builtin.bitXor p.1 x)) l = p.2)) (fun l => (x, l)) (by simp (disch := trivial) <;> rfl) (fun y hy => ?_) ?_
    · obtain ⟨a0, a1⟩ := mem_irange.mp hy
      simp (disch := trivial)
      refine lc_enc (β := Int) ps (fun p => !decide (Builtin.bitXor (nth t (Builtin.bitXor p.1 x)) y = p.2)) (fun _ => 1) (by simp (disch := trivial) <;> rfl) (fun p hp => ?_) ?_
      · obtain ⟨⟨q0, q1⟩, q2, q3⟩ := hps p hp
        obtain ⟨w0, w1⟩ := ht.xi q0 q1 x0 x1
        obtain ⟨v0, v1⟩ := ht.at_ w0 w1
        have d1 := fun s => law_xor (n := 19) (s := s) (by omega) q0 (show p.1 < 8 by omega) x0 (show x < 8 by omega)
        have d2 := fun s => law_xor (n := 19) (s := s) (by omega) v0 (show nth t (Builtin.bitXor p.1 x) < 8 by omega) a0 (show y < 8 by omega)
        simp (disch := trivial) [d1, d2]
      · have e0 : decide ((((ps.filter fun p => !decide (Builtin.bitXor (nth t (Builtin.bitXor p.1 x)) y = p.2)).map fun _ => (1 : Int)).length : Int) = 0) = ps.all fun p => decide (Builtin.bitXor (nth t (Builtin.bitXor p.1 x)) y = p.2) := by
          rw [Bool.eq_iff_iff, decide_eq_true_eq, List.all_eq_true, List.length_map]
          constructor
          · intro h p hp
            have h0 : (ps.filter fun p => !decide (Builtin.bitXor (nth t (Builtin.bitXor p.1 x)) y = p.2)) = [] := List.eq_nil_of_length_eq_zero (by omega)
            have := List.filter_eq_nil_iff.mp h0 p hp
            simpa using this
          · intro h
            have h0 : (ps.filter fun p => !decide (Builtin.bitXor (nth t (Builtin.bitXor p.1 x)) y = p.2)) = [] := List.filter_eq_nil_iff.mpr fun p hp => by
              have := h p hp
              simpa using this
            rw [h0]; rfl
        simp (disch := trivial) only [gLen_encL_s, R.ofO_some, bnd_ok, xT_tev]
        rw [List.length_map] at e0
        simp (disch := trivial)
        exact e0
    rw [← hl]
    have hb2 := length_flatMap_le (l := pre) (f := fun f => ((irange 0 t.length).filter fun l => ps.all fun p => decide (Builtin.bitXor (nth t (Builtin.bitXor p.1 f)) l = p.2)).map fun l => (f, l)) (c := 8) fun q hq => hlen q
    have hb3 := hlen x
    have hbb := gAdd_encL_s (xs := pre.flatMap fun f => ((irange 0 t.length).filter fun l => ps.all fun p => decide (Builtin.bitXor (nth t (Builtin.bitXor p.1 f)) l = p.2)).map fun l => (f, l)) (ys := ((irange 0 t.length).filter fun l => ps.all fun p => decide (Builtin.bitXor (nth t (Builtin.bitXor p.1 x)) l = p.2)).map fun l => (x, l)) (by omega)
    simp (disch := trivial) only [hbb, xS_asg, bnd_ok, R.ofO_some, bindT_nm, setE_is, slot_succ, slot_zero, setR_val, setR_nl, Sl.nl_val]
    simp (disch := trivial)
    rw [hl]
    refine hkk _ _ ⟨hs, .val (.int x), rfl, ?_⟩
    rw [List.flatMap_append]
    simp [hl]
  · rintro env s ⟨hs, y22, h22, rfl⟩
    have hp : ((irange 0 (g : Int)).flatMap fun f => ((irange 0 t.length).filter fun l => ps.all fun p => decide (Builtin.bitXor (nth t (Builtin.bitXor p.1 f)) l = p.2)).map fun l => (f, l)) = keysL t ps := by rw [← hl]; rfl
    rw [hp]
    simp (disch := trivial) [_law_part1_s23, c1, -_law_part1_e24]
    exact hk s _ y22 hs rfl h22
/-- keys that go with two pairs: for each first key at most one -/
theorem keys_two_len (ht : BoxOk b g t) {p q : Int × Int} (hp : In2 g p) (hq : In2 g q) : (keysL t [p, q]).length ≤ g * 1 := by
  unfold keysL
  have h := length_flatMap_le (l := irange 0 (t.length : Int)) (f := fun f => ((irange 0 t.length).filter fun l => [p, q].all fun p => decide (Builtin.bitXor (nth t (Builtin.bitXor p.1 f)) l = p.2)).map fun l => (f, l)) (c := 1) fun x hx => ?_
  · rw [irange_len, ht.len] at h
    rw [ht.len]
    omega
  · obtain ⟨x0, x1⟩ := mem_irange.mp hx
    rw [ht.len] at x1
    rw [List.length_map]
    obtain ⟨w0, w1⟩ := ht.xi hp.1.1 hp.1.2 x0 x1
    have hs := ht.s w0 w1
    have one : ∀ l ∈ (irange 0 (t.length : Int)).filter (fun l => [p, q].all fun p => decide (Builtin.bitXor (nth t (Builtin.bitXor p.1 x)) l = p.2)), l = Builtin.bitXor (nth t (Builtin.bitXor p.1 x)) p.2 := fun l hl => by
      obtain ⟨h1, h2⟩ := List.mem_filter.mp hl
      have h3 := mem_irange.mp h1
      rw [ht.len] at h3
      have h4 := of_decide_eq_true (List.all_eq_true.mp h2 p (List.mem_cons_self ..))
      exact (xr_eq hs (s_in ht h3) (s_in ht hp.2)).mp h4
    have nd : ((irange 0 (t.length : Int)).filter fun l => [p, q].all fun p => decide (Builtin.bitXor (nth t (Builtin.bitXor p.1 x)) l = p.2)).Nodup := irange_nodup.filter _
    generalize ((irange 0 (t.length : Int)).filter fun l => [p, q].all fun p => decide (Builtin.bitXor (nth t (Builtin.bitXor p.1 x)) l = p.2)) = L at one nd
    match L, one, nd with
    | [], _, _ => exact Nat.zero_le _
    | [a], _, _ => exact Nat.le_refl _
    | a :: c :: r, one, nd =>
      have e1 := one a (by simp)
      have e2 := one c (by simp)
      rw [List.nodup_cons] at nd
      exact absurd (by rw [e1, e2]; simp) nd.1
theorem keys_two (ht : BoxOk b g t) {p q : Int × Int} (hp : In2 g p) (hq : In2 g q) : sortU ((keysL t [p, q]).map fun r => r.1) = byGapL t p q := by
  refine sortU_of (irange_lt.filter _) fun k => ?_
  rw [List.mem_map]
  constructor
  · intro h
    obtain ⟨h1, h2⟩ := List.mem_filter.mp h
    have h3 := mem_irange.mp h1
    rw [ht.len] at h3
    have h4 := of_decide_eq_true h2
    obtain ⟨w0, w1⟩ := ht.xi hp.1.1 hp.1.2 h3.1 h3.2
    obtain ⟨v0, v1⟩ := ht.xi hq.1.1 hq.1.2 h3.1 h3.2
    have sw := ht.s w0 w1
    have sv := ht.s v0 v1
    have sp := s_in ht hp.2
    have sq := s_in ht hq.2
    obtain ⟨z0, z1⟩ := ht.at_ w0 w1
    obtain ⟨l0, l1⟩ := ht.xi z0 z1 hp.2.1 hp.2.2
    refine ⟨(k, Builtin.bitXor (nth t (Builtin.bitXor p.1 k)) p.2), mem_keysL.mpr ⟨by rw [ht.len]; exact h3, by rw [ht.len]; exact ⟨l0, l1⟩, fun r hr => ?_⟩, rfl⟩
    simp only [List.mem_cons, List.not_mem_nil, or_false] at hr
    rcases hr with rfl | rfl
    · rw [← xr_assoc sw sw sp, xr_self sw, zero_xr sp]
    · rw [← xr_assoc sv sw sp, xr_comm sv sw, h4, xr_comm sp sq, xr_assoc sq sp sp, xr_self sp, xr_zero sq]
  · rintro ⟨⟨f, l⟩, hr, rfl⟩
    exact gap_of_keys ht hr (by simp) (by simp) hp hq
theorem part_9 (hs : DrOk s) (hb : B3 b g) (ht : BoxOk b g t) {y6 y7 y8 y9 y10 y11 y12 y13 y14 y15 y16 y20 y21 y22 : Sl} (h9 : y9.nl = true) (h22 : y22.nl = true) :
    Wp (evS' (FP 19) _law_part1_r24 (fun _ s => .ok (.none, s)) (fun _ _ => .stuck) (fun _ _ => .stuck) [.drw, .val (.int (b : Int)), .val (.int (g : Int)), .val (enc t), .val (.list (encs (gapsL t))), .val (enc (formsL b t)), y6, y7, y8, y9, y10, y11, y12, y13, y14, y15, y16, .val (.int f), .val (.int l), .val (enc (keyedL t f l)), y20, y21, y22, .no, .no, .no, .no, .no] s) fun d s' => d = .bool true := by
  have hg := hb.pw
  have hl := ht.len
  simp (disch := trivial) [_law_part1_s24]
  refine wp_took (take (by omega) (by omega) (by omega) hs) fun p1 s a0 a1 hs => ?_
  simp (disch := trivial)
  refine wp_took (take (by omega) (by omega) (by omega) hs) fun p2 s b0 b1 hs => ?_
  simp (disch := trivial) [_law_part1_s25]
  refine wp_took (take (by omega) (by omega) (by omega) hs) fun q1 s c0 c1 hs => ?_
  simp (disch := trivial)
  refine wp_took (take (by omega) (by omega) (by omega) hs) fun q2 s d0 d1 hs => ?_
  have hp : In2 g (p1, p2) := ⟨⟨a0, a1⟩, b0, b1⟩
  have hq : In2 g (q1, q2) := ⟨⟨c0, c1⟩, d0, d1⟩
  have k1 := fun s => by_gap (n := 19) (s := s) (by omega) ht hp hq
  simp only [enc_mk, enc_int] at k1
  have k2 := fun s => keys_for (n := 19) (s := s) (ps := [(p1, p2), (q1, q2)]) (by omega) ht fun r hr => by
    simp only [List.mem_cons, List.not_mem_nil, or_false] at hr
    rcases hr with rfl | rfl
    · exact hp
    · exact hq
  have ek : enc [(p1, p2), (q1, q2)] = .tuple [.tuple [.int p1, .int p2], .tuple [.int q1, .int q2]] := rfl
  rw [ek] at k2
  have hkl := keys_two_len ht hp hq
  have hkt := keys_two ht hp hq
  simp (disch := trivial) [_law_part1_s26, k1, _law_part1_s27]
  refine lc_enc (irange 0 (g : Int)) (fun a => decide (Builtin.bitXor (nth t (Builtin.bitXor p1 a)) (nth t (Builtin.bitXor q1 a)) = Builtin.bitXor p2 q2)) (fun a => a) (by simp (disch := trivial) <;> rfl) (fun x hx => ?_) ?_
  · obtain ⟨x0, x1⟩ := mem_irange.mp hx
    obtain ⟨w0, w1⟩ := ht.xi a0 a1 x0 x1
    obtain ⟨v0, v1⟩ := ht.xi c0 c1 x0 x1
    obtain ⟨z0, z1⟩ := ht.at_ w0 w1
    obtain ⟨u0, u1⟩ := ht.at_ v0 v1
    have d1 := fun s => law_xor (n := 19) (s := s) (by omega) a0 (show p1 < 8 by omega) x0 (show x < 8 by omega)
    have d2 := fun s => law_xor (n := 19) (s := s) (by omega) c0 (show q1 < 8 by omega) x0 (show x < 8 by omega)
    have d3 := fun s => law_xor (n := 19) (s := s) (by omega) z0 (show nth t (Builtin.bitXor p1 x) < 8 by omega) u0 (show nth t (Builtin.bitXor q1 x) < 8 by omega)
    have d4 := fun s => law_xor (n := 19) (s := s) (by omega) b0 (show p2 < 8 by omega) d0 (show q2 < 8 by omega)
    simp (disch := trivial) [d1, d2, d3, d4]
  have e : ((irange 0 (g : Int)).filter fun a => decide (Builtin.bitXor (nth t (Builtin.bitXor p1 a)) (nth t (Builtin.bitXor q1 a)) = Builtin.bitXor p2 q2)).map (fun a => a) = byGapL t (p1, p2) (q1, q2) := by
    rw [List.map_id']
    unfold byGapL
    rw [hl]
  rw [e]
  simp (disch := trivial) [_law_part1_r28, k2]
  refine lc_all (α := Int × Int) (keysL t [(p1, p2), (q1, q2)]) (fun r => r.1) (by simp (disch := trivial) [k2] <;> rfl) (fun r hr => ?_) ?_
  · simp (disch := trivial)
  have hlm : ((keysL t [(p1, p2), (q1, q2)]).map fun r => r.1).length < 64 := by rw [List.length_map]; omega
  have es := gSSet_l hlm
  rw [hkt] at es
  have lw := law_wrong
  simp (disch := trivial) [es, lw]
end Row

set_option Elab.async false
set_option linter.all false
set_option maxRecDepth 100000
set_option maxHeartbeats 1000000
namespace Row
open PySem PySem.Spec PyProof.Rows L2 L2.DL
open Enc (enc)
variable [TabL]
local macro_rules | `(tactic| trivial) => `(tactic| (simp only [decide_eq_true_eq, decide_eq_false_iff_not, Bool.and_eq_true, Bool.or_eq_true, Bool.not_eq_true', Bool.not_eq_false', Bool.or_eq_false_iff, Bool.and_eq_false_iff, List.length_map, irange_len, List.length_append, List.length_cons, List.length_nil]; omega))
local macro_rules | `(tactic| trivial) => `(tactic| exact Nat.le_of_ble_eq_true rfl)
local macro_rules | `(tactic| trivial) => `(tactic| omega)
local macro_rules | `(tactic| trivial) => `(tactic| assumption)
variable {s : Dr} {b g : Nat} {t o : List Int} {f l : Int}
theorem part1 (hs : DrOk s) (hb : B3 b g) (ht : BoxOk b g t) : Wp (FP 20 30 [.drw, .val (.int (b : Int)), .val (.int (g : Int)), .val (enc t), .val (.list (encs (gapsL t))), .val (enc (formsL b t))] s) fun d s' => d = .bool true := by
  rw [FP_run (d := di__law_part1) rfl (by omega)]
  show Wp (evS' (FP 19) ir__law_part1 (fun _ s => .ok (.none, s)) (fun _ _ => .stuck) (fun _ _ => .stuck) [.drw, .val (.int (b : Int)), .val (.int (g : Int)), .val (enc t), .val (.list (encs (gapsL t))), .val (enc (formsL b t)), .no, .no, .no, .no, .no, .no, .no, .no, .no, .no, .no, .no, .no, .no, .no, .no, .no, .no, .no, .no, .no, .no] s) _
  rw [ir__law_part1_is]
  refine part_1 hs hb ht _ _ _ _ fun s y6 y7 hs h6 h7 => ?_
  refine part_2 hs hb ht h6 h7 _ _ _ _ fun s y8 y9 hs h8 h9 => ?_
  refine part_3 hs hb ht h6 h7 h8 h9 _ _ _ _ fun s y9 y15 bs ks l r hs h9 h15 hr hlr => ?_
  refine part_4 hs hb ht hr hlr h6 h7 h8 h9 h15 _ _ _ _ fun s y15 hs h15 => ?_
  refine part_5 hs hb ht hr hlr h6 h7 h8 h9 h15 _ _ _ _ fun s y14 y16 hs h14 h16 => ?_
  refine part_6 hs hb ht h9 _ _ _ _ fun s y9 f l hs h9 f0 l0 => ?_
  refine part_7 hs hb ht f0 l0 h9 _ _ _ _ fun s y9 ps hs h9 hpl hps => ?_
  refine part_8 hs hb ht hpl hps h9 _ _ _ _ fun s y21 y22 hs h21 h22 => ?_
  exact part_9 hs hb ht h9 h22
theorem law11 (hs : DrOk s) (hb : B3 b g) (ht : BoxOk b g t) {y6 y8 y10 y11 y12 y14 y15 y16 y17 y18 : Sl} :
    Wp (evS' (FP 20) law_r19 (fun _ s => .ok (.none, s)) (fun _ _ => .stuck) (fun _ _ => .stuck) [.no, .drw, .val (.int (b : Int)), .val (.int (g : Int)), .val (enc t), .val (.list (encs (pairsL t))), y6, .lst false (encs (gapsL t)), y8, .lst false (encs (masksL t)), y10, y11, y12, .val (enc (formsL b t)), y14, y15, y16, y17, y18, .no, .no, .no, .no, .no, .no] s) fun d s' => d = .bool true := by
  obtain ⟨d, s', e, rfl⟩ := part1 hs hb ht
  simp (disch := trivial) [law_r19, e]
theorem law_all {s : Dr} (hs : DrOk s) : Wp (evS' (FP 20) ir_law (fun _ s => .ok (.none, s)) (fun _ _ => .stuck) (fun _ _ => .stuck) [.no, .drw, .no, .no, .no, .no, .no, .no, .no, .no, .no, .no, .no, .no, .no, .no, .no, .no, .no, .no, .no, .no, .no, .no, .no] s) fun d s' => d = .bool true := by
  rw [ir_law_is]
  refine law1 hs _ _ _ _ fun b g t s hs hb ht => ?_
  refine law2 hs hb ht _ _ _ _ fun s y6 hs h6 => ?_
  refine law3 hs hb ht h6 _ _ _ _ fun s y14 hs h14 => ?_
  refine law4 hs hb ht h6 h14 _ _ _ _ fun s y8 hs h8 => ?_
  refine law5 hs hb ht h6 h8 h14 _ _ _ _ fun s hs => ?_
  refine law6 hs hb ht h6 h8 h14 _ _ _ _ fun s y10 y12 y15 y17 hs h10 h12 h15 h17 => ?_
  refine law7 hs hb ht h6 h8 h10 h12 h14 h17 _ _ _ _ fun s hs => ?_
  refine law8 hs hb ht h6 h8 h10 h12 h14 h17 _ _ _ _ fun s y12 hs h12 => ?_
  refine law9 hs hb ht h6 h8 h10 h12 h14 h17 _ _ _ _ fun s y6 y16 y18 hs h6 h16 h18 => ?_
  refine law10 hs hb ht _ _ _ _ fun s hs => ?_
  exact law11 hs hb ht
theorem plain0 (ns : List Int) (hl : ns.length ≤ 63) : ∃ seed : Int, 0 ≤ seed ∧ (∀ s, ∃ s', FP 20 22 [.scr ns] s = .ok (.list [.list (ns.map .int), .int 0, .int 0, .int seed], s')) ∧ LawRun (FP 20) di_law 1 ir_law ns seed := by
  obtain ⟨h1, h2⟩ := seedF_ok ns (c := 1) (by decide) (by decide)
  refine ⟨seedF ns 1, h1, fun s => ⟨s, begin_ (by omega) ns (by omega) s⟩, ?_⟩
  have hs : DrOk (dr0 ns (seedF ns 1)) := ⟨by show ns.length ≤ 64; omega, Int.le_refl _, Int.le_refl _, h1, h2⟩
  obtain ⟨d, s', e, rfl⟩ := law_all hs
  exact ⟨s', e⟩
end Row

set_option Elab.async false
set_option linter.all false
set_option maxRecDepth 100000
set_option maxHeartbeats 0
namespace Row
open PySem PySem.Spec PyProof.Rows L2 L2.DL
def fn : List He.DefD := [dd_check, dd_power_of, dd_odd, dd_is_order, dd_turned, dd_gaps, dd_most_gap, dd_masks, dd_most_mask, dd_far, dd_forms, dd_degree, dd_size_of, dd_check_half, dd_rounds, dd_back_rounds, dd_whole_box, dd_keyed, dd_keys_for, dd_by_gap, dd_joined, dd_is_straight, dd__law_begin, dd__law_take, dd__law_xor, dd__law_and, dd__law_ones, dd__law_box, dd__law_wrong, dd__law_part1, dd_law, dd__law_told]
def fa : List He.Fa := [.glo "check", .glo "power_of", .glo "odd", .glo "is_order", .glo "turned", .glo "gaps", .glo "most_gap", .glo "masks", .glo "most_mask", .glo "far", .glo "forms", .glo "degree", .glo "size_of", .glo "check_half", .glo "rounds", .glo "back_rounds", .glo "whole_box", .glo "keyed", .glo "keys_for", .glo "by_gap", .glo "joined", .glo "is_straight", .glo "_law_begin", .glo "_law_take", .glo "_law_xor", .glo "_law_and", .glo "_law_ones", .glo "_law_box", .glo "_law_wrong", .glo "_law_part1", .glo "law", .glo "_law_told", .free "len", .free "any", .free "all", .free "sum", .free "max", .free "min", .free "abs", .free "int", .free "list", .free "tuple", .free "range", .free "enumerate", .free "zip", .free "sorted", .free "set"]
abbrev R : PySem.W.OpenRow := PySem.W.OpenLaw.row PySem.Challenge.rw_secrethall_k19_whole_boxes
def tfs : List Str := ["_law_wrong"]
def tfd : List He.Defn := [("_law_wrong", none)]
def ex (K : PySem.W.Frag) : Bool := exB PySem.Challenge.pw_secrethall_k19_whole_boxes tfs true K && cstB K csts
theorem exL {K : PySem.W.Frag} (e : ex K = true) : exB PySem.Challenge.pw_secrethall_k19_whole_boxes tfs true K = true := (Bool.and_eq_true_iff.mp e).1
abbrev hk : PySem.W.Hook := hookY 4 fa fn tfd ex
def ob (s : PySem.W.SharedT) : He.AlX := obsY 4 fa fn tfd ex (HandSHeadRun.getT s)
theorem ob_eq (s : PySem.W.SharedT) : ob s = hk.obs s.abs := obsY_eq (HandSHeadRun.getT_eq s)
def loose : List Str := (["SecretError", "MOST_BITS", "check", "power_of", "odd", "is_order", "turned", "gaps", "most_gap", "masks", "most_mask", "far", "forms", "degree", "size_of", "check_half", "rounds", "back_rounds", "whole_box", "keyed", "keys_for", "by_gap", "joined", "is_straight", "_law_begin", "_law_take", "_law_told", "_law_xor", "_law_and", "_law_ones"] : List Str) ++ (["_law_box", "_law_wrong", "_law_part1"] : List Str)
theorem run (w : World) : HandSHeadRun.RunEq R (PySem.W.view R.prog [36]) hk ob 20000 loose w := by
  intro os
  kernel_rfl
section
variable {P : Program} {w : World} {K : PySem.W.Frag} {h : Heap} {mg : Str → Option Value}
theorem eq_check : cDef cc_check mu_check (defBody (top 4)) = some ir_check := by kernel_rfl
theorem sc_check : FnScope N_check ["bits", "box"] (defScope (top 4)) := ⟨by kernel_rfl, by kernel_rfl, by kernel_rfl, by decide +kernel, by kernel_rfl, by decide +kernel, by decide +kernel⟩
theorem eq_power_of : cDef cc_power_of mu_power_of (defBody (top 5)) = some ir_power_of := by kernel_rfl
theorem sc_power_of : FnScope N_power_of ["number"] (defScope (top 5)) := ⟨by kernel_rfl, by kernel_rfl, by kernel_rfl, by decide +kernel, by kernel_rfl, by decide +kernel, by decide +kernel⟩
theorem eq_odd : cDef cc_odd mu_odd (defBody (top 6)) = some ir_odd := by kernel_rfl
theorem sc_odd : FnScope N_odd ["number"] (defScope (top 6)) := ⟨by kernel_rfl, by kernel_rfl, by kernel_rfl, by decide +kernel, by kernel_rfl, by decide +kernel, by decide +kernel⟩
theorem eq_is_order : cDef cc_is_order mu_is_order (defBody (top 7)) = some ir_is_order := by kernel_rfl
theorem sc_is_order : FnScope N_is_order ["bits", "box"] (defScope (top 7)) := ⟨by kernel_rfl, by kernel_rfl, by kernel_rfl, by decide +kernel, by kernel_rfl, by decide +kernel, by decide +kernel⟩
theorem eq_turned : cDef cc_turned mu_turned (defBody (top 8)) = some ir_turned := by kernel_rfl
theorem sc_turned : FnScope N_turned ["bits", "box"] (defScope (top 8)) := ⟨by kernel_rfl, by kernel_rfl, by kernel_rfl, by decide +kernel, by kernel_rfl, by decide +kernel, by decide +kernel⟩
theorem eq_gaps : cDef cc_gaps mu_gaps (defBody (top 9)) = some ir_gaps := by kernel_rfl
theorem sc_gaps : FnScope N_gaps ["bits", "box"] (defScope (top 9)) := ⟨by kernel_rfl, by kernel_rfl, by kernel_rfl, by decide +kernel, by kernel_rfl, by decide +kernel, by decide +kernel⟩
theorem eq_most_gap : cDef cc_most_gap mu_most_gap (defBody (top 10)) = some ir_most_gap := by kernel_rfl
theorem sc_most_gap : FnScope N_most_gap ["bits", "box"] (defScope (top 10)) := ⟨by kernel_rfl, by kernel_rfl, by kernel_rfl, by decide +kernel, by kernel_rfl, by decide +kernel, by decide +kernel⟩
theorem eq_masks : cDef cc_masks mu_masks (defBody (top 11)) = some ir_masks := by kernel_rfl
theorem sc_masks : FnScope N_masks ["bits", "box"] (defScope (top 11)) := ⟨by kernel_rfl, by kernel_rfl, by kernel_rfl, by decide +kernel, by kernel_rfl, by decide +kernel, by decide +kernel⟩
theorem eq_most_mask : cDef cc_most_mask mu_most_mask (defBody (top 12)) = some ir_most_mask := by kernel_rfl
theorem sc_most_mask : FnScope N_most_mask ["bits", "box"] (defScope (top 12)) := ⟨by kernel_rfl, by kernel_rfl, by kernel_rfl, by decide +kernel, by kernel_rfl, by decide +kernel, by decide +kernel⟩
theorem eq_far : cDef cc_far mu_far (defBody (top 13)) = some ir_far := by kernel_rfl
theorem sc_far : FnScope N_far ["bits", "box"] (defScope (top 13)) := ⟨by kernel_rfl, by kernel_rfl, by kernel_rfl, by decide +kernel, by kernel_rfl, by decide +kernel, by decide +kernel⟩
theorem eq_forms : cDef cc_forms mu_forms (defBody (top 14)) = some ir_forms := by kernel_rfl
theorem sc_forms : FnScope N_forms ["bits", "box"] (defScope (top 14)) := ⟨by kernel_rfl, by kernel_rfl, by kernel_rfl, by decide +kernel, by kernel_rfl, by decide +kernel, by decide +kernel⟩
theorem eq_degree : cDef cc_degree mu_degree (defBody (top 15)) = some ir_degree := by kernel_rfl
theorem sc_degree : FnScope N_degree ["bits", "box"] (defScope (top 15)) := ⟨by kernel_rfl, by kernel_rfl, by kernel_rfl, by decide +kernel, by kernel_rfl, by decide +kernel, by decide +kernel⟩
theorem eq_size_of : cDef cc_size_of mu_size_of (defBody (top 16)) = some ir_size_of := by kernel_rfl
theorem sc_size_of : FnScope N_size_of ["number"] (defScope (top 16)) := ⟨by kernel_rfl, by kernel_rfl, by kernel_rfl, by decide +kernel, by kernel_rfl, by decide +kernel, by decide +kernel⟩
theorem eq_check_half : cDef cc_check_half mu_check_half (defBody (top 17)) = some ir_check_half := by kernel_rfl
theorem sc_check_half : FnScope N_check_half ["bits", "number"] (defScope (top 17)) := ⟨by kernel_rfl, by kernel_rfl, by kernel_rfl, by decide +kernel, by kernel_rfl, by decide +kernel, by decide +kernel⟩
theorem eq_rounds : cDef cc_rounds mu_rounds (defBody (top 18)) = some ir_rounds := by kernel_rfl
theorem sc_rounds : FnScope N_rounds ["bits", "boxes", "keys", "left", "right"] (defScope (top 18)) := ⟨by kernel_rfl, by kernel_rfl, by kernel_rfl, by decide +kernel, by kernel_rfl, by decide +kernel, by decide +kernel⟩
theorem eq_back_rounds : cDef cc_back_rounds mu_back_rounds (defBody (top 19)) = some ir_back_rounds := by kernel_rfl
theorem sc_back_rounds : FnScope N_back_rounds ["bits", "boxes", "keys", "left", "right"] (defScope (top 19)) := ⟨by kernel_rfl, by kernel_rfl, by kernel_rfl, by decide +kernel, by kernel_rfl, by decide +kernel, by decide +kernel⟩
theorem eq_whole_box : cDef cc_whole_box mu_whole_box (defBody (top 20)) = some ir_whole_box := by kernel_rfl
theorem sc_whole_box : FnScope N_whole_box ["bits", "boxes", "keys"] (defScope (top 20)) := ⟨by kernel_rfl, by kernel_rfl, by kernel_rfl, by decide +kernel, by kernel_rfl, by decide +kernel, by decide +kernel⟩
theorem eq_keyed : cDef cc_keyed mu_keyed (defBody (top 21)) = some ir_keyed := by kernel_rfl
theorem sc_keyed : FnScope N_keyed ["bits", "box", "first", "last"] (defScope (top 21)) := ⟨by kernel_rfl, by kernel_rfl, by kernel_rfl, by decide +kernel, by kernel_rfl, by decide +kernel, by decide +kernel⟩
theorem eq_keys_for : cDef cc_keys_for mu_keys_for (defBody (top 22)) = some ir_keys_for := by kernel_rfl
theorem sc_keys_for : FnScope N_keys_for ["bits", "box", "pairs"] (defScope (top 22)) := ⟨by kernel_rfl, by kernel_rfl, by kernel_rfl, by decide +kernel, by kernel_rfl, by decide +kernel, by decide +kernel⟩
theorem eq_by_gap : cDef cc_by_gap mu_by_gap (defBody (top 23)) = some ir_by_gap := by kernel_rfl
theorem sc_by_gap : FnScope N_by_gap ["bits", "box", "one", "other"] (defScope (top 23)) := ⟨by kernel_rfl, by kernel_rfl, by kernel_rfl, by decide +kernel, by kernel_rfl, by decide +kernel, by decide +kernel⟩
theorem eq_joined : cDef cc_joined mu_joined (defBody (top 24)) = some ir_joined := by kernel_rfl
theorem sc_joined : FnScope N_joined ["bits", "first", "second"] (defScope (top 24)) := ⟨by kernel_rfl, by kernel_rfl, by kernel_rfl, by decide +kernel, by kernel_rfl, by decide +kernel, by decide +kernel⟩
theorem eq_is_straight : cDef cc_is_straight mu_is_straight (defBody (top 25)) = some ir_is_straight := by kernel_rfl
theorem sc_is_straight : FnScope N_is_straight ["bits", "box"] (defScope (top 25)) := ⟨by kernel_rfl, by kernel_rfl, by kernel_rfl, by decide +kernel, by kernel_rfl, by decide +kernel, by decide +kernel⟩
theorem eq__law_begin : cDef cc__law_begin mu__law_begin (defBody (top 27)) = some ir__law_begin := by kernel_rfl
theorem sc__law_begin : FnScope N__law_begin ["script"] (defScope (top 27)) := ⟨by kernel_rfl, by kernel_rfl, by kernel_rfl, by decide +kernel, by kernel_rfl, by decide +kernel, by decide +kernel⟩
theorem eq__law_take : cDef cc__law_take mu__law_take (defBody (top 28)) = some ir__law_take := by kernel_rfl
theorem sc__law_take : FnScope N__law_take ["d", "many"] (defScope (top 28)) := ⟨by kernel_rfl, by kernel_rfl, by kernel_rfl, by decide +kernel, by kernel_rfl, by decide +kernel, by decide +kernel⟩
theorem eq__law_xor : cDef cc__law_xor mu__law_xor (defBody (top 30)) = some ir__law_xor := by kernel_rfl
theorem sc__law_xor : FnScope N__law_xor ["one", "other"] (defScope (top 30)) := ⟨by kernel_rfl, by kernel_rfl, by kernel_rfl, by decide +kernel, by kernel_rfl, by decide +kernel, by decide +kernel⟩
theorem eq__law_and : cDef cc__law_and mu__law_and (defBody (top 31)) = some ir__law_and := by kernel_rfl
theorem sc__law_and : FnScope N__law_and ["one", "other"] (defScope (top 31)) := ⟨by kernel_rfl, by kernel_rfl, by kernel_rfl, by decide +kernel, by kernel_rfl, by decide +kernel, by decide +kernel⟩
theorem eq__law_ones : cDef cc__law_ones mu__law_ones (defBody (top 32)) = some ir__law_ones := by kernel_rfl
theorem sc__law_ones : FnScope N__law_ones ["number"] (defScope (top 32)) := ⟨by kernel_rfl, by kernel_rfl, by kernel_rfl, by decide +kernel, by kernel_rfl, by decide +kernel, by decide +kernel⟩
theorem eq__law_box : cDef cc__law_box mu__law_box (defBody (top 33)) = some ir__law_box := by kernel_rfl
theorem sc__law_box : FnScope N__law_box ["d", "size"] (defScope (top 33)) := ⟨by kernel_rfl, by kernel_rfl, by kernel_rfl, by decide +kernel, by kernel_rfl, by decide +kernel, by decide +kernel⟩
theorem eq__law_wrong : cDef cc__law_wrong mu__law_wrong (defBody (top 34)) = some ir__law_wrong := by kernel_rfl
theorem sc__law_wrong : FnScope N__law_wrong [] (defScope (top 34)) := ⟨by kernel_rfl, by kernel_rfl, by kernel_rfl, by decide +kernel, by kernel_rfl, by decide +kernel, by decide +kernel⟩
theorem eq__law_part1 : cDef cc__law_part1 mu__law_part1 (defBody (top 35)) = some ir__law_part1 := by kernel_rfl
theorem sc__law_part1 : FnScope N__law_part1 ["d", "bits", "size", "box", "table", "told"] (defScope (top 35)) := ⟨by kernel_rfl, by kernel_rfl, by kernel_rfl, by decide +kernel, by kernel_rfl, by decide +kernel, by decide +kernel⟩
theorem eq_law : cDef cc_law mu_law (defBody (top 36)).tail = some ir_law := by kernel_rfl
theorem sc_law : FnScope N_law ["script"] (defScope (top 36)) := ⟨by kernel_rfl, by kernel_rfl, by kernel_rfl, by decide +kernel, by kernel_rfl, by decide +kernel, by decide +kernel⟩
theorem hf_check (X : K.In h) (G : h.Ns mainGlobals mg) (c : He.SaysD fa fn K) : HF K mg fns csts tab sp true tfs ("check", 0, 2) := by
  obtain ⟨fd, F⟩ := c.def_ 0 (d := dd_check) rfl
  exact ⟨di_check, _, _, mu_check, _, fd, rfl, rfl, rfl, rfl, rfl, F, He.glo_ok X G (c.fact 0 (f := .glo "check") rfl), sc_check, eq_check, FunD.bindsN F fun _ _ _ _ _ _ us hl => match us, hl with | [_, _], _ => rfl, rfl, id, fun z => nomatch z⟩
theorem hf_power_of (X : K.In h) (G : h.Ns mainGlobals mg) (c : He.SaysD fa fn K) : HF K mg fns csts tab sp true tfs ("power_of", 1, 1) := by
  obtain ⟨fd, F⟩ := c.def_ 1 (d := dd_power_of) rfl
  exact ⟨di_power_of, _, _, mu_power_of, _, fd, rfl, rfl, rfl, rfl, rfl, F, He.glo_ok X G (c.fact 1 (f := .glo "power_of") rfl), sc_power_of, eq_power_of, FunD.bindsN F fun _ _ _ _ _ _ us hl => match us, hl with | [_], _ => rfl, rfl, id, fun z => nomatch z⟩
theorem hf_odd (X : K.In h) (G : h.Ns mainGlobals mg) (c : He.SaysD fa fn K) : HF K mg fns csts tab sp true tfs ("odd", 2, 1) := by
  obtain ⟨fd, F⟩ := c.def_ 2 (d := dd_odd) rfl
  exact ⟨di_odd, _, _, mu_odd, _, fd, rfl, rfl, rfl, rfl, rfl, F, He.glo_ok X G (c.fact 2 (f := .glo "odd") rfl), sc_odd, eq_odd, FunD.bindsN F fun _ _ _ _ _ _ us hl => match us, hl with | [_], _ => rfl, rfl, id, fun z => nomatch z⟩
theorem hf_is_order (X : K.In h) (G : h.Ns mainGlobals mg) (c : He.SaysD fa fn K) : HF K mg fns csts tab sp true tfs ("is_order", 3, 2) := by
  obtain ⟨fd, F⟩ := c.def_ 3 (d := dd_is_order) rfl
  exact ⟨di_is_order, _, _, mu_is_order, _, fd, rfl, rfl, rfl, rfl, rfl, F, He.glo_ok X G (c.fact 3 (f := .glo "is_order") rfl), sc_is_order, eq_is_order, FunD.bindsN F fun _ _ _ _ _ _ us hl => match us, hl with | [_, _], _ => rfl, rfl, id, fun z => nomatch z⟩
theorem hf_turned (X : K.In h) (G : h.Ns mainGlobals mg) (c : He.SaysD fa fn K) : HF K mg fns csts tab sp true tfs ("turned", 4, 2) := by
  obtain ⟨fd, F⟩ := c.def_ 4 (d := dd_turned) rfl
  exact ⟨di_turned, _, _, mu_turned, _, fd, rfl, rfl, rfl, rfl, rfl, F, He.glo_ok X G (c.fact 4 (f := .glo "turned") rfl), sc_turned, eq_turned, FunD.bindsN F fun _ _ _ _ _ _ us hl => match us, hl with | [_, _], _ => rfl, rfl, id, fun z => nomatch z⟩
theorem hf_gaps (X : K.In h) (G : h.Ns mainGlobals mg) (c : He.SaysD fa fn K) : HF K mg fns csts tab sp true tfs ("gaps", 5, 2) := by
  obtain ⟨fd, F⟩ := c.def_ 5 (d := dd_gaps) rfl
  exact ⟨di_gaps, _, _, mu_gaps, _, fd, rfl, rfl, rfl, rfl, rfl, F, He.glo_ok X G (c.fact 5 (f := .glo "gaps") rfl), sc_gaps, eq_gaps, FunD.bindsN F fun _ _ _ _ _ _ us hl => match us, hl with | [_, _], _ => rfl, rfl, id, fun z => nomatch z⟩
theorem hf_most_gap (X : K.In h) (G : h.Ns mainGlobals mg) (c : He.SaysD fa fn K) : HF K mg fns csts tab sp true tfs ("most_gap", 6, 2) := by
  obtain ⟨fd, F⟩ := c.def_ 6 (d := dd_most_gap) rfl
  exact ⟨di_most_gap, _, _, mu_most_gap, _, fd, rfl, rfl, rfl, rfl, rfl, F, He.glo_ok X G (c.fact 6 (f := .glo "most_gap") rfl), sc_most_gap, eq_most_gap, FunD.bindsN F fun _ _ _ _ _ _ us hl => match us, hl with | [_, _], _ => rfl, rfl, id, fun z => nomatch z⟩
theorem hf_masks (X : K.In h) (G : h.Ns mainGlobals mg) (c : He.SaysD fa fn K) : HF K mg fns csts tab sp true tfs ("masks", 7, 2) := by
  obtain ⟨fd, F⟩ := c.def_ 7 (d := dd_masks) rfl
  exact ⟨di_masks, _, _, mu_masks, _, fd, rfl, rfl, rfl, rfl, rfl, F, He.glo_ok X G (c.fact 7 (f := .glo "masks") rfl), sc_masks, eq_masks, FunD.bindsN F fun _ _ _ _ _ _ us hl => match us, hl with | [_, _], _ => rfl, rfl, id, fun z => nomatch z⟩
theorem hf_most_mask (X : K.In h) (G : h.Ns mainGlobals mg) (c : He.SaysD fa fn K) : HF K mg fns csts tab sp true tfs ("most_mask", 8, 2) := by
  obtain ⟨fd, F⟩ := c.def_ 8 (d := dd_most_mask) rfl
  exact ⟨di_most_mask, _, _, mu_most_mask, _, fd, rfl, rfl, rfl, rfl, rfl, F, He.glo_ok X G (c.fact 8 (f := .glo "most_mask") rfl), sc_most_mask, eq_most_mask, FunD.bindsN F fun _ _ _ _ _ _ us hl => match us, hl with | [_, _], _ => rfl, rfl, id, fun z => nomatch z⟩
theorem hf_far (X : K.In h) (G : h.Ns mainGlobals mg) (c : He.SaysD fa fn K) : HF K mg fns csts tab sp true tfs ("far", 9, 2) := by
  obtain ⟨fd, F⟩ := c.def_ 9 (d := dd_far) rfl
  exact ⟨di_far, _, _, mu_far, _, fd, rfl, rfl, rfl, rfl, rfl, F, He.glo_ok X G (c.fact 9 (f := .glo "far") rfl), sc_far, eq_far, FunD.bindsN F fun _ _ _ _ _ _ us hl => match us, hl with | [_, _], _ => rfl, rfl, id, fun z => nomatch z⟩
theorem hf_forms (X : K.In h) (G : h.Ns mainGlobals mg) (c : He.SaysD fa fn K) : HF K mg fns csts tab sp true tfs ("forms", 10, 2) := by
  obtain ⟨fd, F⟩ := c.def_ 10 (d := dd_forms) rfl
  exact ⟨di_forms, _, _, mu_forms, _, fd, rfl, rfl, rfl, rfl, rfl, F, He.glo_ok X G (c.fact 10 (f := .glo "forms") rfl), sc_forms, eq_forms, FunD.bindsN F fun _ _ _ _ _ _ us hl => match us, hl with | [_, _], _ => rfl, rfl, id, fun z => nomatch z⟩
theorem hf_degree (X : K.In h) (G : h.Ns mainGlobals mg) (c : He.SaysD fa fn K) : HF K mg fns csts tab sp true tfs ("degree", 11, 2) := by
  obtain ⟨fd, F⟩ := c.def_ 11 (d := dd_degree) rfl
  exact ⟨di_degree, _, _, mu_degree, _, fd, rfl, rfl, rfl, rfl, rfl, F, He.glo_ok X G (c.fact 11 (f := .glo "degree") rfl), sc_degree, eq_degree, FunD.bindsN F fun _ _ _ _ _ _ us hl => match us, hl with | [_, _], _ => rfl, rfl, id, fun z => nomatch z⟩
theorem hf_size_of (X : K.In h) (G : h.Ns mainGlobals mg) (c : He.SaysD fa fn K) : HF K mg fns csts tab sp true tfs ("size_of", 12, 1) := by
  obtain ⟨fd, F⟩ := c.def_ 12 (d := dd_size_of) rfl
  exact ⟨di_size_of, _, _, mu_size_of, _, fd, rfl, rfl, rfl, rfl, rfl, F, He.glo_ok X G (c.fact 12 (f := .glo "size_of") rfl), sc_size_of, eq_size_of, FunD.bindsN F fun _ _ _ _ _ _ us hl => match us, hl with | [_], _ => rfl, rfl, id, fun z => nomatch z⟩
theorem hf_check_half (X : K.In h) (G : h.Ns mainGlobals mg) (c : He.SaysD fa fn K) : HF K mg fns csts tab sp true tfs ("check_half", 13, 2) := by
  obtain ⟨fd, F⟩ := c.def_ 13 (d := dd_check_half) rfl
  exact ⟨di_check_half, _, _, mu_check_half, _, fd, rfl, rfl, rfl, rfl, rfl, F, He.glo_ok X G (c.fact 13 (f := .glo "check_half") rfl), sc_check_half, eq_check_half, FunD.bindsN F fun _ _ _ _ _ _ us hl => match us, hl with | [_, _], _ => rfl, rfl, id, fun z => nomatch z⟩
theorem hf_rounds (X : K.In h) (G : h.Ns mainGlobals mg) (c : He.SaysD fa fn K) : HF K mg fns csts tab sp true tfs ("rounds", 14, 5) := by
  obtain ⟨fd, F⟩ := c.def_ 14 (d := dd_rounds) rfl
  exact ⟨di_rounds, _, _, mu_rounds, _, fd, rfl, rfl, rfl, rfl, rfl, F, He.glo_ok X G (c.fact 14 (f := .glo "rounds") rfl), sc_rounds, eq_rounds, FunD.bindsN F fun _ _ _ _ _ _ us hl => match us, hl with | [_, _, _, _, _], _ => rfl, rfl, id, fun z => nomatch z⟩
theorem hf_back_rounds (X : K.In h) (G : h.Ns mainGlobals mg) (c : He.SaysD fa fn K) : HF K mg fns csts tab sp true tfs ("back_rounds", 15, 5) := by
  obtain ⟨fd, F⟩ := c.def_ 15 (d := dd_back_rounds) rfl
  exact ⟨di_back_rounds, _, _, mu_back_rounds, _, fd, rfl, rfl, rfl, rfl, rfl, F, He.glo_ok X G (c.fact 15 (f := .glo "back_rounds") rfl), sc_back_rounds, eq_back_rounds, FunD.bindsN F fun _ _ _ _ _ _ us hl => match us, hl with | [_, _, _, _, _], _ => rfl, rfl, id, fun z => nomatch z⟩
theorem hf_whole_box (X : K.In h) (G : h.Ns mainGlobals mg) (c : He.SaysD fa fn K) : HF K mg fns csts tab sp true tfs ("whole_box", 16, 3) := by
  obtain ⟨fd, F⟩ := c.def_ 16 (d := dd_whole_box) rfl
  exact ⟨di_whole_box, _, _, mu_whole_box, _, fd, rfl, rfl, rfl, rfl, rfl, F, He.glo_ok X G (c.fact 16 (f := .glo "whole_box") rfl), sc_whole_box, eq_whole_box, FunD.bindsN F fun _ _ _ _ _ _ us hl => match us, hl with | [_, _, _], _ => rfl, rfl, id, fun z => nomatch z⟩
theorem hf_keyed (X : K.In h) (G : h.Ns mainGlobals mg) (c : He.SaysD fa fn K) : HF K mg fns csts tab sp true tfs ("keyed", 17, 4) := by
  obtain ⟨fd, F⟩ := c.def_ 17 (d := dd_keyed) rfl
  exact ⟨di_keyed, _, _, mu_keyed, _, fd, rfl, rfl, rfl, rfl, rfl, F, He.glo_ok X G (c.fact 17 (f := .glo "keyed") rfl), sc_keyed, eq_keyed, FunD.bindsN F fun _ _ _ _ _ _ us hl => match us, hl with | [_, _, _, _], _ => rfl, rfl, id, fun z => nomatch z⟩
theorem hf_keys_for (X : K.In h) (G : h.Ns mainGlobals mg) (c : He.SaysD fa fn K) : HF K mg fns csts tab sp true tfs ("keys_for", 18, 3) := by
  obtain ⟨fd, F⟩ := c.def_ 18 (d := dd_keys_for) rfl
  exact ⟨di_keys_for, _, _, mu_keys_for, _, fd, rfl, rfl, rfl, rfl, rfl, F, He.glo_ok X G (c.fact 18 (f := .glo "keys_for") rfl), sc_keys_for, eq_keys_for, FunD.bindsN F fun _ _ _ _ _ _ us hl => match us, hl with | [_, _, _], _ => rfl, rfl, id, fun z => nomatch z⟩
theorem hf_by_gap (X : K.In h) (G : h.Ns mainGlobals mg) (c : He.SaysD fa fn K) : HF K mg fns csts tab sp true tfs ("by_gap", 19, 4) := by
  obtain ⟨fd, F⟩ := c.def_ 19 (d := dd_by_gap) rfl
  exact ⟨di_by_gap, _, _, mu_by_gap, _, fd, rfl, rfl, rfl, rfl, rfl, F, He.glo_ok X G (c.fact 19 (f := .glo "by_gap") rfl), sc_by_gap, eq_by_gap, FunD.bindsN F fun _ _ _ _ _ _ us hl => match us, hl with | [_, _, _, _], _ => rfl, rfl, id, fun z => nomatch z⟩
theorem hf_joined (X : K.In h) (G : h.Ns mainGlobals mg) (c : He.SaysD fa fn K) : HF K mg fns csts tab sp true tfs ("joined", 20, 3) := by
  obtain ⟨fd, F⟩ := c.def_ 20 (d := dd_joined) rfl
  exact ⟨di_joined, _, _, mu_joined, _, fd, rfl, rfl, rfl, rfl, rfl, F, He.glo_ok X G (c.fact 20 (f := .glo "joined") rfl), sc_joined, eq_joined, FunD.bindsN F fun _ _ _ _ _ _ us hl => match us, hl with | [_, _, _], _ => rfl, rfl, id, fun z => nomatch z⟩
theorem hf_is_straight (X : K.In h) (G : h.Ns mainGlobals mg) (c : He.SaysD fa fn K) : HF K mg fns csts tab sp true tfs ("is_straight", 21, 2) := by
  obtain ⟨fd, F⟩ := c.def_ 21 (d := dd_is_straight) rfl
  exact ⟨di_is_straight, _, _, mu_is_straight, _, fd, rfl, rfl, rfl, rfl, rfl, F, He.glo_ok X G (c.fact 21 (f := .glo "is_straight") rfl), sc_is_straight, eq_is_straight, FunD.bindsN F fun _ _ _ _ _ _ us hl => match us, hl with | [_, _], _ => rfl, rfl, id, fun z => nomatch z⟩
theorem hf__law_begin (X : K.In h) (G : h.Ns mainGlobals mg) (c : He.SaysD fa fn K) : HF K mg fns csts tab sp true tfs ("_law_begin", 22, 1) := by
  obtain ⟨fd, F⟩ := c.def_ 22 (d := dd__law_begin) rfl
  exact ⟨di__law_begin, _, _, mu__law_begin, _, fd, rfl, rfl, rfl, rfl, rfl, F, He.glo_ok X G (c.fact 22 (f := .glo "_law_begin") rfl), sc__law_begin, eq__law_begin, FunD.bindsN F fun _ _ _ _ _ _ us hl => match us, hl with | [_], _ => rfl, rfl, id, fun z => nomatch z⟩
theorem hf__law_take (X : K.In h) (G : h.Ns mainGlobals mg) (c : He.SaysD fa fn K) : HF K mg fns csts tab sp true tfs ("_law_take", 23, 2) := by
  obtain ⟨fd, F⟩ := c.def_ 23 (d := dd__law_take) rfl
  exact ⟨di__law_take, _, _, mu__law_take, _, fd, rfl, rfl, rfl, rfl, rfl, F, He.glo_ok X G (c.fact 23 (f := .glo "_law_take") rfl), sc__law_take, eq__law_take, FunD.bindsN F fun _ _ _ _ _ _ us hl => match us, hl with | [_, _], _ => rfl, rfl, id, fun z => nomatch z⟩
theorem hf__law_xor (X : K.In h) (G : h.Ns mainGlobals mg) (c : He.SaysD fa fn K) : HF K mg fns csts tab sp true tfs ("_law_xor", 25, 2) := by
  obtain ⟨fd, F⟩ := c.def_ 24 (d := dd__law_xor) rfl
  exact ⟨di__law_xor, _, _, mu__law_xor, _, fd, rfl, rfl, rfl, rfl, rfl, F, He.glo_ok X G (c.fact 24 (f := .glo "_law_xor") rfl), sc__law_xor, eq__law_xor, FunD.bindsN F fun _ _ _ _ _ _ us hl => match us, hl with | [_, _], _ => rfl, rfl, id, fun z => nomatch z⟩
theorem hf__law_and (X : K.In h) (G : h.Ns mainGlobals mg) (c : He.SaysD fa fn K) : HF K mg fns csts tab sp true tfs ("_law_and", 26, 2) := by
  obtain ⟨fd, F⟩ := c.def_ 25 (d := dd__law_and) rfl
  exact ⟨di__law_and, _, _, mu__law_and, _, fd, rfl, rfl, rfl, rfl, rfl, F, He.glo_ok X G (c.fact 25 (f := .glo "_law_and") rfl), sc__law_and, eq__law_and, FunD.bindsN F fun _ _ _ _ _ _ us hl => match us, hl with | [_, _], _ => rfl, rfl, id, fun z => nomatch z⟩
theorem hf__law_ones (X : K.In h) (G : h.Ns mainGlobals mg) (c : He.SaysD fa fn K) : HF K mg fns csts tab sp true tfs ("_law_ones", 27, 1) := by
  obtain ⟨fd, F⟩ := c.def_ 26 (d := dd__law_ones) rfl
  exact ⟨di__law_ones, _, _, mu__law_ones, _, fd, rfl, rfl, rfl, rfl, rfl, F, He.glo_ok X G (c.fact 26 (f := .glo "_law_ones") rfl), sc__law_ones, eq__law_ones, FunD.bindsN F fun _ _ _ _ _ _ us hl => match us, hl with | [_], _ => rfl, rfl, id, fun z => nomatch z⟩
theorem hf__law_box (X : K.In h) (G : h.Ns mainGlobals mg) (c : He.SaysD fa fn K) : HF K mg fns csts tab sp true tfs ("_law_box", 28, 2) := by
  obtain ⟨fd, F⟩ := c.def_ 27 (d := dd__law_box) rfl
  exact ⟨di__law_box, _, _, mu__law_box, _, fd, rfl, rfl, rfl, rfl, rfl, F, He.glo_ok X G (c.fact 27 (f := .glo "_law_box") rfl), sc__law_box, eq__law_box, FunD.bindsN F fun _ _ _ _ _ _ us hl => match us, hl with | [_, _], _ => rfl, rfl, id, fun z => nomatch z⟩
theorem hf__law_wrong (X : K.In h) (G : h.Ns mainGlobals mg) (c : He.SaysD fa fn K) : HF K mg fns csts tab sp true tfs ("_law_wrong", 29, 0) := by
  obtain ⟨fd, F⟩ := c.def_ 28 (d := dd__law_wrong) rfl
  exact ⟨di__law_wrong, _, _, mu__law_wrong, _, fd, rfl, rfl, rfl, rfl, rfl, F, He.glo_ok X G (c.fact 28 (f := .glo "_law_wrong") rfl), sc__law_wrong, eq__law_wrong, FunD.bindsN F fun _ _ _ _ _ _ us hl => match us, hl with | [], _ => rfl, rfl, id, fun _ => ⟨rfl, by decide +kernel, rfl⟩⟩
theorem hf__law_part1 (X : K.In h) (G : h.Ns mainGlobals mg) (c : He.SaysD fa fn K) : HF K mg fns csts tab sp true tfs ("_law_part1", 30, 6) := by
  obtain ⟨fd, F⟩ := c.def_ 29 (d := dd__law_part1) rfl
  exact ⟨di__law_part1, _, _, mu__law_part1, _, fd, rfl, rfl, rfl, rfl, rfl, F, He.glo_ok X G (c.fact 29 (f := .glo "_law_part1") rfl), sc__law_part1, eq__law_part1, FunD.bindsN F fun _ _ _ _ _ _ us hl => match us, hl with | [_, _, _, _, _, _], _ => rfl, rfl, id, fun z => nomatch z⟩
theorem free (X : K.In h) (G : h.Ns mainGlobals mg) (c : He.SaysD fa fn K) : AllF (fun x => mg x = none) bNames := ⟨He.free_ok X G (c.fact 32 (f := .free "len") rfl), He.free_ok X G (c.fact 33 (f := .free "any") rfl), He.free_ok X G (c.fact 34 (f := .free "all") rfl), He.free_ok X G (c.fact 35 (f := .free "sum") rfl), He.free_ok X G (c.fact 36 (f := .free "max") rfl), He.free_ok X G (c.fact 37 (f := .free "min") rfl), He.free_ok X G (c.fact 38 (f := .free "abs") rfl), He.free_ok X G (c.fact 39 (f := .free "int") rfl), He.free_ok X G (c.fact 40 (f := .free "list") rfl), He.free_ok X G (c.fact 41 (f := .free "tuple") rfl), He.free_ok X G (c.fact 42 (f := .free "range") rfl), He.free_ok X G (c.fact 43 (f := .free "enumerate") rfl), He.free_ok X G (c.fact 44 (f := .free "zip") rfl), He.free_ok X G (c.fact 45 (f := .free "sorted") rfl), He.free_ok X G (c.fact 46 (f := .free "set") rfl), trivial⟩
theorem cst (X : K.In h) (G : h.Ns mainGlobals mg) (e : ex K = true) : AllF (HC K mg) csts := cstB_ok X G (Bool.and_eq_true_iff.mp e).2
theorem toldF [TabL] (w : World) (X : K.In h) (G : h.Ns mainGlobals mg) (c : He.SaysD fa fn K) (e : excB PySem.Challenge.pw_secrethall_k19_whole_boxes K = true) : ToldF K mg (He.ga K "SecretError") := by
  obtain ⟨fd, F⟩ := c.def_ 31 (d := dd__law_told) rfl
  exact told_ok (h := h) w (base := h) (a := "call") (n := "e") F (He.glo_ok X G (c.fact 31 (f := .glo "_law_told") rfl)) e X G (by kernel_rfl) ⟨by kernel_rfl, by kernel_rfl, by kernel_rfl, by decide +kernel, by kernel_rfl, by decide +kernel, by decide +kernel⟩
    (FunD.bindsN F fun _ _ _ _ _ _ us hl => match us, hl with | [_], _ => rfl) (by kernel_rfl) (.inl (by kernel_rfl)) (by kernel_rfl) (by decide +kernel) (by decide +kernel) (by decide +kernel) (by decide +kernel)
theorem pg [TabL] (X : K.In h) (G : h.Ns mainGlobals mg) (c : He.SaysD fa fn K) (e : ex K = true) (base : Heap) (h3 : ∀ x ∈ tfs, LamX.TabB base mg (He.cT K (x, none)).1 (He.cT K (x, none)).2)
    (h4 : ∀ x ∈ tfs, ((He.cT K (x, none)).2, lamQ x) ∈ TabL.T) (h5 : ∀ x ∈ tfs, ∀ p ∈ TabL.T, p.1 = (He.cT K (x, none)).2 → p.2 = lamQ x) : PG PySem.Challenge.pw_secrethall_k19_whole_boxes w K mg base (He.ga K "SecretError") fns csts tab sp true tfs :=
  .of (fun x hx => (free X G c).mem hx) (cst X G e) ⟨hf_check X G c, hf_power_of X G c, hf_odd X G c, hf_is_order X G c, hf_turned X G c, hf_gaps X G c, hf_most_gap X G c, hf_masks X G c, hf_most_mask X G c, hf_far X G c, hf_forms X G c, hf_degree X G c, hf_size_of X G c, hf_check_half X G c, hf_rounds X G c, hf_back_rounds X G c, hf_whole_box X G c, hf_keyed X G c, hf_keys_for X G c, hf_by_gap X G c, hf_joined X G c, hf_is_straight X G c, hf__law_begin X G c, hf__law_take X G c, hf__law_xor X G c, hf__law_and X G c, hf__law_ones X G c, hf__law_box X G c, hf__law_wrong X G c, hf__law_part1 X G c, trivial⟩ (fun _ => (excB_ok (exB_exc (exL e)) X G).1) (fun _ => toldF w X G c (exB_exc (exL e))) h3 h4 h5
/-- the law's run, in plain terms -/
def Plain (most : Nat) : Prop := ∀ (ns : List Int), ns.length ≤ most → ∃ seed : Int, 0 ≤ seed ∧ (∀ s, ∃ s', FP 20 22 [.scr ns] s = .ok (.list [.list (ns.map .int), .int 0, .int 0, .int seed], s')) ∧ LawRun (FP 20) di_law 1 ir_law ns seed
theorem facts {f : Addr} {most : Nat} (hp : Plain most) (X : K.In h) (G : h.Ns mainGlobals mg) (hfa : mg ("law" : Str) = some (.ref f)) (c : He.SaysX fa fn [] tfd ex w h K) : ∃ fd : FuncData, (∀ (s : Shared) (v : Value), BindsTo s fd ⟨[v], []⟩ [("script", v)]) ∧
    ∀ base : Heap, K.In base → base.Ns mainGlobals mg → (∀ y ∈ tfs, LamX.TabB base mg (He.cT K (y, none)).1 (He.cT K (y, none)).2) → @FnOk PySem.Challenge.pw_secrethall_k19_whole_boxes w K mg base (L2.CX PySem.Challenge.pw_secrethall_k19_whole_boxes w) 67 f fd ["script"] (@spLaw (tabL K tfs) K most) := by
  obtain ⟨fd, F⟩ := c.t.d.def_ 30 (d := dd_law) rfl
  have e := hfa.symm.trans (He.glo_ok X G (c.t.d.fact 30 (f := .glo "law") rfl))
  cases e
  have b := FunD.bindsA (ps := ["script"]) F fun _ _ _ _ _ _ us hl => match us, hl with | [_], _ => rfl
  refine ⟨fd, fun s v => b s [v] rfl, fun base h1 h2 h3 => ?_⟩
  letI : TabL := tabL K tfs
  have g := pg (w := w) X G c.t.d c.more base h3 (fun x hx => List.mem_map.mpr ⟨x, hx, rfl⟩) (fun x hx p hp e => by
    obtain ⟨y, hy, rfl⟩ := List.mem_map.mp hp
    rw [nodup_inj (exB_nd (exL c.more)) hy hx e])
  exact law_ok (d := di_law) (mu := mu_law) (y := "d") (k := 20) g F sc_law rfl rfl rfl id rfl (by kernel_rfl) eq_law (by kernel_rfl) (by kernel_rfl) (by kernel_rfl) (by kernel_rfl) (by decide) hp
end
theorem plain : Plain 63 := fun ns hl => by
  letI : TabL := ⟨[]⟩
  exact plain0 ns hl
end Row
open PySem PySem.W PySem.Calls PyProof.Rows
theorem PySem.Challenge.cw_secrethall_k19_whole_boxes_holds : PySem.Challenge.rw_secrethall_k19_whole_boxes.Holds := by
  w_on; o_law
  refine HandSHeadRun.head_any (r := OpenLaw.row PySem.Challenge.rw_secrethall_k19_whole_boxes) (q := view (OpenLaw.row PySem.Challenge.rw_secrethall_k19_whole_boxes).prog [36]) (H := Row.hk) (ob := Row.ob) (M := 20000) (loose := Row.loose) (d := HandSHeadRun.topDef (OpenLaw.row PySem.Challenge.rw_secrethall_k19_whole_boxes).prog 36) (kwd := []) Row.ob_eq
    (by kernel_rfl) (fun s => by kernel_rfl) Row.run (by kernel_rfl) (by kernel_rfl) (by kernel_rfl) (by rfl) (by first | assumption | decide +kernel) (by decide +kernel) ⟨rfl, rfl, rfl, rfl, rfl, by decide +kernel⟩ ?hw ?hc
  case hw => w_witness2
  case hc =>
    refine LamX.walk_ofTsE (l := PySem.Challenge.rw_secrethall_k19_whole_boxes) (n := 63) (k := 67) (x := "script") (CX := fun w => L2.CX PySem.Challenge.pw_secrethall_k19_whole_boxes w) rfl (by decide) (by kernel_rfl) ⟨rfl, by decide, by decide⟩ ?F (by letI : L2.DL.TabL := ⟨[]⟩; exact fun _ _ _ _ _ z => L2.DL.cx_no z)
    intro w mg fa h Y G hmg0
    obtain ⟨K, KX, c⟩ := Y
    have hmg : mg ("law" : PySem.Str) = some (.ref fa) := by
      have e : (HandSHeadRun.topDef (OpenLaw.row PySem.Challenge.rw_secrethall_k19_whole_boxes).prog 36).name = ("law" : PySem.Str) := by kernel_rfl
      rw [← e]
      exact hmg0
    obtain ⟨fd, hb, hF⟩ := Row.facts (w := w) (most := 63) Row.plain KX G hmg c
    exact ⟨K, KX, L2.DL.lawAt_of (tfs := Row.tfs) KX (fun y hy => c.empty (y, none) (List.mem_map.mpr ⟨y, hy, rfl⟩ : (y, none) ∈ Row.tfs.map fun z => (z, none))) (fun y hy => c.out (y, none) (List.mem_map.mpr ⟨y, hy, rfl⟩ : (y, none) ∈ Row.tfs.map fun z => (z, none))) (fun y hy => c.hd (y, none) (List.mem_map.mpr ⟨y, hy, rfl⟩ : (y, none) ∈ Row.tfs.map fun z => (z, none))) hb hF⟩
