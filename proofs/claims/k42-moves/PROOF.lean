import PyProof.Rows.All
import Wide.All
import OpenK.AllK
import Wide.FinOn
import HandS.ForMost
import HandS.Lambda
import HandS.Walk
import HandS.TupAny
import PyProof.DictKeyH
import PyProof.DictRoadsH
import HandS.IsInst
import HandS.Deep
import PyProof.P3In
import HandS.Strs
import HandS.DictComp
import HandS.WordsExc
import HandS.Conv
import HandS.Defaults
import HandS.TupLe
import HandS.Zip
import HandS.HeadHook2
import KE.KStateDown
import HandS.Head0
import HandS.Head1
import HandS.Head2
import HandS.HeadEnd
import HandS.HeadHook1
import HandS.HeadHook3
import HandS.HeadHook4
import HandS.Wide
import KE.KMinKey
import KE.KDictDisplayH
import PyProof.Rows.TupTab
import HandS.TupSets
import HandS.Sort
import HandS.Style
import KE.GoesMore
import HandS.EndTab
import HandS.HeadWalk
import HandS.NestedK
import PySem.Challenge.RW_eachinturn_k42_whole_moves_exactly_if_ri
set_option Elab.async false
set_option linter.all false
set_option maxRecDepth 100000
set_option maxHeartbeats 4000000
/-! Text KmLogic -/
/-! A small logic over the layer: what a reading does is told by data. Slots hold data that never changes, or pointers; what may change stands by its address. -/
namespace Km
open PySem PySem.Spec PyProof.Rows L2 LamX

/-! ### data that never changes: ints, texts, truth values, None, and tuples of such -/
/-- a tuple that stands for good, its object known to have no dict of its own -/
def Tu (H : Hp) (a : Addr) (xs : List V) : Prop := ∃ o : Obj, H a = some (.frz o (.tup xs)) ∧ o.dict = none
theorem Tu.sq {K : PySem.W.Frag} {H : Hp} {a : Addr} {xs : List V} (h : Tu H a xs) : SqT K H a xs := let ⟨o, h, _⟩ := h; .inl (.inr ⟨o, h⟩)
mutual
inductive T (H : Hp) : V → PyData → Prop
  | non : T H .non .none
  | bl (b : Bool) : T H (.bl b) (.bool b)
  | int (i : Int) : T H (.int i) (.int i)
  | str (x : Str) : T H (.str x) (.str x)
  | tup {a : Addr} {xs : List V} {ds : List PyData} : Tu H a xs → TAs H xs ds → T H (.ref a) (.tuple ds)
inductive TAs (H : Hp) : List V → List PyData → Prop
  | nil : TAs H [] []
  | cons {x : V} {xs : List V} {d : PyData} {ds : List PyData} : T H x d → TAs H xs ds → TAs H (x :: xs) (d :: ds)
end
/-- the tuples stay -/
def TupEx (H H' : Hp) : Prop := ∀ a o xs, H a = some (.frz o (.tup xs)) → H' a = some (.frz o (.tup xs))
theorem TupEx.refl (H : Hp) : TupEx H H := fun _ _ _ h => h
theorem TupEx.trans {H H1 H2 : Hp} (a : TupEx H H1) (b : TupEx H1 H2) : TupEx H H2 := fun c o x h => b c o x (a c o x h)
theorem TupEx.tu {H H' : Hp} (e : TupEx H H') {a : Addr} {xs : List V} (h : Tu H a xs) : Tu H' a xs := let ⟨o, h, n⟩ := h; ⟨o, e a o xs h, n⟩
mutual
theorem T.mono {H H' : Hp} (e : TupEx H H') : ∀ {v : V} {d : PyData}, T H v d → T H' v d
  | _, _, .non => .non
  | _, _, .bl b => .bl b
  | _, _, .int i => .int i
  | _, _, .str x => .str x
  | _, _, .tup h t => .tup (e.tu h) (TAs.mono e t)
theorem TAs.mono {H H' : Hp} (e : TupEx H H') : ∀ {xs : List V} {ds : List PyData}, TAs H xs ds → TAs H' xs ds
  | _, _, .nil => .nil
  | _, _, .cons h t => .cons (T.mono e h) (TAs.mono e t)
end
mutual
theorem T.dp {K : PySem.W.Frag} {H : Hp} : ∀ {v : V} {d : PyData}, T H v d → Dp K H v d
  | _, _, .non => .non
  | _, _, .bl b => .bl b
  | _, _, .int i => .int i
  | _, _, .str x => .str x
  | _, _, .tup h t => .tup h.sq (TAs.dp t)
theorem TAs.dp {K : PySem.W.Frag} {H : Hp} : ∀ {xs : List V} {ds : List PyData}, TAs H xs ds → DpAll K H xs ds
  | _, _, .nil => .nil
  | _, _, .cons h t => .cons (T.dp h) (TAs.dp t)
end
theorem TAs.length {H : Hp} : ∀ {xs : List V} {ds : List PyData}, TAs H xs ds → xs.length = ds.length
  | _, _, .nil => rfl
  | _, _, .cons _ t => by rw [List.length_cons, List.length_cons, TAs.length t]
theorem TAs.get {H : Hp} : ∀ {xs : List V} {ds : List PyData} {i : Nat} {d : PyData}, TAs H xs ds → ds[i]? = some d → ∃ x, xs[i]? = some x ∧ T H x d
  | _, _, _, _, .nil, e => by simp at e
  | _, _, 0, _, .cons h _, e => by
    have e' := Option.some.inj e
    subst e'
    exact ⟨_, rfl, h⟩
  | _, _, i + 1, _, .cons _ t, e => TAs.get (i := i) t e
theorem TAs.at_ {H : Hp} : ∀ {xs : List V} {ds : List PyData} {i : Nat} {x : V}, TAs H xs ds → xs[i]? = some x → ∃ d, ds[i]? = some d ∧ T H x d
  | _, _, _, _, .nil, e => by simp at e
  | _, _, 0, _, .cons h _, e => by
    have e' := Option.some.inj e
    subst e'
    exact ⟨_, rfl, h⟩
  | _, _, i + 1, _, .cons _ t, e => TAs.at_ (i := i) t e
theorem TAs.app {H : Hp} : ∀ {xs ys : List V} {ds es : List PyData}, TAs H xs ds → TAs H ys es → TAs H (xs ++ ys) (ds ++ es)
  | _, _, _, _, .nil, b => b
  | _, _, _, _, .cons h t, b => .cons h (TAs.app t b)
theorem TAs.one {H : Hp} {x : V} {d : PyData} (h : T H x d) : TAs H [x] [d] := .cons h .nil
theorem TAs.take {H : Hp} : ∀ {xs : List V} {ds : List PyData} (n : Nat), TAs H xs ds → TAs H (xs.take n) (ds.take n)
  | _, _, 0, _ => by simpa using TAs.nil
  | _, _, _ + 1, .nil => .nil
  | _, _, n + 1, .cons h t => .cons h (TAs.take n t)
theorem TAs.drop {H : Hp} : ∀ {xs : List V} {ds : List PyData} (n : Nat), TAs H xs ds → TAs H (xs.drop n) (ds.drop n)
  | _, _, 0, h => h
  | _, _, _ + 1, .nil => .nil
  | _, _, n + 1, .cons _ t => TAs.drop n t
theorem TAs.dropLast {H : Hp} {xs : List V} {ds : List PyData} (h : TAs H xs ds) : TAs H xs.dropLast ds.dropLast := by
  rw [List.dropLast_eq_take, List.dropLast_eq_take, h.length]
  exact h.take _
theorem TAs.erase {H : Hp} {xs : List V} {ds : List PyData} (h : TAs H xs ds) (i : Nat) : TAs H (xs.eraseIdx i) (ds.eraseIdx i) := by
  rw [List.eraseIdx_eq_take_drop_succ, List.eraseIdx_eq_take_drop_succ]
  exact (h.take i).app (h.drop (i + 1))
theorem TAs.rev {H : Hp} {xs : List V} {ds : List PyData} (h : TAs H xs ds) : TAs H xs.reverse ds.reverse := by
  induction xs generalizing ds with
  | nil =>
    cases h
    exact .nil
  | cons x xs ih =>
    cases h with
    | cons h t =>
      rw [List.reverse_cons, List.reverse_cons]
      exact (ih t).app (.one h)
/-- texts, ints: the values are the data -/
theorem TAs.strs {H : Hp} : ∀ {xs : List V} {zs : List Str}, TAs H xs (zs.map .str) → xs = zs.map .str
  | _, [], h => by
    cases h
    rfl
  | _, z :: zs, h => by
    cases h with
    | cons h t =>
      cases h
      rw [List.map_cons, TAs.strs t]
theorem TAs.ofStrs {H : Hp} : ∀ zs : List Str, TAs H (zs.map .str) (zs.map .str)
  | [] => .nil
  | z :: zs => .cons (.str z) (TAs.ofStrs zs)
theorem TAs.ints {H : Hp} : ∀ {xs : List V} {zs : List Int}, TAs H xs (zs.map .int) → xs = zs.map .int
  | _, [], h => by
    cases h
    rfl
  | _, z :: zs, h => by
    cases h with
    | cons h t =>
      cases h
      rw [List.map_cons, TAs.ints t]
theorem TAs.ofInts {H : Hp} : ∀ zs : List Int, TAs H (zs.map .int) (zs.map .int)
  | [] => .nil
  | z :: zs => .cons (.int z) (TAs.ofInts zs)
theorem TAs.bools {H : Hp} : ∀ {xs : List V} {zs : List Bool}, TAs H xs (zs.map .bool) → xs = zs.map .bl
  | _, [], h => by
    cases h
    rfl
  | _, z :: zs, h => by
    cases h with
    | cons h t =>
      cases h
      rw [List.map_cons, TAs.bools t]
theorem T.tupv {H : Hp} {v : V} {ds : List PyData} (h : T H v (.tuple ds)) : ∃ a xs, v = .ref a ∧ Tu H a xs ∧ TAs H xs ds := by
  cases h with
  | tup h t => exact ⟨_, _, rfl, h, t⟩
theorem T.intv {H : Hp} {v : V} {i : Int} (h : T H v (.int i)) : v = .int i := by
  cases h
  rfl
theorem T.strv {H : Hp} {v : V} {z : Str} (h : T H v (.str z)) : v = .str z := by
  cases h
  rfl
theorem T.blv {H : Hp} {v : V} {b : Bool} (h : T H v (.bool b)) : v = .bl b := by
  cases h
  rfl
theorem T.nonv {H : Hp} {v : V} (h : T H v .none) : v = .non := by
  cases h
  rfl

/-! ### objects that may change -/
inductive Ob where
  | ls (ds : List PyData)
  | dk (kvs : List (Str × Int))
  | dT (P : Program) (w : World) (ks : List (List Str))
  | fz (o : Obj) (kvs : List (Str × Int))
  | mi (C dx : Addr)
  | mv (C dx : Addr) (web held : PyData) (m : Addr)
  | own (x : Addr)
  | sq (K : PySem.W.Frag) (ns : List Int)
abbrev Om := List (Addr × Ob)
def kvV (kvs : List (Str × Int)) : List (Key × V) := kvs.map fun p => (Sum.inr p.1, V.int p.2)
/-- a dict whose keys are tuples that stand for good: its object, by the tuples' places -/
def DtO (P : Program) (w : World) (d : Addr) (xs : List (List Key × Addr × Value)) (h : Heap) : Prop :=
  (d == sysModules) = false ∧ xs.length ≤ sizeLine ∧ (xs.map (·.1)).Nodup ∧ ∃ (o : Obj) (es : Array DictEntry) (ep : Nat), h.get? d = some o ∧ o.ExactDict ∧ o.data = .dict es ep ∧ es.toList = xs.map (entryOfKey (tupleKind (mixKind P w)))
def mvF (v1 v2 : V) (m : Addr) : List (Str × V) := [("web", v1), ("held", v2), ("moves", .ref m)]
def ObOk (H : Hp) (a : Addr) : Ob → Prop
  | .ls ds => ∃ xs, H a = some (.lst xs) ∧ TAs H xs ds
  | .dk kvs => H a = some (.dK (kvV kvs))
  | .dT P w ks => ∃ xs, H a = some (.ext (DtO P w a xs)) ∧ xs.map (·.1) = ks.map (fun k => k.map Sum.inr) ∧ ∀ q ∈ xs, Tu H q.2.1 (q.1.map kV)
  | .fz o kvs => H a = some (.frz o (.dK (kvV kvs)))
  | .mi C dx => H a = some (.ins C dx [])
  | .mv C dx w h m => ∃ v1 v2, H a = some (.ins C dx (mvF v1 v2 m)) ∧ T H v1 w ∧ T H v2 h
  | .own x => H a = some (.own x)
  | .sq _ _ => False
/-- neither a tuple nor a table -/
def Moves (u : HO) : Prop := (∀ o xs, u ≠ .frz o (.tup xs)) ∧ (∀ ps, u ≠ .tbl ps) ∧ ∀ c q, u ≠ CodeO c q
theorem dt_not_code {P : Program} {w : World} {d c : Addr} {q : Str} {xs : List (List Key × Addr × Value)} (h : (DtO P w d xs) = fun h => ∃ (oc : Obj) (vs : Array Value) (t : Tok), h.get? c = some oc ∧ oc.data = .fields vs ∧ vs[1]? = some (.str q t)) : False := by
  let ob : Obj := { cls := .none, data := .fields #[.none, .str q 0] }
  let g : Heap := { objs := Array.replicate (c + 1) ob }
  have hg : ∀ a o, g.get? a = some o → o = ob := by
    intro a o e
    have e0 : (Array.replicate (c + 1) ob)[a]? = some ob ∨ (Array.replicate (c + 1) ob)[a]? = none := by
      rw [Array.getElem?_replicate]
      split
      · exact .inl rfl
      · exact .inr rfl
    unfold Heap.get? at e
    rcases e0 with e0 | e0
    · rw [show g.objs[a]? = some ob from e0] at e
      exact (Option.some.inj e).symm
    · rw [show g.objs[a]? = none from e0] at e
      cases e
  have hc : g.get? c = some ob := by
    have e0 : (Array.replicate (c + 1) ob)[c]? = some ob := by
      rw [Array.getElem?_replicate, if_pos (Nat.lt_succ_self c)]
    unfold Heap.get?
    rw [show g.objs[c]? = some ob from e0]
  have t : DtO P w d xs g := by
    rw [h]
    exact ⟨ob, #[.none, .str q 0], 0, hc, rfl, rfl⟩
  obtain ⟨_, _, _, o, es, ep, e1, _, e2, _⟩ := t
  rw [hg d o e1] at e2
  cases e2
theorem ObOk.there {H : Hp} {a : Addr} {o : Ob} (h : ObOk H a o) : ∃ u, H a = some u ∧ Moves u := by
  cases o with
  | ls ds =>
    obtain ⟨xs, h, _⟩ := h
    exact ⟨_, h, (fun _ _ z => nomatch z), (fun _ z => nomatch z), (fun _ _ z => nomatch z)⟩
  | dk kvs => exact ⟨_, h, (fun _ _ z => nomatch z), (fun _ z => nomatch z), (fun _ _ z => nomatch z)⟩
  | dT P w ks =>
    obtain ⟨xs, h, _⟩ := h
    exact ⟨_, h, (fun _ _ z => nomatch z), (fun _ z => nomatch z), fun c q z => dt_not_code (HO.ext.inj z)⟩
  | fz o kvs => exact ⟨_, h, (fun _ _ z => nomatch z), (fun _ z => nomatch z), (fun _ _ z => nomatch z)⟩
  | mi C dx => exact ⟨_, h, (fun _ _ z => nomatch z), (fun _ z => nomatch z), (fun _ _ z => nomatch z)⟩
  | mv C dx w hd m =>
    obtain ⟨_, _, h, _⟩ := h
    exact ⟨_, h, (fun _ _ z => nomatch z), (fun _ z => nomatch z), (fun _ _ z => nomatch z)⟩
  | own x => exact ⟨_, h, (fun _ _ z => nomatch z), (fun _ z => nomatch z), (fun _ _ z => nomatch z)⟩
  | sq K ns => exact h.elim
theorem ObOk.mono {H H' : Hp} {a : Addr} {o : Ob} (h : ObOk H a o) (e : TupEx H H') (k : ∀ u, Moves u → H a = some u → H' a = some u) : ObOk H' a o := by
  cases o with
  | ls ds =>
    obtain ⟨xs, h, t⟩ := h
    exact ⟨xs, k _ ⟨(fun _ _ z => nomatch z), (fun _ z => nomatch z), (fun _ _ z => nomatch z)⟩ h, t.mono e⟩
  | dk kvs => exact k _ ⟨(fun _ _ z => nomatch z), (fun _ z => nomatch z), (fun _ _ z => nomatch z)⟩ h
  | dT P w ks =>
    obtain ⟨xs, h, e1, e2⟩ := h
    exact ⟨xs, k _ ⟨(fun _ _ z => nomatch z), (fun _ z => nomatch z), fun c q z => dt_not_code (HO.ext.inj z)⟩ h, e1, fun q hq => e.tu (e2 q hq)⟩
  | fz o kvs => exact k _ ⟨(fun _ _ z => nomatch z), (fun _ z => nomatch z), (fun _ _ z => nomatch z)⟩ h
  | mi C dx => exact k _ ⟨(fun _ _ z => nomatch z), (fun _ z => nomatch z), (fun _ _ z => nomatch z)⟩ h
  | mv C dx w hd m =>
    obtain ⟨v1, v2, h, t1, t2⟩ := h
    exact ⟨v1, v2, k _ ⟨(fun _ _ z => nomatch z), (fun _ z => nomatch z), (fun _ _ z => nomatch z)⟩ h, t1.mono e, t2.mono e⟩
  | own x => exact k _ ⟨(fun _ _ z => nomatch z), (fun _ z => nomatch z), (fun _ _ z => nomatch z)⟩ h
  | sq K ns => exact h.elim

/-- what stood stands; a table may have grown -/
structure Ext (H H' : Hp) : Prop where
  ex : ExtN H H'
  tb : ∀ b ps, H b = some (.tbl ps) → ∃ qs, H' b = some (.tbl qs)
theorem Ext.refl (H : Hp) : Ext H H := ⟨ExtN.refl H, fun _ ps h => ⟨ps, h⟩⟩
theorem Ext.trans {H H1 H2 : Hp} (a : Ext H H1) (b : Ext H1 H2) : Ext H H2 := ⟨a.ex.trans b.ex, fun c ps h => let ⟨qs, h1⟩ := a.tb c ps h; b.tb c qs h1⟩
theorem Ext.of {H H' : Hp} (e : Same H H') : Ext H H' := ⟨ExtN.of e, fun b ps h => ⟨ps, e _ _ h⟩⟩
theorem Ext.tup {H H' : Hp} (e : Ext H H') : TupEx H H' := fun a o xs h => e.ex a _ h fun _ z => nomatch z
theorem Ext.free {H H' : Hp} (e : Ext H H') {a : Addr} (h : H' a = none) : H a = none := by
  cases q : H a with
  | none => rfl
  | some u =>
    by_cases ht : ∃ ps, u = .tbl ps
    · obtain ⟨ps, rfl⟩ := ht
      obtain ⟨qs, h1⟩ := e.tb a ps q
      rw [h] at h1
      cases h1
    · rw [e.ex a u q fun ps z => ht ⟨ps, z⟩] at h
      cases h
theorem Ext.ob {H H' : Hp} (e : Ext H H') {a : Addr} {o : Ob} (h : ObOk H a o) : ObOk H' a o := h.mono e.tup fun u m q => e.ex a u q m.2.1
theorem same_new {H : Hp} {p : Addr} (h : H p = none) (o : HO) : Same H (upd H p o) := fun b u q => by
  rw [upd_ne (ne_of_none q h)]
  exact q

theorem set_self {α : Type} : ∀ {l : List α} {j : Nat} {a : α}, l[j]? = some a → l.set j a = l
  | [], _, _, _ => rfl
  | x :: l, 0, a, h => by
    have e : x = a := Option.some.inj h
    rw [e]
    rfl
  | x :: l, j + 1, a, h => by
    have ih := set_self (l := l) (j := j) (a := a) h
    show x :: l.set j a = x :: l
    rw [ih]
/-! ### symbolic states -/
inductive Sl where
  | un
  | dt (d : PyData)
  | pt (a : Addr)
  | bo (o : Ob)
/-- what a slot borrows; the law's own script is any list of ints that the layer can read -/
def BoOk (B : Hp) (a : Addr) (o : Ob) : Prop := ObOk B a o ∨ ∃ K ns, o = .sq K ns ∧ SqL K B a (ns.map V.int)
def SlOk (B H : Hp) (v : Option V) : Sl → Prop
  | .un => True
  | .dt d => ∃ x, v = some x ∧ T H x d
  | .pt a => v = some (.ref a)
  | .bo o => ∃ a, v = some (.ref a) ∧ BoOk B a o
theorem SlOk.mono {B H H' : Hp} {v : Option V} {s : Sl} (h : SlOk B H v s) (e : TupEx H H') : SlOk B H' v s := by
  cases s with
  | un => exact True.intro
  | dt d =>
    obtain ⟨x, h1, h2⟩ := h
    exact ⟨x, h1, h2.mono e⟩
  | pt a => exact h
  | bo o => exact h
/-- of what is handed back -/
def ROk (H : Hp) (v : V) : Sl → Prop
  | .un => True
  | .dt d => T H v d
  | .pt a => v = .ref a
  | .bo _ => False
theorem ROk.sl {B H : Hp} {v : V} {s : Sl} (h : ROk H v s) : SlOk B H (some v) s := by
  cases s with
  | un => exact True.intro
  | dt d => exact ⟨v, rfl, h⟩
  | pt a => exact congrArg some h
  | bo o => exact h.elim
variable (Tb : List (Addr × Str))
structure HeapOk (B H : Hp) (ω : Om) : Prop where
  ex : Ext B H
  tab : Tabs Tb H
  obs : ∀ p ∈ ω, ObOk H p.1 p.2 ∧ B p.1 = none
  nd : (ω.map (·.1)).Nodup
structure Sees (B : Hp) (σ : L2.St) (H : Hp) (δ : List Sl) (ω : Om) : Prop where
  hp : HeapOk Tb B H ω
  len : σ.length = δ.length
  sl : ∀ (i : Nat) (s : Sl), δ[i]? = some s → ∃ v, σ[i]? = some v ∧ SlOk B H v s
variable {Tb}
section
variable {B H H' : Hp} {σ : L2.St} {δ : List Sl} {ω ω' : Om}
theorem HeapOk.ext (h : HeapOk Tb B H ω) (e : Ext H H') (t : Tabs Tb H') : HeapOk Tb B H' ω :=
  ⟨h.ex.trans e, t, fun p hp => ⟨e.ob (h.obs p hp).1, (h.obs p hp).2⟩, h.nd⟩
theorem Sees.ext (h : Sees Tb B σ H δ ω) (e : Ext H H') (t : Tabs Tb H') : Sees Tb B σ H' δ ω :=
  ⟨h.hp.ext e t, h.len, fun i s q => let ⟨v, h1, h2⟩ := h.sl i s q; ⟨v, h1, h2.mono e.tup⟩⟩
theorem HeapOk.same (h : HeapOk Tb B H ω) (e : Same H H') : HeapOk Tb B H' ω := h.ext (.of e) (h.tab.ext e)
theorem Sees.same (h : Sees Tb B σ H δ ω) (e : Same H H') : Sees Tb B σ H' δ ω := h.ext (.of e) (h.hp.tab.ext e)
theorem HeapOk.drop (h : HeapOk Tb B H ω) (d : ω'.Sublist ω) : HeapOk Tb B H ω' :=
  ⟨h.ex, h.tab, fun p hp => h.obs p (d.subset hp), h.nd.sublist (d.map _)⟩
theorem HeapOk.perm (h : HeapOk Tb B H ω) (d : ω'.Perm ω) : HeapOk Tb B H ω' :=
  ⟨h.ex, h.tab, fun p hp => h.obs p (d.mem_iff.mp hp), (d.map _).nodup_iff.mpr h.nd⟩
theorem Sees.drop (h : Sees Tb B σ H δ ω) (d : ω'.Sublist ω) : Sees Tb B σ H δ ω' := ⟨h.hp.drop d, h.len, h.sl⟩
theorem HeapOk.none_of (h : HeapOk Tb B H ω) {a : Addr} (n : H a = none) : B a = none := h.ex.free n
/-- a new object -/
theorem HeapOk.new (h : HeapOk Tb B H ω) {a : Addr} {o : Ob} (e : Same H H') (n : H a = none) (ho : ObOk H' a o) : HeapOk Tb B H' ((a, o) :: ω) := by
  have h1 := h.same e
  refine ⟨h1.ex, h1.tab, fun p hp => ?_, ?_⟩
  · rcases List.mem_cons.mp hp with z | hp
    · rw [z]
      exact ⟨ho, h.none_of n⟩
    · exact h1.obs p hp
  · rw [List.map_cons]
    refine List.nodup_cons.mpr ⟨fun z => ?_, h1.nd⟩
    obtain ⟨p, hp, e2⟩ := List.mem_map.mp z
    obtain ⟨u, hu, _⟩ := ((h.obs p hp).1).there
    rw [e2] at hu
    rw [show H a = some u from hu] at n
    cases n
/-- an owned object is changed -/
theorem HeapOk.put (h : HeapOk Tb B H ω) {j : Nat} {a : Addr} {o o' : Ob} {u : HO} (hj : ω[j]? = some (a, o)) (ho : ObOk (upd H a u) a o') : HeapOk Tb B (upd H a u) (ω.set j (a, o')) ∧ TupEx H (upd H a u) := by
  have hm : (a, o) ∈ ω := List.mem_of_getElem? hj
  obtain ⟨ha, hb⟩ := h.obs _ hm
  obtain ⟨u0, hu0, hmv⟩ := ha.there
  have keep : ∀ b v, H b = some v → ¬ Moves v → b ≠ a := fun b v hv nm z => by
    subst z
    rw [hu0] at hv
    exact nm (Option.some.inj hv ▸ hmv)
  have te : TupEx H (upd H a u) := fun b o xs hx => by
    rw [upd_ne (keep b _ hx fun m => m.1 _ _ rfl)]
    exact hx
  have nb : ∀ b v, B b = some v → b ≠ a := fun b v hv z => by
    subst z
    rw [hb] at hv
    cases hv
  refine ⟨⟨⟨fun b v hv nt => ?_, fun b ps hp => ?_⟩, fun p hp => ?_, fun p hp => ?_, ?_⟩, te⟩
  · rw [upd_ne (nb b v hv)]
    exact h.ex.ex b v hv nt
  · obtain ⟨qs, hq⟩ := h.ex.tb b ps hp
    exact ⟨qs, by rw [upd_ne (nb b _ hp)]; exact hq⟩
  · obtain ⟨ps, h1, h2, h3⟩ := h.tab p hp
    refine ⟨ps, by rw [upd_ne (keep _ _ h1 fun m => m.2.1 _ rfl)]; exact h1, h2, fun pos cv hc => ?_⟩
    obtain ⟨c, e1, e2⟩ := h3 pos cv hc
    exact ⟨c, e1, by rw [upd_ne (keep _ _ e2 fun m => m.2.2 _ _ rfl)]; exact e2⟩
  · obtain ⟨k, hk, e⟩ := List.getElem_of_mem hp
    rw [List.getElem_set] at e
    by_cases hkj : j = k
    · rw [if_pos hkj] at e
      rw [← e]
      exact ⟨ho, hb⟩
    · rw [if_neg hkj] at e
      have hk' : k < ω.length := by simpa using hk
      have hpm : p ∈ ω := by
        rw [← e]
        exact List.getElem_mem hk'
      have hpa : p.1 ≠ a := fun z => by
        have hjl : j < ω.length := (List.getElem?_eq_some_iff.mp hj).1
        have hje : ω[j] = (a, o) := (List.getElem?_eq_some_iff.mp hj).2
        have h1 : (ω.map (·.1))[j]'(by simpa using hjl) = a := by simp [hje]
        have h2 : (ω.map (·.1))[k]'(by simpa using hk') = a := by simp [e, z]
        exact hkj ((List.getElem_inj h.nd).mp (h1.trans h2.symm))
      obtain ⟨h1, h2⟩ := h.obs p hpm
      exact ⟨h1.mono te fun v _ hv => by rw [upd_ne hpa]; exact hv, h2⟩
  · have e : (ω.set j (a, o')).map (·.1) = ω.map (·.1) := by
      rw [List.map_set]
      have : (ω.map (·.1))[j]? = some a := by rw [List.getElem?_map, hj]; rfl
      exact set_self this
    rw [e]
    exact h.nd
theorem Sees.new (h : Sees Tb B σ H δ ω) {a : Addr} {o : Ob} (e : Same H H') (n : H a = none) (ho : ObOk H' a o) : Sees Tb B σ H' δ ((a, o) :: ω) :=
  ⟨h.hp.new e n ho, h.len, (h.same e).sl⟩
theorem Sees.put (h : Sees Tb B σ H δ ω) {j : Nat} {a : Addr} {o o' : Ob} {u : HO} (hj : ω[j]? = some (a, o)) (ho : ObOk (upd H a u) a o') : Sees Tb B σ (upd H a u) δ (ω.set j (a, o')) ∧ TupEx H (upd H a u) := by
  obtain ⟨h1, te⟩ := h.hp.put hj ho
  exact ⟨⟨h1, h.len, fun i s q => let ⟨v, e1, e2⟩ := h.sl i s q; ⟨v, e1, e2.mono te⟩⟩, te⟩
theorem Sees.set (h : Sees Tb B σ H δ ω) {v : V} {s : Sl} (i : Nat) (hs : SlOk B H (some v) s) : Sees Tb B (σ.set i (some v)) H (δ.set i s) ω := by
  refine ⟨h.hp, by simp [h.len], fun j t q => ?_⟩
  rw [List.getElem?_set] at q
  by_cases hij : i = j
  · subst hij
    rw [if_pos rfl] at q
    split at q
    · rename_i hi
      cases q
      exact ⟨some v, by rw [List.getElem?_set_self (by rw [h.len]; exact hi)], hs⟩
    · cases q
  · rw [if_neg hij] at q
    obtain ⟨x, h1, h2⟩ := h.sl j t q
    exact ⟨x, by rw [List.getElem?_set_ne hij]; exact h1, h2⟩
theorem Sees.unset (h : Sees Tb B σ H δ ω) (i : Nat) : Sees Tb B (σ.set i none) H (δ.set i .un) ω := by
  refine ⟨h.hp, by simp [h.len], fun j t q => ?_⟩
  rw [List.getElem?_set] at q
  by_cases hij : i = j
  · subst hij
    rw [if_pos rfl] at q
    split at q
    · rename_i hi
      cases q
      exact ⟨none, by rw [List.getElem?_set_self (by rw [h.len]; exact hi)], True.intro⟩
    · cases q
  · rw [if_neg hij] at q
    obtain ⟨x, h1, h2⟩ := h.sl j t q
    exact ⟨x, by rw [List.getElem?_set_ne hij]; exact h1, h2⟩
/-- what is known of a slot is forgotten -/
theorem Sees.weak (h : Sees Tb B σ H δ ω) {δ' : List Sl} (hl : δ'.length = δ.length) (hw : ∀ (i : Nat) (s : Sl), δ'[i]? = some s → s = .un ∨ δ[i]? = some s) : Sees Tb B σ H δ' ω := by
  refine ⟨h.hp, h.len.trans hl.symm, fun i s q => ?_⟩
  rcases hw i s q with e | e
  · subst e
    have hi : i < σ.length := by
      rw [h.len, ← hl]
      exact (List.getElem?_eq_some_iff.mp q).1
    exact ⟨σ[i], List.getElem?_eq_getElem hi, True.intro⟩
  · exact h.sl i s e
end

/-- behind a step that keeps the tuples -/
theorem Sees.re {B H H' : Hp} {σ : L2.St} {δ : List Sl} {ω ω' : Om} (h : Sees Tb B σ H δ ω) (e : TupEx H H') (hp : HeapOk Tb B H' ω') : Sees Tb B σ H' δ ω' :=
  ⟨hp, h.len, fun i s q => let ⟨v, h1, h2⟩ := h.sl i s q; ⟨v, h1, h2.mono e⟩⟩
/-- several values -/
def SlsOk (B H : Hp) : List V → List Sl → Prop
  | [], [] => True
  | v :: vs, s :: ss => SlOk B H (some v) s ∧ SlsOk B H vs ss
  | _, _ => False
theorem SlsOk.mono {B H H' : Hp} (e : TupEx H H') : ∀ {vs : List V} {ss : List Sl}, SlsOk B H vs ss → SlsOk B H' vs ss
  | [], [], _ => True.intro
  | [], _ :: _, h => h.elim
  | _ :: _, [], h => h.elim
  | _ :: vs, _ :: ss, h => ⟨h.1.mono e, SlsOk.mono e (vs := vs) (ss := ss) h.2⟩
theorem SlsOk.len {B H : Hp} : ∀ {vs : List V} {ss : List Sl}, SlsOk B H vs ss → vs.length = ss.length
  | [], [], _ => rfl
  | [], _ :: _, h => h.elim
  | _ :: _, [], h => h.elim
  | _ :: vs, _ :: ss, h => by rw [List.length_cons, List.length_cons, SlsOk.len (vs := vs) (ss := ss) h.2]
theorem SlsOk.at_ {B H : Hp} : ∀ {vs : List V} {ss : List Sl}, SlsOk B H vs ss → ∀ (i : Nat) (s : Sl), ss[i]? = some s → ∃ v, vs[i]? = some v ∧ SlOk B H (some v) s
  | [], [], _, i, s, h => by simp at h
  | [], _ :: _, h, _, _, _ => h.elim
  | _ :: _, [], h, _, _, _ => h.elim
  | v :: vs, t :: ss, h, 0, s, e => by
    have e' := Option.some.inj e
    subst e'
    exact ⟨v, rfl, h.1⟩
  | v :: vs, t :: ss, h, i + 1, s, e => SlsOk.at_ (vs := vs) (ss := ss) h.2 i s e

/-! ### what a reading does -/
variable (Tb) in
def EX (te : TE) (δ : List Sl) (ω : Om) (Φ : Sl → Om → Prop) : Prop :=
  ∀ (B : Hp) (σ : L2.St) (H : Hp) (Q : VK), Sees Tb B σ H δ ω → (∀ v s ω' H', Φ s ω' → TupEx H H' → SlOk B H' (some v) s → HeapOk Tb B H' ω' → Q v H') → te σ H Q
variable (Tb) in
def ET (tt : TT) (δ : List Sl) (ω : Om) (Φ : Bool → Om → Prop) : Prop :=
  ∀ (B : Hp) (σ : L2.St) (H : Hp) (Q : Bool → Hp → Prop), Sees Tb B σ H δ ω → (∀ b ω' H', Φ b ω' → TupEx H H' → HeapOk Tb B H' ω' → Q b H') → tt σ H Q
variable (Tb) in
def EA (ta : L2.TA) (δ : List Sl) (ω : Om) (Φ : List Sl → Om → Prop) : Prop :=
  ∀ (B : Hp) (σ : L2.St) (H : Hp) (Q : List V → Hp → Prop), Sees Tb B σ H δ ω → (∀ vs ss ω' H', Φ ss ω' → TupEx H H' → SlsOk B H' vs ss → HeapOk Tb B H' ω' → Q vs H') → ta σ H Q
variable (Tb) in
def OX (r : R2) (s1 s2 : Sl) (ω : Om) (Φ : Sl → Om → Prop) : Prop :=
  ∀ (B H : Hp) (x y : V) (Q : VK), HeapOk Tb B H ω → SlOk B H (some x) s1 → SlOk B H (some y) s2 → (∀ v s ω' H', Φ s ω' → TupEx H H' → SlOk B H' (some v) s → HeapOk Tb B H' ω' → Q v H') → r x y H Q
variable (Tb) in
def UX (r : V → Hp → VK → Prop) (s1 : Sl) (ω : Om) (Φ : Sl → Om → Prop) : Prop :=
  ∀ (B H : Hp) (x : V) (Q : VK), HeapOk Tb B H ω → SlOk B H (some x) s1 → (∀ v s ω' H', Φ s ω' → TupEx H H' → SlOk B H' (some v) s → HeapOk Tb B H' ω' → Q v H') → r x H Q
variable (Tb) in
def KX (r : List V → Hp → VK → Prop) (ss : List Sl) (ω : Om) (Φ : Sl → Om → Prop) : Prop :=
  ∀ (B H : Hp) (vs : List V) (Q : VK), HeapOk Tb B H ω → SlsOk B H vs ss → (∀ v s ω' H', Φ s ω' → TupEx H H' → SlOk B H' (some v) s → HeapOk Tb B H' ω' → Q v H') → r vs H Q
section
variable {te ta tb tc : TE} {t u : TT} {tr : L2.TA} {δ : List Sl} {ω : Om} {Φ Ψ : Sl → Om → Prop} {Θ Θ' : Bool → Om → Prop} {Λ : List Sl → Om → Prop}
theorem EX.imp (h : EX Tb te δ ω Φ) (k : ∀ s ω', Φ s ω' → Ψ s ω') : EX Tb te δ ω Ψ := fun B σ H Q S q => h B σ H Q S fun v s ω' H' p => q v s ω' H' (k s ω' p)
theorem ET.imp (h : ET Tb t δ ω Θ) (k : ∀ b ω', Θ b ω' → Θ' b ω') : ET Tb t δ ω Θ' := fun B σ H Q S q => h B σ H Q S fun b ω' H' p => q b ω' H' (k b ω' p)
theorem ex_var {i : Nat} {s : Sl} (hi : δ[i]? = some s) (q : Φ s ω) (hs : s ≠ .un := by first | exact (fun z => nomatch z) | assumption) : EX Tb (tVar i) δ ω Φ := fun B σ H Q S k => by
  obtain ⟨v, h1, h2⟩ := S.sl i s hi
  cases v with
  | none =>
    cases s with
    | un => exact absurd rfl hs
    | dt d =>
      obtain ⟨x, e, _⟩ := h2
      cases e
    | pt a => cases h2
    | bo o =>
      obtain ⟨x, e, _⟩ := h2
      cases e
  | some x => exact ⟨x, h1, k x s ω H q (TupEx.refl H) h2 S.hp⟩
theorem ex_int {i : Int} (q : Φ (.dt (.int i)) ω) : EX Tb (tC (.int i)) δ ω Φ := fun B σ H Q S k => k _ _ ω H q (TupEx.refl H) ⟨_, rfl, .int i⟩ S.hp
theorem ex_str {x : Str} (q : Φ (.dt (.str x)) ω) : EX Tb (tC (.str x)) δ ω Φ := fun B σ H Q S k => k _ _ ω H q (TupEx.refl H) ⟨_, rfl, .str x⟩ S.hp
theorem ex_bl {b : Bool} (q : Φ (.dt (.bool b)) ω) : EX Tb (tC (.bl b)) δ ω Φ := fun B σ H Q S k => k _ _ ω H q (TupEx.refl H) ⟨_, rfl, .bl b⟩ S.hp
theorem ex_non (q : Φ (.dt .none) ω) : EX Tb (tC .non) δ ω Φ := fun B σ H Q S k => k _ _ ω H q (TupEx.refl H) ⟨_, rfl, .non⟩ S.hp
/-- a built-in class as a value: nothing is known of it but itself -/
theorem ex_op {r : R2} (ha : EX Tb ta δ ω fun s1 ω1 => EX Tb tb δ ω1 fun s2 ω2 => OX Tb r s1 s2 ω2 Φ) : EX Tb (tOp r ta tb) δ ω Φ := fun B σ H Q S k =>
  ha B σ H _ S fun x s1 ω1 H1 h1 e1 k1 p1 => h1 B σ H1 _ (S.re e1 p1) fun y s2 ω2 H2 h2 e2 k2 p2 =>
    h2 B H2 x y Q p2 (k1.mono e2) k2 fun v s ω' H' q e3 => k v s ω' H' q ((e1.trans e2).trans e3)
theorem ex_un {r : V → Hp → VK → Prop} (ha : EX Tb ta δ ω fun s1 ω1 => UX Tb r s1 ω1 Φ) : EX Tb (tUn r ta) δ ω Φ := fun B σ H Q S k =>
  ha B σ H _ S fun x s1 ω1 H1 h1 e1 k1 p1 => h1 B H1 x Q p1 k1 fun v s ω' H' q e3 => k v s ω' H' q (e1.trans e3)
theorem ea_nil (q : Λ [] ω) : EA Tb tNil δ ω Λ := fun B σ H Q S k => k [] [] ω H q (TupEx.refl H) True.intro S.hp
theorem ea_cons (h : EX Tb te δ ω fun s ω1 => EA Tb tr δ ω1 fun ss ω2 => Λ (s :: ss) ω2) : EA Tb (tCons te tr) δ ω Λ := fun B σ H Q S k =>
  h B σ H _ S fun x s ω1 H1 h1 e1 k1 p1 => h1 B σ H1 _ (S.re e1 p1) fun vs ss ω2 H2 h2 e2 k2 p2 => k (x :: vs) (s :: ss) ω2 H2 h2 (e1.trans e2) ⟨k1.mono e2, k2⟩ p2
theorem ex_cb {r : List V → Hp → VK → Prop} (h : EA Tb tr δ ω fun ss ω1 => KX Tb r ss ω1 Φ) : EX Tb (tCB r tr) δ ω Φ := fun B σ H Q S k =>
  h B σ H _ S fun vs ss ω1 H1 h1 e1 k1 p1 => h1 B H1 vs Q p1 k1 fun v s ω' H' q e3 => k v s ω' H' q (e1.trans e3)
/-! ### tests -/
theorem et_val (h : EX Tb te δ ω fun s ω1 => ∃ b, s = .dt (.bool b) ∧ Θ b ω1) : ET Tb (tB te) δ ω Θ := fun B σ H Q S k =>
  h B σ H _ S fun v s ω1 H1 h1 e1 k1 p1 => by
    obtain ⟨b, rfl, q⟩ := h1
    obtain ⟨x, e, t⟩ := k1
    cases e
    exact ⟨b, t.blv, k b ω1 H1 q e1 p1⟩
theorem et_test (h : EX Tb te δ ω fun s ω1 => ∃ b, s = .dt (.bool b) ∧ Θ b ω1) : ET Tb (tTest te) δ ω Θ := fun B σ H Q S k =>
  h B σ H _ S fun v s ω1 H1 h1 e1 k1 p1 => by
    obtain ⟨b, rfl, q⟩ := h1
    obtain ⟨x, e, t⟩ := k1
    cases e
    exact ⟨b, t.blv, k b ω1 H1 q e1 p1⟩
theorem et_and (h : ET Tb t δ ω fun b ω1 => if b = true then ET Tb u δ ω1 Θ else Θ false ω1) : ET Tb (tAnd t u) δ ω Θ := fun B σ H Q S k =>
  h B σ H _ S fun b ω1 H1 h1 e1 p1 => by
    cases b with
    | true => exact h1 B σ H1 Q (S.re e1 p1) fun b ω2 H2 q e2 p2 => k b ω2 H2 q (e1.trans e2) p2
    | false => exact k false ω1 H1 h1 e1 p1
theorem et_or (h : ET Tb t δ ω fun b ω1 => if b = true then Θ true ω1 else ET Tb u δ ω1 Θ) : ET Tb (tOr t u) δ ω Θ := fun B σ H Q S k =>
  h B σ H _ S fun b ω1 H1 h1 e1 p1 => by
    cases b with
    | true => exact k true ω1 H1 h1 e1 p1
    | false => exact h1 B σ H1 Q (S.re e1 p1) fun b ω2 H2 q e2 p2 => k b ω2 H2 q (e1.trans e2) p2
theorem et_not (h : ET Tb t δ ω fun b ω1 => Θ (!b) ω1) : ET Tb (tNot t) δ ω Θ := fun B σ H Q S k => h B σ H _ S fun b ω1 H1 h1 e1 p1 => k (!b) ω1 H1 h1 e1 p1
theorem ex_and (h : EX Tb ta δ ω fun s ω1 => ∃ b, s = .dt (.bool b) ∧ if b = true then EX Tb tb δ ω1 Φ else Φ (.dt (.bool false)) ω1) : EX Tb (tAndV ta tb) δ ω Φ := fun B σ H Q S k =>
  h B σ H _ S fun v s ω1 H1 h1 e1 k1 p1 => by
    obtain ⟨b, rfl, q⟩ := h1
    obtain ⟨x, e, t⟩ := k1
    cases e
    refine ⟨b, t.blv, ?_⟩
    cases b with
    | true => exact q B σ H1 Q (S.re e1 p1) fun v s ω2 H2 q e2 => k v s ω2 H2 q (e1.trans e2)
    | false => exact k _ _ ω1 H1 q e1 ⟨_, rfl, .bl false⟩ p1
theorem ex_or (h : EX Tb ta δ ω fun s ω1 => ∃ b, s = .dt (.bool b) ∧ if b = true then Φ (.dt (.bool true)) ω1 else EX Tb tb δ ω1 Φ) : EX Tb (tOrV ta tb) δ ω Φ := fun B σ H Q S k =>
  h B σ H _ S fun v s ω1 H1 h1 e1 k1 p1 => by
    obtain ⟨b, rfl, q⟩ := h1
    obtain ⟨x, e, t⟩ := k1
    cases e
    refine ⟨b, t.blv, ?_⟩
    cases b with
    | true => exact k _ _ ω1 H1 q e1 ⟨_, rfl, .bl true⟩ p1
    | false => exact q B σ H1 Q (S.re e1 p1) fun v s ω2 H2 q e2 => k v s ω2 H2 q (e1.trans e2)
theorem ex_not (h : EX Tb ta δ ω fun s ω1 => ∃ b, s = .dt (.bool b) ∧ Φ (.dt (.bool (!b))) ω1) : EX Tb (tNotV ta) δ ω Φ := fun B σ H Q S k =>
  h B σ H _ S fun v s ω1 H1 h1 e1 k1 p1 => by
    obtain ⟨b, rfl, q⟩ := h1
    obtain ⟨x, e, t⟩ := k1
    cases e
    exact ⟨b, t.blv, k _ _ ω1 H1 q e1 ⟨_, rfl, .bl _⟩ p1⟩
theorem ex_if (h : ET Tb t δ ω fun b ω1 => if b = true then EX Tb ta δ ω1 Φ else EX Tb tb δ ω1 Φ) : EX Tb (tIf t ta tb) δ ω Φ := fun B σ H Q S k =>
  h B σ H _ S fun b ω1 H1 h1 e1 p1 => by
    cases b with
    | true => exact h1 B σ H1 Q (S.re e1 p1) fun v s ω2 H2 q e2 => k v s ω2 H2 q (e1.trans e2)
    | false => exact h1 B σ H1 Q (S.re e1 p1) fun v s ω2 H2 q e2 => k v s ω2 H2 q (e1.trans e2)
end

/-! ### statements -/
structure Po where
  nx : List Sl → Om → Prop
  rt : Sl → Om → Prop
  bk : List Sl → Om → Prop := fun _ _ => False
  ct : List Sl → Om → Prop := fun _ _ => False
variable (Tb) in
def RR (ts : TS) (δ : List Sl) (ω : Om) (P : Po) : Prop :=
  ∀ (B : Hp) (σ : L2.St) (H : Hp) (D : Ends), Sees Tb B σ H δ ω → (∀ δ' ω' σ' H', P.nx δ' ω' → TupEx H H' → Sees Tb B σ' H' δ' ω' → D.nx σ' H') →
    (∀ v s ω' H', P.rt s ω' → TupEx H H' → ROk H' v s → HeapOk Tb B H' ω' → D.rt v H') → (∀ δ' ω' σ' H', P.bk δ' ω' → TupEx H H' → Sees Tb B σ' H' δ' ω' → D.bk σ' H') →
    (∀ δ' ω' σ' H', P.ct δ' ω' → TupEx H H' → Sees Tb B σ' H' δ' ω' → D.ct σ' H') → ts D σ H
/-- some of the objects, in another order -/
def Kp (ω ω' : Om) : Prop := ∃ l, ω'.Sublist l ∧ l.Perm ω
theorem Kp.refl (ω : Om) : Kp ω ω := ⟨ω, List.Sublist.refl _, List.Perm.refl _⟩
theorem Kp.sub {ω ω' : Om} (h : ω'.Sublist ω) : Kp ω ω' := ⟨ω, h, List.Perm.refl _⟩
theorem Kp.cons {ω ω' : Om} {p : Addr × Ob} (h : Kp ω ω') : Kp (p :: ω) ω' := by
  obtain ⟨l, h1, h2⟩ := h
  exact ⟨p :: l, h1.cons _, h2.cons _⟩
theorem Kp.cons2 {ω ω' : Om} {p : Addr × Ob} (h : Kp ω ω') : Kp (p :: ω) (p :: ω') := by
  obtain ⟨l, h1, h2⟩ := h
  exact ⟨p :: l, h1.cons₂ _, h2.cons _⟩
theorem Kp.app {ω : Om} (g : Om) : Kp (g ++ ω) ω := Kp.sub (List.sublist_append_right _ _)
theorem HeapOk.kp {B H : Hp} {ω ω' : Om} (h : HeapOk Tb B H ω) (k : Kp ω ω') : HeapOk Tb B H ω' := let ⟨_, h1, h2⟩ := k; (h.perm h2).drop h1
theorem Sees.kp {B H : Hp} {σ : L2.St} {δ : List Sl} {ω ω' : Om} (h : Sees Tb B σ H δ ω) (k : Kp ω ω') : Sees Tb B σ H δ ω' := ⟨h.hp.kp k, h.len, h.sl⟩
section
variable {te ta tb : TE} {c : TT} {ts tu tw : TS} {δ : List Sl} {ω : Om} {P P' : Po} {g : TG}
theorem RR.imp (h : RR Tb ts δ ω P) (h1 : ∀ δ' ω', P.nx δ' ω' → P'.nx δ' ω') (h2 : ∀ s ω', P.rt s ω' → P'.rt s ω') (h3 : ∀ δ' ω', P.bk δ' ω' → P'.bk δ' ω') (h4 : ∀ δ' ω', P.ct δ' ω' → P'.ct δ' ω') : RR Tb ts δ ω P' := fun B σ H D S k1 k2 k3 k4 =>
  h B σ H D S (fun δ' ω' σ' H' p => k1 δ' ω' σ' H' (h1 _ _ p)) (fun v s ω' H' p => k2 v s ω' H' (h2 _ _ p)) (fun δ' ω' σ' H' p => k3 δ' ω' σ' H' (h3 _ _ p)) fun δ' ω' σ' H' p => k4 δ' ω' σ' H' (h4 _ _ p)
/-- objects are let go -/
theorem rr_kp {ω' : Om} (k : Kp ω ω') (h : RR Tb ts δ ω' P) : RR Tb ts δ ω P := fun B σ H D S => h B σ H D (S.kp k)
theorem ex_kp {ω' : Om} {Φ : Sl → Om → Prop} (k : Kp ω ω') (h : EX Tb te δ ω' Φ) : EX Tb te δ ω Φ := fun B σ H Q S => h B σ H Q (S.kp k)
theorem rr_seq (h : RR Tb ts δ ω { P with nx := fun δ' ω' => RR Tb tu δ' ω' P }) : RR Tb (tSeq ts tu) δ ω P := fun B σ H D S k1 k2 k3 k4 =>
  h B σ H { D with nx := tu D } S (fun δ' ω' σ' H' p e S' => p B σ' H' D S' (fun δ2 ω2 σ2 H2 q e2 => k1 δ2 ω2 σ2 H2 q (e.trans e2)) (fun v s ω2 H2 q e2 => k2 v s ω2 H2 q (e.trans e2)) (fun δ2 ω2 σ2 H2 q e2 => k3 δ2 ω2 σ2 H2 q (e.trans e2)) fun δ2 ω2 σ2 H2 q e2 => k4 δ2 ω2 σ2 H2 q (e.trans e2)) k2 k3 k4
/-- with a word between -/
theorem rr_cut (M : List Sl → Om → Prop) (h : RR Tb ts δ ω { P with nx := M }) (k : ∀ δ' ω', M δ' ω' → RR Tb tu δ' ω' P) : RR Tb (tSeq ts tu) δ ω P := rr_seq (h.imp (fun δ' ω' m => k δ' ω' m) (fun _ _ z => z) (fun _ _ z => z) fun _ _ z => z)
theorem rr_next (q : P.nx δ ω) : RR Tb tNext δ ω P := fun B σ H D S k1 _ _ _ => k1 δ ω σ H q (TupEx.refl H) S
theorem rr_break (q : P.bk δ ω) : RR Tb tBreak δ ω P := fun B σ H D S _ _ k3 _ => k3 δ ω σ H q (TupEx.refl H) S
theorem rr_asg {i : Nat} (h : EX Tb te δ ω fun s ω' => P.nx (δ.set i s) ω') : RR Tb (tAsg te (gName i)) δ ω P := fun B σ H D S k1 _ _ _ =>
  h B σ H _ S fun v s ω' H' q e k p => k1 _ ω' _ H' q e ((S.re e p).set i k)
theorem rr_ret (h : EX Tb te δ ω fun s ω' => (∀ o, s ≠ .bo o) ∧ P.rt s ω') : RR Tb (tRet te) δ ω P := fun B σ H D S _ k2 _ _ =>
  h B σ H _ S fun v s ω' H' q e k p => k2 v s ω' H' q.2 e (by
    cases s with
    | un => exact True.intro
    | dt d =>
      obtain ⟨x, e1, t⟩ := k
      cases e1
      exact t
    | pt a => exact Option.some.inj k
    | bo o => exact absurd rfl (q.1 o)) p
theorem rr_retd {d : PyData} (h : EX Tb te δ ω fun s ω' => s = .dt d ∧ P.rt (.dt d) ω') : RR Tb (tRet te) δ ω P := rr_ret (h.imp fun s ω' q => ⟨(fun o z => nomatch (q.1.symm.trans z)), q.1 ▸ q.2⟩)
theorem rr_drop (h : EX Tb te δ ω fun _ ω' => P.nx δ ω') : RR Tb (tDrop te) δ ω P := fun B σ H D S k1 _ _ _ => h B σ H _ S fun v s ω' H' q e k p => k1 δ ω' σ H' q e (S.re e p)
theorem rr_if (h : ET Tb c δ ω fun b ω' => if b = true then RR Tb ts δ ω' P else RR Tb tu δ ω' P) : RR Tb (tIfS c ts tu) δ ω P := fun B σ H D S k1 k2 k3 k4 =>
  h B σ H _ S fun b ω' H' q e p => by
    cases b with
    | true => exact q B σ H' D (S.re e p) (fun δ2 ω2 σ2 H2 q e2 => k1 δ2 ω2 σ2 H2 q (e.trans e2)) (fun v s ω2 H2 q e2 => k2 v s ω2 H2 q (e.trans e2)) (fun δ2 ω2 σ2 H2 q e2 => k3 δ2 ω2 σ2 H2 q (e.trans e2)) fun δ2 ω2 σ2 H2 q e2 => k4 δ2 ω2 σ2 H2 q (e.trans e2)
    | false => exact q B σ H' D (S.re e p) (fun δ2 ω2 σ2 H2 q e2 => k1 δ2 ω2 σ2 H2 q (e.trans e2)) (fun v s ω2 H2 q e2 => k2 v s ω2 H2 q (e.trans e2)) (fun δ2 ω2 σ2 H2 q e2 => k3 δ2 ω2 σ2 H2 q (e.trans e2)) fun δ2 ω2 σ2 H2 q e2 => k4 δ2 ω2 σ2 H2 q (e.trans e2)
theorem rr_par {i j : Nat} {tr : L2.TA} (h : EA Tb tr δ ω fun ss ω' => ∃ s1 s2, ss = [s1, s2] ∧ P.nx ((δ.set i s1).set j s2) ω') : RR Tb (tPar i j tr) δ ω P := fun B σ H D S k1 _ _ _ =>
  h B σ H _ S fun vs ss ω' H' q e k p => by
    obtain ⟨s1, s2, rfl, q⟩ := q
    match vs, k with
    | [v, w], k => exact ⟨v, w, rfl, k1 _ ω' _ H' q e (((S.re e p).set i k.1).set j k.2.1)⟩
/-- while, by a word that falls -/
theorem rr_while (I : Nat → List Sl → Om → Prop) (m0 : Nat) (h0 : I m0 δ ω)
    (hs : ∀ m δ' ω', I m δ' ω' → ET Tb c δ' ω' fun b ω1 => if b = true then RR Tb ts δ' ω1 { nx := fun δ2 ω2 => ∃ m' ω3, m' < m ∧ Kp ω2 ω3 ∧ I m' δ2 ω3, ct := fun δ2 ω2 => ∃ m' ω3, m' < m ∧ Kp ω2 ω3 ∧ I m' δ2 ω3, bk := P.nx, rt := P.rt } else P.nx δ' ω1) :
    RR Tb (tWhile c ts) δ ω P := fun B σ H D S k1 k2 k3 k4 => by
  refine ⟨fun m σ' H' => ∃ δ' ω', I m δ' ω' ∧ TupEx H H' ∧ Sees Tb B σ' H' δ' ω', ⟨m0, δ, ω, h0, TupEx.refl H, S⟩, ?_⟩
  rintro m σ' H' ⟨δ', ω', hI, e, S'⟩
  refine hs m δ' ω' hI B σ' H' _ S' fun b ω1 H1 q e1 p1 => ?_
  cases b with
  | true =>
    refine ⟨fun σ2 H2 => ∃ δ2 ω2 m', m' < m ∧ I m' δ2 ω2 ∧ TupEx H H2 ∧ Sees Tb B σ2 H2 δ2 ω2, ?_, ?_⟩
    · rintro σ2 H2 ⟨δ2, ω2, m', hm, hI2, e2, S2⟩
      exact ⟨m', hm, δ2, ω2, hI2, e2, S2⟩
    · refine q B σ' H1 _ (S'.re e1 p1) ?_ (fun v s ω2 H2 q e2 => k2 v s ω2 H2 q ((e.trans e1).trans e2)) (fun δ2 ω2 σ2 H2 q e2 => k1 δ2 ω2 σ2 H2 q ((e.trans e1).trans e2)) ?_
      · rintro δ2 ω2 σ2 H2 ⟨m', ω3, hm, kp, hI2⟩ e2 S2
        exact ⟨δ2, ω3, m', hm, hI2, (e.trans e1).trans e2, S2.kp kp⟩
      · rintro δ2 ω2 σ2 H2 ⟨m', ω3, hm, kp, hI2⟩ e2 S2
        exact ⟨δ2, ω3, m', hm, hI2, (e.trans e1).trans e2, S2.kp kp⟩
  | false => exact k1 δ' ω1 σ' H1 q (e.trans e1) (S'.re e1 p1)
end

/-! ### targets -/
/-- a new pair of two data -/
def TP (H : Hp) (x : V) (d : PyData) : Prop := ∃ a x1 x2 d1 d2, x = .ref a ∧ H a = some (.tup [x1, x2]) ∧ T H x1 d1 ∧ T H x2 d2 ∧ d = .tuple [d1, d2]
abbrev DrT := Hp → V → PyData → Prop
/-- what a target does to a datum (Dr: how it lies): js, the slots that it stores -/
def GX (Dr : DrT) (g : TG) (d : PyData) (js : List Nat) (δ δ' : List Sl) : Prop :=
  ∀ (Tb : List (Addr × Str)) (B : Hp) (σ : L2.St) (H : Hp) (x : V) (ω : Om) (Q : L2.St → Hp → Prop), Sees Tb B σ H δ ω → Dr H x d →
    (∀ σ', Sees Tb B σ' H δ' ω → (∀ vs : List Nat, (∀ j ∈ js, j ∈ vs) → wipe σ' vs = wipe σ vs) → Q σ' H) → g x σ H Q
theorem wipe_set {σ : L2.St} {j : Nat} {x : Option V} : ∀ {vs : List Nat}, j ∈ vs → wipe (σ.set j x) vs = wipe σ vs
  | [], h => nomatch h
  | v :: vs, h => by
    unfold wipe
    by_cases hv : v = j
    · subst hv
      have key : ∀ ws : List Nat, (wipe (σ.set v x) ws).set v none = (wipe σ ws).set v none := by
        intro ws
        induction ws with
        | nil => simp [wipe]
        | cons w ws ih =>
          unfold wipe
          by_cases hw : v = w
          · subst hw
            simp only [List.set_set]
            exact ih
          · have sc : ∀ l : L2.St, (l.set w none).set v none = (l.set v none).set w none := fun l => List.set_comm none none fun z => hw z.symm
            rw [sc, sc, ih]
      exact key vs
    · rw [wipe_set ((List.mem_cons.mp h).resolve_left fun z => hv z.symm)]
theorem wipe_idem (σ : L2.St) (vs : List Nat) : wipe (wipe σ vs) vs = wipe σ vs := by
  have key : ∀ ws : List Nat, (∀ j ∈ ws, j ∈ vs) → wipe (wipe σ ws) vs = wipe σ vs := by
    intro ws
    induction ws with
    | nil => intro _; rfl
    | cons w ws ih =>
      intro h
      show wipe ((wipe σ ws).set w none) vs = _
      rw [wipe_set (h w (List.mem_cons_self ..))]
      exact ih fun j hj => h j (List.mem_cons_of_mem _ hj)
  exact key vs fun _ h => h
theorem gx_name {j : Nat} {d : PyData} {δ : List Sl} : GX T (gName j) d [j] δ (δ.set j (.dt d)) := fun Tb B σ H x ω Q S t k =>
  k _ (S.set (s := .dt d) (v := x) j ⟨x, rfl, t⟩) fun vs hv => wipe_set (hv j (List.mem_singleton.mpr rfl))
theorem gx_pair {K : PySem.W.Frag} {i j : Nat} {d1 d2 : PyData} {δ : List Sl} : GX T (gTup K 2 (gCons (gName i) (gCons (gName j) gNil))) (.tuple [d1, d2]) [i, j] δ ((δ.set i (.dt d1)).set j (.dt d2)) := by
  intro Tb B σ H x ω Q S t k
  obtain ⟨a, xs, rfl, hx, ta⟩ := t.tupv
  cases ta with
  | cons t1 ta =>
    rename_i x1 xs
    cases ta with
    | cons t2 ta =>
      rename_i x2 xs
      cases ta
      have s1 := S.set (s := .dt d1) (v := x1) i ⟨x1, rfl, t1⟩
      have s2 := s1.set (s := .dt d2) (v := x2) j ⟨x2, rfl, t2⟩
      refine ⟨a, [x1, x2], rfl, hx.sq, rfl, x1, [x2], rfl, x2, [], rfl, rfl, k _ s2 fun vs hv => ?_⟩
      rw [wipe_set (hv j (List.mem_cons_of_mem _ (List.mem_cons_self ..))), wipe_set (hv i (List.mem_cons_self ..))]
theorem gx_new {K : PySem.W.Frag} {i j : Nat} {d1 d2 : PyData} {δ : List Sl} : GX TP (gTup K 2 (gCons (gName i) (gCons (gName j) gNil))) (.tuple [d1, d2]) [i, j] δ ((δ.set i (.dt d1)).set j (.dt d2)) := by
  intro Tb B σ H x ω Q S t k
  obtain ⟨a, x1, x2, e1, e2, rfl, hx, t1, t2, e⟩ := t
  cases e
  have s1 := S.set (s := .dt d1) (v := x1) i ⟨x1, rfl, t1⟩
  have s2 := s1.set (s := .dt d2) (v := x2) j ⟨x2, rfl, t2⟩
  refine ⟨a, [x1, x2], rfl, SqT.of hx, rfl, x1, [x2], rfl, x2, [], rfl, rfl, k _ s2 fun vs hv => ?_⟩
  rw [wipe_set (hv j (List.mem_cons_of_mem _ (List.mem_cons_self ..))), wipe_set (hv i (List.mem_cons_self ..))]
end Km
/-! Text KmData -/
/-! data that is compared: no truth values in it, texts of a lawful length, not deep -/
namespace Km
open PySem PySem.Spec PyProof.Rows L2 LamX
mutual
def okd : Nat → PyData → Bool
  | _, .none => true
  | _, .int _ => true
  | _, .str x => PyData.strOk x
  | 0, .tuple _ => false
  | 0, .list _ => false
  | n + 1, .tuple xs => okds n xs
  | n + 1, .list xs => okds n xs
  | _, _ => false
def okds : Nat → List PyData → Bool
  | _, [] => true
  | n, x :: xs => okd n x && okds n xs
end
theorem okds_iff {n : Nat} : ∀ {xs : List PyData}, okds n xs = true ↔ ∀ x ∈ xs, okd n x = true
  | [] => by simp [okds]
  | x :: xs => by
    unfold okds
    rw [Bool.and_eq_true, okds_iff (xs := xs)]
    simp
theorem okd_tup {n : Nat} {xs : List PyData} (h : ∀ x ∈ xs, okd n x = true) : okd (n + 1) (.tuple xs) = true := by
  unfold okd
  exact okds_iff.mpr h
theorem okd_lst {n : Nat} {xs : List PyData} (h : ∀ x ∈ xs, okd n x = true) : okd (n + 1) (.list xs) = true := by
  unfold okd
  exact okds_iff.mpr h
mutual
theorem okd_lay : ∀ (n : Nat) (d : PyData), okd n d = true → d.canLay0 = true ∧ d.depth ≤ n
  | n, .none, _ => ⟨by simp [PyData.canLay0], by simp [PyData.depth]⟩
  | n, .int _, _ => ⟨by simp [PyData.canLay0], by simp [PyData.depth]⟩
  | n, .str x, h => ⟨by unfold okd at h; simpa [PyData.canLay0] using h, by simp [PyData.depth]⟩
  | 0, .tuple _, h => by simp [okd] at h
  | 0, .list _, h => by simp [okd] at h
  | n + 1, .tuple xs, h => by
    have q := okds_lay n xs (by simpa [okd] using h)
    refine ⟨by simpa [PyData.canLay0] using q.1, ?_⟩
    have := q.2
    simp only [PyData.depth]
    omega
  | n + 1, .list xs, h => by
    have q := okds_lay n xs (by simpa [okd] using h)
    refine ⟨by simpa [PyData.canLay0] using q.1, ?_⟩
    have := q.2
    simp only [PyData.depth]
    omega
  | 0, .bool _, h => by simp [okd] at h
  | 0, .dict _, h => by simp [okd] at h
  | n + 1, .bool _, h => by simp [okd] at h
  | n + 1, .dict _, h => by simp [okd] at h
theorem okds_lay : ∀ (n : Nat) (xs : List PyData), okds n xs = true → PyData.canLayAll0 xs = true ∧ PyData.depthAll xs ≤ n
  | n, [], _ => ⟨by simp [PyData.canLayAll0], by simp [PyData.depthAll]⟩
  | n, x :: xs, h => by
    unfold okds at h
    rw [Bool.and_eq_true] at h
    have a := okd_lay n x h.1
    have b := okds_lay n xs h.2
    refine ⟨by simp [PyData.canLayAll0, a.1, b.1], ?_⟩
    simp only [PyData.depthAll]
    omega
end
theorem okd_shaped {n : Nat} {d : PyData} (h : okd n d = true) (hn : n ≤ 64 := by decide) : SeqAt.shaped d = true := by
  obtain ⟨a, b⟩ := okd_lay n d h
  unfold SeqAt.shaped
  rw [a, decide_eq_true (Nat.le_trans b hn)]
  rfl
mutual
theorem okd_eqv : ∀ (n m : Nat) (d e : PyData), okd n d = true → okd m e = true → (PyData.eqv d e = true ↔ d = e)
  | _, _, .none, .none, _, _ => by simp [PyData.eqv]
  | _, _, .none, .int _, _, _ => by simp [PyData.eqv]
  | _, _, .none, .str _, _, _ => by simp [PyData.eqv]
  | _, _, .none, .list _, _, _ => by simp [PyData.eqv]
  | _, _, .none, .tuple _, _, _ => by simp [PyData.eqv]
  | _, _, .int _, .none, _, _ => by simp [PyData.eqv]
  | _, _, .int i, .int j, _, _ => by simp [PyData.eqv]
  | _, _, .int _, .str _, _, _ => by simp [PyData.eqv]
  | _, _, .int _, .list _, _, _ => by simp [PyData.eqv]
  | _, _, .int _, .tuple _, _, _ => by simp [PyData.eqv]
  | _, _, .str _, .none, _, _ => by simp [PyData.eqv]
  | _, _, .str _, .int _, _, _ => by simp [PyData.eqv]
  | _, _, .str _, .str _, _, _ => by simp [PyData.eqv]
  | _, _, .str _, .list _, _, _ => by simp [PyData.eqv]
  | _, _, .str _, .tuple _, _, _ => by simp [PyData.eqv]
  | _, _, .list _, .none, _, _ => by simp [PyData.eqv]
  | _, _, .list _, .int _, _, _ => by simp [PyData.eqv]
  | _, _, .list _, .str _, _, _ => by simp [PyData.eqv]
  | _, _, .list _, .tuple _, _, _ => by simp [PyData.eqv]
  | _, _, .tuple _, .none, _, _ => by simp [PyData.eqv]
  | _, _, .tuple _, .int _, _, _ => by simp [PyData.eqv]
  | _, _, .tuple _, .str _, _, _ => by simp [PyData.eqv]
  | _, _, .tuple _, .list _, _, _ => by simp [PyData.eqv]
  | n + 1, m + 1, .list xs, .list ys, h1, h2 => by
    have q := okds_eqv n m xs ys (by simpa [okd] using h1) (by simpa [okd] using h2)
    rw [PyData.eqv, q]
    simp
  | n + 1, m + 1, .tuple xs, .tuple ys, h1, h2 => by
    have q := okds_eqv n m xs ys (by simpa [okd] using h1) (by simpa [okd] using h2)
    rw [PyData.eqv, q]
    simp
  | 0, _, .list _, .list _, h1, _ => by simp [okd] at h1
  | n + 1, 0, .list _, .list _, _, h2 => by simp [okd] at h2
  | 0, _, .tuple _, .tuple _, h1, _ => by simp [okd] at h1
  | n + 1, 0, .tuple _, .tuple _, _, h2 => by simp [okd] at h2
  | 0, _, .bool _, _, h, _ => by simp [okd] at h
  | 0, _, .dict _, _, h, _ => by simp [okd] at h
  | n + 1, _, .bool _, _, h, _ => by simp [okd] at h
  | n + 1, _, .dict _, _, h, _ => by simp [okd] at h
  | _, 0, _, .bool _, _, h => by simp [okd] at h
  | _, 0, _, .dict _, _, h => by simp [okd] at h
  | _, n + 1, _, .bool _, _, h => by simp [okd] at h
  | _, n + 1, _, .dict _, _, h => by simp [okd] at h
theorem okds_eqv : ∀ (n m : Nat) (xs ys : List PyData), okds n xs = true → okds m ys = true → (PyData.eqvAll xs ys = true ↔ xs = ys)
  | _, _, [], [], _, _ => by simp [PyData.eqvAll]
  | _, _, [], _ :: _, _, _ => by simp [PyData.eqvAll]
  | _, _, _ :: _, [], _, _ => by simp [PyData.eqvAll]
  | n, m, x :: xs, y :: ys, h1, h2 => by
    unfold okds at h1 h2
    rw [Bool.and_eq_true] at h1 h2
    have a := okd_eqv n m x y h1.1 h2.1
    have b := okds_eqv n m xs ys h1.2 h2.2
    rw [PyData.eqvAll, Bool.and_eq_true, a, b]
    simp
end
theorem any_eqv {n m : Nat} {d : PyData} {ds : List PyData} (hd : okd n d = true) (hs : okds m ds = true) : ((ds.any fun z => PyData.eqv z d) = true ↔ d ∈ ds) := by
  rw [List.any_eq_true]
  constructor
  · rintro ⟨z, hz, e⟩
    rw [(okd_eqv m n z d (okds_iff.mp hs z hz) hd).mp e] at hz
    exact hz
  · intro h
    exact ⟨d, h, (okd_eqv m n d d (okds_iff.mp hs d h) hd).mpr rfl⟩
/-! ### x in t, t a tuple of data -/
section
variable {X : Cx}
def rInTp (K : PySem.W.Frag) : R2 := fun x y H Q => ∃ d ds, Dp K H x d ∧ Dp K H y (.tuple ds) ∧ SeqAt.shaped d = true ∧ SeqAt.shaped (.tuple ds) = true ∧ Q (.bl (ds.any fun z => PyData.eqv z d)) H
def rNotInTp (K : PySem.W.Frag) : R2 := fun x y H Q => ∃ d ds, Dp K H x d ∧ Dp K H y (.tuple ds) ∧ SeqAt.shaped d = true ∧ SeqAt.shaped (.tuple ds) = true ∧ Q (.bl (!ds.any fun z => PyData.eqv z d)) H
theorem op_inTp (room : X.A.units + 65 < cLine) : OpR X (compareOp .In) (rInTp X.K) := by
  rintro pins s σ H x y v u Q inv rvx rvy ⟨e, es, de, des, oke, okes, fin⟩
  obtain ⟨l1, q1⟩ := Dp.reads inv e x v de rvx
  obtain ⟨l2, q2⟩ := Dp.reads inv _ y u des rvy
  refine SeqAt.in_tuple_reads q2 q1 (SeqAt.canLay_of_shaped okes) (SeqAt.canLay_of_shaped oke) (room_in_shaped oke room) ?_
  exact ⟨.bl _, H, inv, rfl, fin⟩
theorem op_notInTp (room : X.A.units + 65 < cLine) : OpR X (compareOp .NotIn) (rNotInTp X.K) := by
  rintro pins s σ H x y v u Q inv rvx rvy ⟨e, es, de, des, oke, okes, fin⟩
  obtain ⟨l1, q1⟩ := Dp.reads inv e x v de rvx
  obtain ⟨l2, q2⟩ := Dp.reads inv _ y u des rvy
  refine SeqAt.notIn_tuple_reads q2 q1 (SeqAt.canLay_of_shaped okes) (SeqAt.canLay_of_shaped oke) (room_in_shaped oke room) ?_
  exact ⟨.bl _, H, inv, rfl, fin⟩
end
end Km
/-! Text KmMake -/
/-! Makers of tuples whose object is known to have no dict: a display, a sum, a part, tuple(list); and t.index(x) on such. -/
namespace Km
open PySem PySem.Spec PyProof.Rows L2 LamX
variable {X : Cx} {pins : List (Addr × Obj)} {σ : L2.St} {H : Hp} {s : Shared}
/-- the new tuple's object -/
abbrev tupOb (its : List Value) : Obj := { cls := .type "tuple", data := .seq its.toArray }
theorem lay_tup (I : Inv X pins σ H s) {ys : List V} {its : List Value} (rel : Vals ys its) (few : ys.length ≤ sizeLine) :
    Inv X pins σ (upd H s.heap.objs.size (.frz (tupOb its) (.tup ys))) { s with heap := s.heap.push (tupOb its) } := by
  have new : (s.heap.push (tupOb its)).get? s.heap.objs.size = some (tupOb its) := Heap.get?_push_size _ rfl
  refine I.laid (t' := s.toks) (o := .frz (tupOb its) (.tup ys)) (fun b w e => Heap.get?_push_of_some _ e) (Nat.le_refl _) ?_
  exact ⟨new, few, its, rel, _, new, rfl, 0, rfl⟩
/-- (a, b) -/
def tTupF (t : L2.TA) : TE := fun σ H Q => t σ H fun xs H1 => xs.length ≤ sizeLine ∧ ∀ p (o : Obj), H1 p = none → o.dict = none → Q (.ref p) (upd H1 p (.frz o (.tup xs)))
theorem pe_tupF {es : List Expr} {t : L2.TA} {k1} {pos : Pos} (arg : PA X es t) : PE X (.Tuple es k1 pos) (tTupF t) := by
  constructor
  intro pins s σ H Q I want
  refine wpAny_Tuple_spliced (thn (arg.run pos pins s σ H _ I want) ?_)
  rintro us s1 ⟨xs, H1, I1, rel, few, fin⟩
  refine ⟨rel.length ▸ few, ?_⟩
  exact ⟨.ref _, _, lay_tup I1 rel few, rfl, fin _ _ (I1.hok.fresh (Nat.le_refl _)) rfl⟩
/-- t + u -/
def rCatF (K : PySem.W.Frag) : R2 := fun x y H Q => ∃ a b xs ys, x = .ref a ∧ y = .ref b ∧ SqT K H a xs ∧ SqT K H b ys ∧ xs.length + ys.length ≤ sizeLine ∧
  (xs = [] → Q (.ref b) H) ∧ (xs ≠ [] → ys = [] → Q (.ref a) H) ∧ (xs ≠ [] → ys ≠ [] → ∀ p (o : Obj), H p = none → o.dict = none → Q (.ref p) (upd H p (.frz o (.tup (xs ++ ys)))))
theorem op_catF : OpR X (binaryOp .Add) (rCatF X.K) := by
  rintro pins s σ H x y v u Q inv rvx rvy ⟨a, b, xs, ys, ex, ey, sa, sb, few, w0, w1, w2⟩
  by_cases nx : xs = []
  · exact op_catA pins s σ H x y v u Q inv rvx rvy ⟨a, b, xs, ys, ex, ey, sa, sb, few, w0, fun z => absurd nx z, fun z => absurd nx z⟩
  by_cases ny : ys = []
  · exact op_catA pins s σ H x y v u Q inv rvx rvy ⟨a, b, xs, ys, ex, ey, sa, sb, few, w0, w1, fun _ z => absurd ny z⟩
  subst ex ey
  obtain rfl : v = Value.ref a := rvx
  obtain rfl : u = Value.ref b := rvy
  obtain ⟨is1, rl1, tp1, _⟩ := inv.tuple sa
  obtain ⟨is2, rl2, tp2, _⟩ := inv.tuple sb
  have l1 := rl1.length
  have l2 := rl2.length
  refine HT.cat_tup tp1 tp2 (fun z => nx (rl1.nil_iff.mp z)) (fun z => absurd (rl2.nil_iff.mp z) ny) (fun _ => ?_) (by omega)
  exact ⟨.ref _, _, lay_tup inv (rl1.append rl2) (by rw [List.length_append]; exact few), rfl, w2 nx ny _ _ (inv.hok.fresh (Nat.le_refl _)) rfl⟩
/-- t[lo:hi] -/
def rSlF (K : PySem.W.Frag) : V → Option Int → Option Int → Hp → VK → Prop := fun x lo hi H Q => ∃ a xs, x = .ref a ∧ SqT K H a xs ∧
  (HT.sIx xs.length 0 lo = 0 ∧ HT.sIx xs.length xs.length hi = xs.length → Q (.ref a) H) ∧
  (¬ (HT.sIx xs.length 0 lo = 0 ∧ HT.sIx xs.length xs.length hi = xs.length) → ∀ p (o : Obj), H p = none → o.dict = none → Q (.ref p) (upd H p (.frz o (.tup (cutV xs lo hi)))))
theorem sl_tupF : SlR X (rSlF X.K) := by
  rintro pins s σ H x v vl vu lo hi sl Q inv rvx at_ p1 p2 ⟨a, xs, rfl, sa, w1, w2⟩
  by_cases all : HT.sIx xs.length 0 lo = 0 ∧ HT.sIx xs.length xs.length hi = xs.length
  · exact sl_tupA pins s σ H _ v vl vu lo hi sl Q inv rvx at_ p1 p2 ⟨a, xs, rfl, sa, w1, fun z => absurd all z⟩
  obtain rfl : v = Value.ref a := rvx
  obtain ⟨its, rel, tp, few⟩ := inv.tuple sa
  have same : its.toArray.size = xs.length := by rw [List.size_toArray]; exact rel.length.symm
  refine ⟨"tuple", _, PyProof.Rows.slot_tuple_getitem.lookup, tp.typeIs, HT.getItem_tuple_cut tp at_ p1 p2 (same.symm ▸ all) ?_ (same.symm ▸ few)⟩
  rw [same]
  have cut : Vals (cutV xs lo hi) ((its.drop (HT.sIx xs.length 0 lo)).take (HT.sIx xs.length xs.length hi - HT.sIx xs.length 0 lo)) := (rel.drop _).take _
  exact ⟨.ref _, _, lay_tup inv cut (Nat.le_trans (cutV_length xs lo hi) few), rfl, w2 all _ _ (inv.hok.fresh (Nat.le_refl _)) rfl⟩
/-- tuple(xs), xs a list -/
def rTupF (K : PySem.W.Frag) : List V → Hp → VK → Prop := fun vs H Q => ∃ a ys, vs = [.ref a] ∧ SqL K H a ys ∧ ∀ p (o : Obj), H p = none → o.dict = none → Q (.ref p) (upd H p (.frz o (.tup ys)))
theorem call_tupF : CallR X (.type "tuple") (rTupF X.K) := by
  rintro pins s σ H vs us Q inv rel ⟨a, ys, rfl, sa, fin⟩
  obtain ⟨u, rfl, ru⟩ := vals1 rel
  obtain rfl : u = Value.ref a := ru
  obtain ⟨its, rl, pl, few⟩ := inv.list sa
  have same := rl.length
  refine call_tuple_list pl.isList (fun g kept => ?_) (by rw [List.size_toArray, ← same]; exact few)
  have inv1 : Inv X pins σ H { s with heap := g } := inv.kept (t' := s.toks) kept
  exact ⟨.ref _, _, lay_tup inv1 rl few, rfl, fin _ _ (inv1.hok.fresh (Nat.le_refl _)) rfl⟩
/-- t.index(x), t such a tuple of texts, x in it -/
def tTix (K : PySem.W.Frag) (to : TE) (t : L2.TA) : TE := fun σ H Q => to σ H fun x H1 => ∃ a xs, x = .ref a ∧ Tu H1 a xs ∧ t σ H1 fun vs H2 =>
  ∃ (ys : List Str) (z : Str) (j : Nat), vs = [.str z] ∧ SqT K H2 a (ys.map V.str) ∧ ys[j]? = some z ∧ (∀ m, m < j → ys[m]? ≠ some z) ∧ Q (.int (j : Nat)) H2
theorem pe_tix {K0 : PySem.W.Frag} {o e : Expr} {to : TE} {t : L2.TA} {apos cpos : Pos} (ob : PE X o to) (arg : PA X [e] t) (hbase : attributeBase o "index" X.env (eval o X.env) = eval o X.env := by rfl)
    (few : ((backTo cpos (starEach [e] X.env)).all (fun x => !x.1) && (backToKw cpos (keywordEach [] X.env)).all (fun x => x.1.isSome)
      && decide ([e].length + ([] : List Keyword).length + (if ([] : List Keyword).isEmpty then 0 else 1) < 30)) = true := by rfl)
    (ln : (apos.endLine == cpos.line) = true := by rfl) (hK : X.K = K0 := by rfl) (st : starEach [e] X.env = (false, eval e X.env) :: starEach [] X.env := by rfl) (pl : (backTo cpos (starEach [] X.env)).any (·.1) = false := by rfl) :
    PE X (.Call (.Attribute o "index" apos) [e] [] cpos) (tTix K0 to t) := by
  subst hK
  constructor
  intro pins s σ H Q inv want
  refine wpAny_Call_method_late hbase few ln rfl (thn (ob.run pins s σ H _ inv want) ?_)
  rintro v s1 ⟨x, H1, inv1, rx, a, xs, rfl, ⟨ob1, h1, nd⟩, w1⟩
  obtain rfl : v = Value.ref a := rx
  obtain ⟨g1, _, _, _, ob2, g2, cl, _⟩ := (show ObjOk X.prog X.w H1 s1.heap a (.frz ob1 (.tup xs)) from inv1.hok a _ h1)
  refine ⟨"tuple", "tuple.index", PySem.F.plainAttrs_tuple, PySem.F.slot_tuple_index, PySem.F.type_tuple_index, ⟨ob2, g2, cl⟩, fun b e => ?_, ?_⟩
  · cases e
    exact ⟨ob1, g1, nd⟩
  have run := arg.run cpos pins s1 σ H1 _ inv1 w1
  rw [st] at run ⊢
  refine Calls.callWith_builtin (by rw [show (backTo cpos ((false, eval e X.env) :: starEach [] X.env)).any (·.1) = (false || (backTo cpos (starEach [] X.env)).any (·.1)) from rfl, pl]; rfl) (Calls.evalArgs_plain (thn run ?_))
  rintro us s2 ⟨vs, H2, inv2, rv, ys, z, j, rfl, q1, q2, q3, fin⟩
  exact mt_tup_index pins s2 σ H2 (.ref a) [.str z] (.ref a) us Q inv2 rfl rv ⟨a, ys, z, j, rfl, rfl, q1, q2, q3, fin⟩
end Km
/-! Text KmLogic2 -/
/-! The small logic: calls, loops, comprehensions, and what the built-in operators do to data. -/
namespace Km
open PySem PySem.Spec PyProof.Rows L2 LamX
variable {Tb : List (Addr × Str)}
/-! ### by values: scalars -/
section
variable {ω : Om} {Φ : Sl → Om → Prop} {s1 s2 : Sl}
theorem SlOk.data {B H : Hp} {x : V} {d : PyData} (h : SlOk B H (some x) (.dt d)) : T H x d := by
  obtain ⟨y, e, t⟩ := h
  cases e
  exact t
theorem SlOk.ref {B H : Hp} {x : V} {a : Addr} (h : SlOk B H (some x) (.pt a)) : x = .ref a := Option.some.inj h
theorem slDt {B H : Hp} {x : V} {d : PyData} (t : T H x d) : SlOk B H (some x) (.dt d) := ⟨x, rfl, t⟩
theorem ox_i0I {g : Int → Int → Int} {i j : Int} (q : Φ (.dt (.int (g i j))) ω) : OX Tb (rI0 fun i j => .int (g i j)) (.dt (.int i)) (.dt (.int j)) ω Φ := fun B H x y Q S k1 k2 k =>
  ⟨i, j, k1.data.intv, k2.data.intv, k _ _ ω H q (TupEx.refl H) (slDt (.int _)) S⟩
theorem ox_i0B {g : Int → Int → Bool} {i j : Int} (q : Φ (.dt (.bool (g i j))) ω) : OX Tb (rI0 fun i j => .bl (g i j)) (.dt (.int i)) (.dt (.int j)) ω Φ := fun B H x y Q S k1 k2 k =>
  ⟨i, j, k1.data.intv, k2.data.intv, k _ _ ω H q (TupEx.refl H) (slDt (.bl _)) S⟩
theorem ox_iI {C : Int → Int → Prop} {g : Int → Int → Int} {i j : Int} (c : C i j) (q : Φ (.dt (.int (g i j))) ω) : OX Tb (rI C fun i j => .int (g i j)) (.dt (.int i)) (.dt (.int j)) ω Φ := fun B H x y Q S k1 k2 k =>
  ⟨i, j, k1.data.intv, k2.data.intv, c, k _ _ ω H q (TupEx.refl H) (slDt (.int _)) S⟩
theorem ox_bool {a b : Bool} (q : Φ (.dt (.bool (decide (a = b)))) ω) : OX Tb rEq (.dt (.bool a)) (.dt (.bool b)) ω Φ := fun B H x y Q S k1 k2 k => by
  rw [k1.data.blv, k2.data.blv]
  refine ⟨rfl, ?_⟩
  have e : decide (V.bl a = V.bl b) = decide (a = b) := by cases a <;> cases b <;> rfl
  rw [e]
  exact k _ _ ω H q (TupEx.refl H) (slDt (.bl _)) S
theorem ox_nebool {a b : Bool} (q : Φ (.dt (.bool (!decide (a = b)))) ω) : OX Tb rNe (.dt (.bool a)) (.dt (.bool b)) ω Φ := fun B H x y Q S k1 k2 k => by
  rw [k1.data.blv, k2.data.blv]
  refine ⟨rfl, ?_⟩
  have e : decide (V.bl a = V.bl b) = decide (a = b) := by cases a <;> cases b <;> rfl
  rw [e]
  exact k _ _ ω H q (TupEx.refl H) (slDt (.bl _)) S
/-- equality of data: the answer is told by an iff -/
theorem ox_eqd (K : PySem.W.Frag) (n : Nat) {d e : PyData} (hd : okd n d = true) (he : okd n e = true) (hn : n ≤ 64) (q : ∀ b : Bool, (b = true ↔ d = e) → Φ (.dt (.bool b)) ω) : OX Tb (rEqD K) (.dt d) (.dt e) ω Φ := fun B H x y Q S k1 k2 k =>
  ⟨d, e, k1.data.dp, k2.data.dp, okd_shaped hd hn, okd_shaped he hn, k _ _ ω H (q _ (okd_eqv n n d e hd he)) (TupEx.refl H) (slDt (.bl _)) S⟩
theorem ox_ned (K : PySem.W.Frag) (n : Nat) {d e : PyData} (hd : okd n d = true) (he : okd n e = true) (hn : n ≤ 64) (q : ∀ b : Bool, (b = true ↔ d = e) → Φ (.dt (.bool (!b))) ω) : OX Tb (rNeD K) (.dt d) (.dt e) ω Φ := fun B H x y Q S k1 k2 k =>
  ⟨d, e, k1.data.dp, k2.data.dp, okd_shaped hd hn, okd_shaped he hn, k _ _ ω H (q _ (okd_eqv n n d e hd he)) (TupEx.refl H) (slDt (.bl _)) S⟩
theorem okd_le {n m : Nat} (h : n ≤ m) : ∀ {d : PyData}, okd n d = true → okd m d = true := by
  have key : ∀ m n, n ≤ m → (∀ d, okd n d = true → okd m d = true) ∧ ∀ ds, okds n ds = true → okds m ds = true := by
    intro m
    induction m with
    | zero =>
      intro n hn
      have e : n = 0 := by omega
      subst e
      exact ⟨fun _ h => h, fun _ h => h⟩
    | succ m ih =>
      intro n hn
      have k1 : ∀ d, okd n d = true → okd (m + 1) d = true := by
        intro d h
        cases d with
        | tuple xs =>
          cases n with
          | zero => simp [okd] at h
          | succ n =>
            have q := (ih n (by omega)).2 xs (by simpa [okd] using h)
            simpa [okd] using q
        | list xs =>
          cases n with
          | zero => simp [okd] at h
          | succ n =>
            have q := (ih n (by omega)).2 xs (by simpa [okd] using h)
            simpa [okd] using q
        | none => simp [okd]
        | int i => simp [okd]
        | str x => cases n <;> simpa [okd] using h
        | bool b => cases n <;> simp [okd] at h
        | dict b => cases n <;> simp [okd] at h
      exact ⟨k1, fun ds h => okds_iff.mpr fun x hx => k1 x (okds_iff.mp h x hx)⟩
  exact fun {d} hd => (key m n h).1 d hd
theorem ox_in (K : PySem.W.Frag) (n : Nat) {d : PyData} {ds : List PyData} (hd : okd n d = true) (he : okd n (.tuple ds) = true) (hn : n ≤ 64) (q : ∀ b : Bool, (b = true ↔ d ∈ ds) → Φ (.dt (.bool b)) ω) : OX Tb (rInTp K) (.dt d) (.dt (.tuple ds)) ω Φ := fun B H x y Q S k1 k2 k => by
  refine ⟨d, ds, k1.data.dp, k2.data.dp, okd_shaped hd hn, okd_shaped he hn, k _ _ ω H (q _ ?_) (TupEx.refl H) (slDt (.bl _)) S⟩
  cases n with
  | zero => simp [okd] at he
  | succ n => exact any_eqv (n := n + 1) (m := n) hd (by simpa [okd] using he)
theorem ox_notin (K : PySem.W.Frag) (n : Nat) {d : PyData} {ds : List PyData} (hd : okd n d = true) (he : okd n (.tuple ds) = true) (hn : n ≤ 64) (q : ∀ b : Bool, (b = true ↔ d ∈ ds) → Φ (.dt (.bool (!b))) ω) : OX Tb (rNotInTp K) (.dt d) (.dt (.tuple ds)) ω Φ := fun B H x y Q S k1 k2 k => by
  refine ⟨d, ds, k1.data.dp, k2.data.dp, okd_shaped hd hn, okd_shaped he hn, k _ _ ω H (q _ ?_) (TupEx.refl H) (slDt (.bl _)) S⟩
  cases n with
  | zero => simp [okd] at he
  | succ n => exact any_eqv (n := n + 1) (m := n) hd (by simpa [okd] using he)
/-- lists: by their place among the objects -/
def LsAt (B : Hp) (H : Hp) (x : V) (ds : List PyData) : Prop := ∃ a xs, x = .ref a ∧ H a = some (.lst xs) ∧ TAs H xs ds
/-- the list that a slot tells of -/
def IsLs (ω : Om) (s : Sl) (ds : List PyData) : Prop := (∃ a, s = .pt a ∧ (a, Ob.ls ds) ∈ ω) ∨ s = .bo (.ls ds)
theorem isLs {B H : Hp} {x : V} {s : Sl} {ds : List PyData} (h : IsLs ω s ds) (S : HeapOk Tb B H ω) (k : SlOk B H (some x) s) : ∃ a xs, x = .ref a ∧ H a = some (.lst xs) ∧ TAs H xs ds := by
  rcases h with ⟨a, rfl, m⟩ | rfl
  · obtain ⟨xs, h1, h2⟩ := (S.obs _ m).1
    exact ⟨a, xs, k.ref, h1, h2⟩
  · obtain ⟨a, e, ⟨xs, h1, h2⟩ | ⟨_, _, e2, _⟩⟩ := k
    · cases e
      exact ⟨a, xs, rfl, S.ex.ex a _ h1 (fun _ z => nomatch z), h2.mono S.ex.tup⟩
    · cases e2
theorem sql_ext {K : PySem.W.Frag} {B H : Hp} {a : Addr} {xs : List V} (h : SqL K B a xs) (e : Ext B H) : SqL K H a xs := by
  rcases h with (h | ⟨o, h⟩) | h
  · exact .inl (.inl (e.ex a _ h fun _ z => nomatch z))
  · exact .inl (.inr ⟨o, e.ex a _ h fun _ z => nomatch z⟩)
  · exact .inr h
theorem isSq {K : PySem.W.Frag} {B H : Hp} {x : V} {ns : List Int} (S : HeapOk Tb B H ω) (k : SlOk B H (some x) (.bo (.sq K ns))) : ∃ a, x = .ref a ∧ SqL K H a (ns.map V.int) := by
  obtain ⟨a, e, h | ⟨K', ns', e2, h⟩⟩ := k
  · exact h.elim
  · cases e
    cases e2
    exact ⟨a, rfl, sql_ext h S.ex⟩
theorem ox_eql (K : PySem.W.Frag) (n : Nat) {ds es : List PyData} (h1 : IsLs ω s1 ds) (h2 : IsLs ω s2 es) (hd : okds n ds = true) (he : okds n es = true) (hn : n ≤ 63) (q : ∀ b : Bool, (b = true ↔ ds = es) → Φ (.dt (.bool b)) ω) : OX Tb (rEqD K) s1 s2 ω Φ := fun B H x y Q S k1 k2 k => by
  obtain ⟨a, xs, rfl, ha, ta⟩ := isLs h1 S k1
  obtain ⟨b, ys, rfl, hb, tb⟩ := isLs h2 S k2
  have o1 : okd (n + 1) (.list ds) = true := by simpa [okd] using hd
  have o2 : okd (n + 1) (.list es) = true := by simpa [okd] using he
  have e := okd_eqv (n + 1) (n + 1) _ _ o1 o2
  refine ⟨.list ds, .list es, .lst (SqL.of ha) ta.dp, .lst (SqL.of hb) tb.dp, okd_shaped o1 (by omega), okd_shaped o2 (by omega), k _ _ ω H (q _ (e.trans ?_)) (TupEx.refl H) (slDt (.bl _)) S⟩
  simp
theorem ox_nel (K : PySem.W.Frag) (n : Nat) {ds es : List PyData} (h1 : IsLs ω s1 ds) (h2 : IsLs ω s2 es) (hd : okds n ds = true) (he : okds n es = true) (hn : n ≤ 63) (q : ∀ b : Bool, (b = true ↔ ds = es) → Φ (.dt (.bool (!b))) ω) : OX Tb (rNeD K) s1 s2 ω Φ := fun B H x y Q S k1 k2 k => by
  obtain ⟨a, xs, rfl, ha, ta⟩ := isLs h1 S k1
  obtain ⟨b, ys, rfl, hb, tb⟩ := isLs h2 S k2
  have o1 : okd (n + 1) (.list ds) = true := by simpa [okd] using hd
  have o2 : okd (n + 1) (.list es) = true := by simpa [okd] using he
  have e := okd_eqv (n + 1) (n + 1) _ _ o1 o2
  refine ⟨.list ds, .list es, .lst (SqL.of ha) ta.dp, .lst (SqL.of hb) tb.dp, okd_shaped o1 (by omega), okd_shaped o2 (by omega), k _ _ ω H (q _ (e.trans ?_)) (TupEx.refl H) (slDt (.bl _)) S⟩
  simp
theorem ox_inl (K : PySem.W.Frag) (n : Nat) {d : PyData} {ds : List PyData} (h2 : IsLs ω s2 ds) (hd : okd n d = true) (he : okds n ds = true) (hn : n ≤ 63) (q : ∀ b : Bool, (b = true ↔ d ∈ ds) → Φ (.dt (.bool b)) ω) : OX Tb (rInD K) (.dt d) s2 ω Φ := fun B H x y Q S k1 k2 k => by
  obtain ⟨b, ys, rfl, hb, tb⟩ := isLs h2 S k2
  have o2 : okd (n + 1) (.list ds) = true := by simpa [okd] using he
  exact ⟨d, ds, k1.data.dp, .lst (SqL.of hb) tb.dp, okd_shaped hd (by omega), okd_shaped o2 (by omega), k _ _ ω H (q _ (any_eqv hd he)) (TupEx.refl H) (slDt (.bl _)) S⟩
theorem ox_notinl (K : PySem.W.Frag) (n : Nat) {d : PyData} {ds : List PyData} (h2 : IsLs ω s2 ds) (hd : okd n d = true) (he : okds n ds = true) (hn : n ≤ 63) (q : ∀ b : Bool, (b = true ↔ d ∈ ds) → Φ (.dt (.bool (!b))) ω) : OX Tb (rNotInD K) (.dt d) s2 ω Φ := fun B H x y Q S k1 k2 k => by
  obtain ⟨b, ys, rfl, hb, tb⟩ := isLs h2 S k2
  have o2 : okd (n + 1) (.list ds) = true := by simpa [okd] using he
  exact ⟨d, ds, k1.data.dp, .lst (SqL.of hb) tb.dp, okd_shaped hd (by omega), okd_shaped o2 (by omega), k _ _ ω H (q _ (any_eqv hd he)) (TupEx.refl H) (slDt (.bl _)) S⟩
/-- one sign in a text -/
theorem ox_str2 {g : Str → Str → Bool} {i j : Str} (q : Φ (.dt (.bool (g i j))) ω) : OX Tb (fun x y H Q => ∃ i j, x = V.str i ∧ y = V.str j ∧ Q (.bl (g i j)) H) (.dt (.str i)) (.dt (.str j)) ω Φ := fun B H x y Q S k1 k2 k =>
  ⟨i, j, k1.data.strv, k2.data.strv, k _ _ ω H q (TupEx.refl H) (slDt (.bl _)) S⟩
/-! ### items, slices, sums of tuples -/
theorem ox_ixT (K : PySem.W.Frag) {ds : List PyData} {i : Int} {d : PyData} (h : atI ds i = some d) (q : Φ (.dt d) ω) : OX Tb (rIxT K) (.dt (.tuple ds)) (.dt (.int i)) ω Φ := fun B H x y Q S k1 k2 k => by
  obtain ⟨a, xs, rfl, ha, ta⟩ := k1.data.tupv
  have e : ∃ v, atI xs i = some v ∧ T H v d := by
    unfold atI at h ⊢
    rw [ta.length]
    cases q2 : ixN ds.length i with
    | none =>
      rw [q2] at h
      cases h
    | some j =>
      rw [q2] at h
      obtain ⟨v, e1, e2⟩ := ta.get (i := j) (d := d) h
      exact ⟨v, e1, e2⟩
  obtain ⟨v, e1, e2⟩ := e
  exact ⟨a, xs, i, v, rfl, k2.data.intv, ha.sq, e1, k v _ ω H q (TupEx.refl H) (slDt e2) S⟩
theorem ox_ixL (K : PySem.W.Frag) {ds : List PyData} {i : Int} {d : PyData} (hl : IsLs ω s1 ds) (h : atI ds i = some d) (q : Φ (.dt d) ω) : OX Tb (rIxL K) s1 (.dt (.int i)) ω Φ := fun B H x y Q S k1 k2 k => by
  obtain ⟨a, xs, rfl, ha, ta⟩ := isLs hl S k1
  have e : ∃ v, atI xs i = some v ∧ T H v d := by
    unfold atI at h ⊢
    rw [ta.length]
    cases q2 : ixN ds.length i with
    | none =>
      rw [q2] at h
      cases h
    | some j =>
      rw [q2] at h
      obtain ⟨v, e1, e2⟩ := ta.get (i := j) (d := d) h
      exact ⟨v, e1, e2⟩
  obtain ⟨v, e1, e2⟩ := e
  exact ⟨a, xs, i, v, rfl, k2.data.intv, SqL.of ha, e1, k v _ ω H q (TupEx.refl H) (slDt e2) S⟩
theorem ox_ixS {z : Str} {i : Int} {c : Nat} (hz : z.length ≤ sizeLine) (h : atI z.cps.toList i = some c) (q : Φ (.dt (.str ⟨#[c]⟩)) ω) : OX Tb rIxS (.dt (.str z)) (.dt (.int i)) ω Φ := fun B H x y Q S k1 k2 k =>
  ⟨z, i, c, k1.data.strv, k2.data.intv, hz, h, k _ _ ω H q (TupEx.refl H) (slDt (.str _)) S⟩
def cutD (xs : List PyData) (lo hi : Option Int) : List PyData := (xs.drop (HT.sIx xs.length 0 lo)).take (HT.sIx xs.length xs.length hi - HT.sIx xs.length 0 lo)
theorem TAs.cut {H : Hp} {xs : List V} {ds : List PyData} (t : TAs H xs ds) (lo hi : Option Int) : TAs H (cutV xs lo hi) (cutD ds lo hi) := by
  unfold cutV cutD
  rw [t.length]
  exact (t.drop _).take _
theorem cutD_whole {ds : List PyData} {lo hi : Option Int} (h1 : HT.sIx ds.length 0 lo = 0) (h2 : HT.sIx ds.length ds.length hi = ds.length) : cutD ds lo hi = ds := by
  unfold cutD
  rw [h1, h2]
  simp
theorem cutD_from {ds : List PyData} (k : Nat) : cutD ds (some (k : Int)) none = ds.drop k := by
  unfold cutD
  rw [HT.sIx_nat, HT.sIx_none]
  by_cases h : k ≤ ds.length
  · rw [Nat.min_eq_left h, List.take_of_length_le (by rw [List.length_drop]; exact Nat.le_refl _)]
  · rw [Nat.min_eq_right (by omega), List.drop_eq_nil_of_le (Nat.le_refl _), List.drop_eq_nil_of_le (by omega)]
    simp
theorem cutD_to {ds : List PyData} (k : Nat) : cutD ds none (some (k : Int)) = ds.take k := by
  unfold cutD
  rw [HT.sIx_nat, HT.sIx_none, List.drop_zero, Nat.sub_zero]
  by_cases h : k ≤ ds.length
  · rw [Nat.min_eq_left h]
  · rw [Nat.min_eq_right (by omega), List.take_of_length_le (Nat.le_refl _), List.take_of_length_le (by omega)]
end
/-! ### slices as readings -/
section
variable {te ta tb : TE} {tl th : TO} {δ : List Sl} {ω : Om} {Φ : Sl → Om → Prop}
variable (Tb) in
def PX (tl : TO) (δ : List Sl) (ω : Om) (Φ : Option Int → Om → Prop) : Prop :=
  ∀ (B : Hp) (σ : L2.St) (H : Hp) (Q : Option Int → Hp → Prop), Sees Tb B σ H δ ω → (∀ o ω' H', Φ o ω' → TupEx H H' → HeapOk Tb B H' ω' → Q o H') → tl σ H Q
theorem px_none {Φ : Option Int → Om → Prop} (q : Φ none ω) : PX Tb tNoPart δ ω Φ := fun B σ H Q S k => k none ω H q (TupEx.refl H) S.hp
theorem px_some {Φ : Option Int → Om → Prop} (h : EX Tb te δ ω fun s ω' => ∃ i, s = .dt (.int i) ∧ Φ (some i) ω') : PX Tb (tPart te) δ ω Φ := fun B σ H Q S k =>
  h B σ H _ S fun v s ω' H' q e kk p => by
    obtain ⟨i, rfl, q⟩ := q
    exact ⟨i, kk.data.intv, k (some i) ω' H' q e p⟩
theorem lay_same {H : Hp} {p : Addr} {o : Obj} {xs : List V} (h : H p = none) (n : o.dict = none) : Same H (upd H p (.frz o (.tup xs))) ∧ Tu (upd H p (.frz o (.tup xs))) p xs :=
  ⟨same_new h _, o, upd_same, n⟩
theorem ex_slT (K : PySem.W.Frag) (h : EX Tb te δ ω fun s ω1 => ∃ ds, s = .dt (.tuple ds) ∧ PX Tb tl δ ω1 fun lo ω2 => PX Tb th δ ω2 fun hi ω3 => Φ (.dt (.tuple (cutD ds lo hi))) ω3) : EX Tb (tSl (rSlF K) te tl th) δ ω Φ := fun B σ H Q S k =>
  h B σ H _ S fun v s ω1 H1 q e k1 p1 => by
    obtain ⟨ds, rfl, q⟩ := q
    refine q B σ H1 _ (S.re e p1) fun lo ω2 H2 q2 e2 p2 => q2 B σ H2 _ ((S.re e p1).re e2 p2) fun hi ω3 H3 q3 e3 p3 => ?_
    obtain ⟨a, xs, rfl, ha, ta⟩ := k1.data.tupv
    have ha3 := (e2.trans e3).tu ha
    have ta3 := ta.mono (e2.trans e3)
    have hl := ta.length
    refine ⟨a, xs, rfl, ha3.sq, fun w => ?_, fun w p o hp hn => ?_⟩
    · rw [hl] at w
      have q3 : Φ (.dt (.tuple (cutD ds lo hi))) ω3 := q3
      rw [cutD_whole w.1 w.2] at q3
      exact k _ _ ω3 H3 q3 ((e.trans e2).trans e3) (slDt (.tup ha3 ta3)) p3
    · obtain ⟨se, tu⟩ := lay_same (xs := cutV xs lo hi) hp hn
      have te3 := (Ext.of se).tup
      exact k _ _ ω3 _ q3 (((e.trans e2).trans e3).trans te3) (slDt (.tup tu ((ta3.mono te3).cut lo hi))) (p3.same se)
theorem ox_cat (K : PySem.W.Frag) {ds es : List PyData} (hz : ds.length + es.length ≤ sizeLine) (q : Φ (.dt (.tuple (ds ++ es))) ω) : OX Tb (rCatF K) (.dt (.tuple ds)) (.dt (.tuple es)) ω Φ := fun B H x y Q S k1 k2 k => by
  obtain ⟨a, xs, rfl, ha, ta⟩ := k1.data.tupv
  obtain ⟨b, ys, rfl, hb, tb⟩ := k2.data.tupv
  refine ⟨a, b, xs, ys, rfl, rfl, ha.sq, hb.sq, by rw [ta.length, tb.length]; exact hz, fun e => ?_, fun _ e => ?_, fun _ _ p o hp hn => ?_⟩
  · subst e
    cases ta
    exact k _ _ ω H q (TupEx.refl H) (slDt (.tup hb tb)) S
  · subst e
    cases tb
    rw [List.append_nil] at q
    exact k _ _ ω H q (TupEx.refl H) (slDt (.tup ha ta)) S
  · obtain ⟨se, tu⟩ := lay_same (xs := xs ++ ys) hp hn
    have te3 := (Ext.of se).tup
    exact k _ _ ω _ q te3 (slDt (.tup tu ((ta.mono te3).app (tb.mono te3)))) (S.same se)
theorem SlsOk.data {B H : Hp} : ∀ {vs : List V} {ds : List PyData}, SlsOk B H vs (ds.map .dt) → TAs H vs ds
  | [], [], _ => .nil
  | [], _ :: _, h => h.elim
  | _ :: _, [], h => h.elim
  | _ :: _, _ :: _, h => .cons h.1.data (SlsOk.data h.2)
theorem ex_tup {t : L2.TA} (h : EA Tb t δ ω fun ss ω1 => ∃ ds, ss = ds.map .dt ∧ ds.length ≤ sizeLine ∧ Φ (.dt (.tuple ds)) ω1) : EX Tb (tTupF t) δ ω Φ := fun B σ H Q S k =>
  h B σ H _ S fun vs ss ω1 H1 q e kk p => by
    obtain ⟨ds, rfl, hz, q⟩ := q
    have ta := kk.data
    refine ⟨by rw [ta.length]; exact hz, fun p' o hp hn => ?_⟩
    obtain ⟨se, tu⟩ := lay_same (xs := vs) hp hn
    have te3 := (Ext.of se).tup
    exact k _ _ ω1 _ q (e.trans te3) (slDt (.tup tu (ta.mono te3))) (p.same se)
theorem ex_lst {t : L2.TA} (h : EA Tb t δ ω fun ss ω1 => ∃ ds, ss = ds.map .dt ∧ ds.length ≤ sizeLine ∧ ∀ p, Φ (.pt p) ((p, .ls ds) :: ω1)) : EX Tb (tLst t) δ ω Φ := fun B σ H Q S k =>
  h B σ H _ S fun vs ss ω1 H1 q e kk p => by
    obtain ⟨ds, rfl, hz, q⟩ := q
    have ta := kk.data
    refine ⟨by rw [ta.length]; exact hz, fun p' hp => ?_⟩
    have se := same_new (H := H1) (o := .lst vs) hp
    have te3 : TupEx H1 _ := (Ext.of se).tup
    exact k _ _ _ _ (q p') (e.trans te3) rfl (p.new se hp ⟨vs, upd_same, ta.mono te3⟩)
/-- a part of a list is a new list -/
theorem ex_slL (K : PySem.W.Frag) (h : EX Tb te δ ω fun s ω1 => PX Tb tl δ ω1 fun lo ω2 => PX Tb th δ ω2 fun hi ω3 => ∃ ds, IsLs ω3 s ds ∧ ∀ p, Φ (.pt p) ((p, .ls (cutD ds lo hi)) :: ω3)) : EX Tb (tSl (rSlL K) te tl th) δ ω Φ := fun B σ H Q S k =>
  h B σ H _ S fun v s ω1 H1 q e k1 p1 => by
    refine q B σ H1 _ (S.re e p1) fun lo ω2 H2 q2 e2 p2 => q2 B σ H2 _ ((S.re e p1).re e2 p2) fun hi ω3 H3 q3 e3 p3 => ?_
    obtain ⟨ds, hl, q⟩ := q3
    obtain ⟨a, xs, rfl, ha, ta⟩ := isLs hl p3 (k1.mono (e2.trans e3))
    refine ⟨a, xs, rfl, SqL.of ha, fun p hp => ?_⟩
    have se := same_new (H := H3) (o := .lst (cutV xs lo hi)) hp
    have te3 : TupEx H3 _ := (Ext.of se).tup
    exact k _ _ _ _ (q p) (((e.trans e2).trans e3).trans te3) rfl (p3.new se hp ⟨_, upd_same, (ta.mono te3).cut lo hi⟩)
/-! ### x is None -/
def NonB (s : Sl) (b : Bool) : Prop := match s with
  | .dt .none => b = true
  | .dt _ => b = false
  | .pt _ => b = false
  | .bo _ => b = false
  | .un => False
theorem nonB {B H : Hp} {x : V} {s : Sl} {b : Bool} (h : NonB s b) (k : SlOk B H (some x) s) : decide (x = .non) = b := by
  cases s with
  | un => exact h.elim
  | pt a =>
    rw [k.ref, show b = false from h]
    rfl
  | bo o =>
    obtain ⟨a, e, _⟩ := k
    cases e
    rw [show b = false from h]
    rfl
  | dt d =>
    have t := k.data
    cases t with
    | non => rw [show b = true from h]; rfl
    | bl => rw [show b = false from h]; rfl
    | int => rw [show b = false from h]; rfl
    | str => rw [show b = false from h]; rfl
    | tup => rw [show b = false from h]; rfl
theorem ex_isN (h : EX Tb ta δ ω fun s ω1 => ∃ b, NonB s b ∧ Φ (.dt (.bool b)) ω1) : EX Tb (tIsN ta) δ ω Φ := fun B σ H Q S k =>
  h B σ H _ S fun v s ω1 H1 q e k1 p1 => by
    obtain ⟨b, n, q⟩ := q
    rw [nonB n k1]
    exact k _ _ ω1 H1 q e (slDt (.bl _)) p1
theorem ex_notN (h : EX Tb ta δ ω fun s ω1 => ∃ b, NonB s b ∧ Φ (.dt (.bool (!b))) ω1) : EX Tb (tNotN ta) δ ω Φ := fun B σ H Q S k =>
  h B σ H _ S fun v s ω1 H1 q e k1 p1 => by
    obtain ⟨b, n, q⟩ := q
    rw [nonB n k1]
    exact k _ _ ω1 H1 q e (slDt (.bl _)) p1
theorem ox_isb {a b : Bool} (q : Φ (.dt (.bool (decide (a = b)))) ω) : OX Tb (fun x y H Q => ∃ a b, x = V.bl a ∧ y = V.bl b ∧ Q (.bl (decide (a = b))) H) (.dt (.bool a)) (.dt (.bool b)) ω Φ := fun B H x y Q S k1 k2 k =>
  ⟨a, b, k1.data.blv, k2.data.blv, k _ _ ω H q (TupEx.refl H) (slDt (.bl _)) S⟩
/-- a < b < c -/
theorem ex_chain {tc : TE} {r r' : R2} (h : EX Tb ta δ ω fun s1 ω1 => EX Tb tb δ ω1 fun s2 ω2 => OX Tb r s1 s2 ω2 fun s3 ω3 => ∃ b, s3 = .dt (.bool b) ∧ if b = true then EX Tb tc δ ω3 fun s4 ω4 => OX Tb r' s2 s4 ω4 Φ else Φ (.dt (.bool false)) ω3) :
    EX Tb (tChain r r' ta tb tc) δ ω Φ := fun B σ H Q S k =>
  h B σ H _ S fun x s1 ω1 H1 h1 e1 k1 p1 => h1 B σ H1 _ (S.re e1 p1) fun y s2 ω2 H2 h2 e2 k2 p2 => h2 B H2 x y _ p2 (k1.mono e2) k2 fun z s3 ω3 H3 h3 e3 k3 p3 => by
    obtain ⟨b, rfl, h3⟩ := h3
    refine ⟨b, k3.data.blv, ?_⟩
    cases b with
    | true => exact h3 B σ H3 _ (S.re ((e1.trans e2).trans e3) p3) fun w s4 ω4 H4 h4 e4 k4 p4 => h4 B H4 y w Q p4 ((k2.mono e3).mono e4) k4 fun v s ω' H' q e5 => k v s ω' H' q ((((e1.trans e2).trans e3).trans e4).trans e5)
    | false => exact k _ _ ω3 H3 h3 ((e1.trans e2).trans e3) (slDt (.bl _)) p3
end
end Km
/-! Text KmLogic3 -/
/-! The small logic: promises, calls, loops, comprehensions, dicts, instances. -/
namespace Km
open PySem PySem.Spec PyProof.Rows L2 LamX
variable {Tb : List (Addr × Str)}
/-! ### promises -/
abbrev Prm := List Sl → Om → (Sl → Om → Prop) → Prop
def spG (Tb : List (Addr × Str)) (n : Nat) (R : Prm) : Sp := fun vs H Q _ => vs.length = n ∧ ∃ B δ ω Φ, SlsOk B H vs δ ∧ HeapOk Tb B H ω ∧ R δ ω Φ ∧ ∀ v s ω' H', Φ s ω' → TupEx H H' → ROk H' v s → HeapOk Tb B H' ω' → Q v H'
theorem start_sees {B H : Hp} {N : List Str} {vs : List V} {δ : List Sl} {ω : Om} (h : SlsOk B H vs δ) (hp : HeapOk Tb B H ω) : Sees Tb B (L2.start N vs) H (δ ++ List.replicate (N.length - vs.length) .un) ω := by
  have hl := h.len
  refine ⟨hp, ?_, fun i s q => ?_⟩
  · unfold L2.start
    rw [List.length_append, List.length_append, List.length_map, List.length_replicate, List.length_replicate, hl]
  · unfold L2.start
    by_cases hi : i < δ.length
    · rw [List.getElem?_append_left hi] at q
      obtain ⟨v, h1, h2⟩ := h.at_ i s q
      refine ⟨some v, ?_, h2⟩
      rw [List.getElem?_append_left (by rw [List.length_map, hl]; exact hi), List.getElem?_map, h1]
      rfl
    · rw [List.getElem?_append_right (by omega), List.getElem?_replicate] at q
      split at q
      · rename_i hlt
        cases q
        refine ⟨none, ?_, True.intro⟩
        rw [List.getElem?_append_right (by rw [List.length_map, hl]; omega), List.getElem?_replicate, List.length_map, hl, if_pos (by omega)]
      · cases q
/-- a def's body keeps its promise -/
theorem body_ok {t : TS} {N : List Str} {n : Nat} {R : Prm} (h : ∀ δ ω Φ, R δ ω Φ → RR Tb t (δ ++ List.replicate (N.length - n) .un) ω { nx := fun _ ω' => ∃ ω'', Kp ω' ω'' ∧ Φ (.dt .none) ω'', rt := fun s ω' => ∃ ω'', Kp ω' ω'' ∧ Φ s ω'' })
    {vs : List V} {H : Hp} {Q : VK} {E : XK} (p : spG Tb n R vs H Q E) : t { nx := fun _ H' => Q .non H', rt := Q } (L2.start N vs) H := by
  obtain ⟨hl, B, δ, ω, Φ, h1, h2, h3, k⟩ := p
  have S := start_sees (N := N) h1 h2
  rw [hl] at S
  refine h δ ω Φ h3 B _ H _ S ?_ ?_ (fun _ _ _ _ z => z.elim) (fun _ _ _ _ z => z.elim)
  · rintro δ' ω' σ' H' ⟨ω'', kp, q⟩ e S'
    exact k .non _ ω'' H' q e .non (S'.hp.kp kp)
  · rintro v s ω' H' ⟨ω'', kp, q⟩ e r p
    exact k v s ω'' H' q e r (p.kp kp)
/-- what stands behind a def's name, and that it keeps its promise -/
def OkF (Tb : List (Addr × Str)) (P : Program) (w : World) (K : PySem.W.Frag) (mg : Str → Option Value) (base : Heap) (k : Nat) (x : Str) (ps : List Str) (R : Prm) : Prop :=
  ∃ f fd, FnOk P w K mg base CX0 k f fd ps (spG Tb ps.length R) ∧ mg x = some (.ref f) ∧ PySem.W.keepIn K (.ref f) = true ∧ Binds K fd ps []
theorem OkF.mono {P : Program} {w : World} {K : PySem.W.Frag} {mg : Str → Option Value} {base : Heap} {j k : Nat} {x : Str} {ps : List Str} {R : Prm} (h : OkF Tb P w K mg base j x ps R) (hj : j ≤ k) : OkF Tb P w K mg base k x ps R := by
  obtain ⟨f, fd, F, a, b, c⟩ := h
  exact ⟨f, fd, F.mono hj, a, b, c⟩
def tGo (Tb : List (Addr × Str)) (n : Nat) (R : Prm) (t : L2.TA) : TE := tCall (spG Tb n R) [] E0 t
theorem pe_go {X : Cx} {k : Nat} {x : Str} {ps : List Str} {R : Prm} {p pos : Pos} {e : Expr} {es : List Expr} {t : L2.TA} (n : Nat) (h : OkF Tb X.prog X.w X.K X.mg X.base k x ps R) (hr : Room k X.A) (hg : Gl X x) (ha : PA X (e :: es) t)
    (hn : ps.length = n := by rfl) (hdb : (x == ("__debug__" : Str)) = false := by decide) (he : starEach (e :: es) X.env = (false, eval e X.env) :: starEach es X.env := by rfl) (hpl : (backTo pos (starEach es X.env)).any (·.1) = false := by rfl) :
    PE X (.Call (.Name x p) (e :: es) [] pos) (tGo Tb n R t) := by
  subst hn
  obtain ⟨f, fd, F, g, kp, b⟩ := h
  exact pe_call F hr hg g kp b .nil pass0 ha hdb he hpl
/-! ### the callee's view -/
inductive Conv (fr : Om) : List Sl → List Sl → Prop
  | nil : Conv fr [] []
  | dt {ss ts : List Sl} {d : PyData} : Conv fr ss ts → Conv fr (.dt d :: ss) (.dt d :: ts)
  | pt {ss ts : List Sl} {a : Addr} : Conv fr ss ts → Conv fr (.pt a :: ss) (.pt a :: ts)
  | lend {ss ts : List Sl} {a : Addr} {o : Ob} : (a, o) ∈ fr → Conv fr ss ts → Conv fr (.pt a :: ss) (.bo o :: ts)
  | bo {ss ts : List Sl} {o : Ob} : Conv fr ss ts → Conv fr (.bo o :: ss) (.bo o :: ts)
/-- without what is handed over -/
def calm (H : Hp) (ωc : Om) : Hp := fun a => if a ∈ ωc.map (·.1) then none else H a
section
variable {B H : Hp} {ω ωc fr : Om}
theorem calm_of {a : Addr} {u : HO} (h : calm H ωc a = some u) : H a = some u ∧ a ∉ ωc.map (·.1) := by
  unfold calm at h
  split at h
  · cases h
  · exact ⟨h, by assumption⟩
theorem calm_in {a : Addr} {u : HO} (h : H a = some u) (n : a ∉ ωc.map (·.1)) : calm H ωc a = some u := by
  unfold calm
  rw [if_neg n]
  exact h
theorem HeapOk.apart (S : HeapOk Tb B H ω) (p : (ωc ++ fr).Perm ω) : (∀ q ∈ ωc, q ∈ ω) ∧ (∀ q ∈ fr, q ∈ ω) ∧ (ωc.map (·.1)).Nodup ∧ (fr.map (·.1)).Nodup ∧ ∀ q ∈ fr, q.1 ∉ ωc.map (·.1) := by
  have nd : ((ωc ++ fr).map (·.1)).Nodup := (p.map _).nodup_iff.mpr S.nd
  rw [List.map_append, List.nodup_append] at nd
  refine ⟨fun q h => p.mem_iff.mp (List.mem_append_left _ h), fun q h => p.mem_iff.mp (List.mem_append_right _ h), nd.1, nd.2.1, fun q h z => nd.2.2 _ z _ (List.mem_map.mpr ⟨q, h, rfl⟩) rfl⟩
theorem ob_not_tbl {a : Addr} {o : Ob} {ps : Array Value} (h : ObOk H a o) : H a ≠ some (.tbl ps) := fun z => by
  obtain ⟨u, hu, m⟩ := h.there
  rw [hu] at z
  exact m.2.1 ps (Option.some.inj z)
theorem ob_calm {a : Addr} {o : Ob} (h : ObOk H a o) (n : a ∉ ωc.map (·.1)) (S : HeapOk Tb B H ω) (hs : ∀ q ∈ ωc, q ∈ ω) : ObOk (calm H ωc) a o :=
  h.mono (fun b o xs hb => calm_in hb fun z => by
    obtain ⟨q, hq, e⟩ := List.mem_map.mp z
    obtain ⟨u, hu, m⟩ := (S.obs q (hs q hq)).1.there
    rw [e] at hu
    rw [show H b = some u from hu] at hb
    exact m.1 o xs (Option.some.inj hb)) fun u _ hu => calm_in hu n
theorem conv_ok (S : HeapOk Tb B H ω) (p : (ωc ++ fr).Perm ω) : ∀ {vs : List V} {ss ts : List Sl}, Conv fr ss ts → SlsOk B H vs ss → SlsOk (calm H ωc) H vs ts
  | [], _, _, .nil, _ => True.intro
  | _ :: _, _, _, .nil, h => h
  | _ :: _, _, _, .dt c, h => ⟨h.1, conv_ok S p c h.2⟩
  | _ :: _, _, _, .pt c, h => ⟨h.1, conv_ok S p c h.2⟩
  | _ :: _, _, _, .lend m c, h => by
    obtain ⟨h1, h2, _, _, h5⟩ := S.apart p
    exact ⟨⟨_, h.1, .inl (ob_calm (S.obs _ (h2 _ m)).1 (h5 _ m) S h1)⟩, conv_ok S p c h.2⟩
  | _ :: _, _, _, .bo c, h => by
    obtain ⟨h1, h2, _, _, h5⟩ := S.apart p
    obtain ⟨⟨a, e, o1⟩, h3⟩ := h
    refine ⟨⟨a, e, ?_⟩, conv_ok S p c h3⟩
    have out : ∀ u, B a = some u → a ∉ ωc.map (·.1) := fun u hu z => by
      obtain ⟨q, hq, e2⟩ := List.mem_map.mp z
      have n := (S.obs q (h1 q hq)).2
      rw [e2, hu] at n
      cases n
    rcases o1 with o1 | ⟨K, ns, e2, o1⟩
    · obtain ⟨u, hu, _⟩ := o1.there
      exact .inl (ob_calm (S.ex.ob o1) (out u hu) S h1)
    · refine .inr ⟨K, ns, e2, ?_⟩
      rcases o1 with (o1 | ⟨ob, o1⟩) | o1
      · exact .inl (.inl (calm_in (S.ex.ex a _ o1 fun _ z => nomatch z) (out _ o1)))
      · exact .inl (.inr ⟨ob, calm_in (S.ex.ex a _ o1 fun _ z => nomatch z) (out _ o1)⟩)
      · exact .inr o1
  | [], _, _, .dt _, h => h.elim
  | [], _, _, .pt _, h => h.elim
  | [], _, _, .lend _ _, h => h.elim
  | [], _, _, .bo _, h => h.elim
theorem calm_heap (S : HeapOk Tb B H ω) (p : (ωc ++ fr).Perm ω) : HeapOk Tb (calm H ωc) H ωc := by
  obtain ⟨h1, _, h3, _, _⟩ := S.apart p
  refine ⟨⟨fun b o hb _ => (calm_of hb).1, fun b ps hb => ⟨ps, (calm_of hb).1⟩⟩, S.tab, fun q hq => ⟨(S.obs q (h1 q hq)).1, ?_⟩, h3⟩
  unfold calm
  rw [if_pos (List.mem_map.mpr ⟨q, hq, rfl⟩)]
theorem calm_back {H' : Hp} {ω' : Om} (S : HeapOk Tb B H ω) (p : (ωc ++ fr).Perm ω) (S' : HeapOk Tb (calm H ωc) H' ω') : HeapOk Tb B H' (ω' ++ fr) := by
  obtain ⟨h1, h2, h3, h4, h5⟩ := S.apart p
  have nin : ∀ b u, B b = some u → b ∉ ωc.map (·.1) := fun b u hb z => by
    obtain ⟨q, hq, e⟩ := List.mem_map.mp z
    have n := (S.obs q (h1 q hq)).2
    rw [e, hb] at n
    cases n
  refine ⟨⟨fun b o hb nt => S'.ex.ex b o (calm_in (S.ex.ex b o hb nt) (nin b o hb)) nt, fun b ps hb => ?_⟩, S'.tab, fun q hq => ?_, ?_⟩
  · obtain ⟨qs, hq⟩ := S.ex.tb b ps hb
    exact S'.ex.tb b qs (calm_in hq (nin b _ hb))
  · rcases List.mem_append.mp hq with hq | hq
    · refine ⟨(S'.obs q hq).1, ?_⟩
      have n := (S'.obs q hq).2
      cases e : B q.1 with
      | none => rfl
      | some u =>
        by_cases ht : ∃ ps, u = .tbl ps
        · obtain ⟨ps, rfl⟩ := ht
          obtain ⟨qs, hqs⟩ := S.ex.tb _ ps e
          rw [calm_in hqs (nin _ _ e)] at n
          cases n
        · rw [calm_in (S.ex.ex _ u e fun ps z => ht ⟨ps, z⟩) (nin _ _ e)] at n
          cases n
    · exact ⟨S'.ex.ob (ob_calm (S.obs q (h2 q hq)).1 (h5 q hq) S h1), (S.obs q (h2 q hq)).2⟩
  · rw [List.map_append, List.nodup_append]
    refine ⟨S'.nd, h4, fun a ha b hb e => ?_⟩
    obtain ⟨q, hq, rfl⟩ := List.mem_map.mp ha
    obtain ⟨r, hr, rfl⟩ := List.mem_map.mp hb
    have n := (S'.obs q hq).2
    obtain ⟨u, hu, _⟩ := (S.obs r (h2 r hr)).1.there
    rw [e, calm_in hu (h5 r hr)] at n
    cases n
end
section
variable {te ta tb : TE} {c : TT} {ts tu : TS} {t : L2.TA} {δ : List Sl} {ω : Om} {Φ : Sl → Om → Prop} {P : Po} {n : Nat} {R : Prm}
theorem ex_go (h : EA Tb t δ ω fun ss ω1 => ss.length = n ∧ ∃ ωc fr δc Φc, (ωc ++ fr).Perm ω1 ∧ Conv fr ss δc ∧ R δc ωc Φc ∧ ∀ s ω', (∀ o, s ≠ .bo o) → Φc s ω' → Φ s (ω' ++ fr)) : EX Tb (tGo Tb n R t) δ ω Φ := fun B σ H Q S k =>
  h B σ H _ S fun vs ss ω1 H1 q e kk p => by
    obtain ⟨hn, ωc, fr, δc, Φc, hp, hc, hr, hk⟩ := q
    refine ⟨by rw [List.append_nil, kk.len]; exact hn, calm H1 ωc, δc, ωc, Φc, ?_, calm_heap p hp, hr, fun v s ω' H' q' e' r' p' => ?_⟩
    · rw [List.append_nil]
      exact conv_ok p hp hc kk
    · have nb : ∀ o, s ≠ .bo o := fun o z => by
        subst z
        exact r'
      exact k v s (ω' ++ fr) H' (hk s ω' nb q') (e.trans e') r'.sl (calm_back p hp p')
/-- data to data -/
def pureR (Pm : List PyData → (PyData → Prop) → Prop) : Prm := fun δ ω Φ => ω = [] ∧ ∃ ds, δ = ds.map .dt ∧ Pm ds fun d => Φ (.dt d) []
/-- data to a new list -/
def newR (Pm : List PyData → (List PyData → Prop) → Prop) : Prm := fun δ ω Φ => ω = [] ∧ ∃ ds, δ = ds.map .dt ∧ Pm ds fun es => ∀ p, Φ (.pt p) [(p, .ls es)]
theorem conv_data (fr : Om) : ∀ ds : List PyData, Conv fr (ds.map .dt) (ds.map .dt)
  | [] => .nil
  | _ :: ds => .dt (conv_data fr ds)
theorem ex_goD {Pm : List PyData → (PyData → Prop) → Prop} (h : EA Tb t δ ω fun ss ω1 => ∃ ds, ss = ds.map .dt ∧ ds.length = n ∧ Pm ds fun d => Φ (.dt d) ω1) : EX Tb (tGo Tb n (pureR Pm) t) δ ω Φ := ex_go fun B σ H Q S k => h B σ H Q S fun vs ss ω1 H1 q e kk p => by
  obtain ⟨ds, rfl, hn, q⟩ := q
  exact k vs _ ω1 H1 ⟨by rw [List.length_map]; exact hn, [], ω1, ds.map .dt, fun s ω' => Φ s (ω' ++ ω1), List.Perm.refl _, conv_data _ ds, ⟨rfl, ds, rfl, q⟩, fun s ω' _ z => z⟩ e kk p
theorem ex_goN {Pm : List PyData → (List PyData → Prop) → Prop} (h : EA Tb t δ ω fun ss ω1 => ∃ ds, ss = ds.map .dt ∧ ds.length = n ∧ Pm ds fun es => ∀ p, Φ (.pt p) ((p, .ls es) :: ω1)) : EX Tb (tGo Tb n (newR Pm) t) δ ω Φ := ex_go fun B σ H Q S k => h B σ H Q S fun vs ss ω1 H1 q e kk p => by
  obtain ⟨ds, rfl, hn, q⟩ := q
  exact k vs _ ω1 H1 ⟨by rw [List.length_map]; exact hn, [], ω1, ds.map .dt, fun s ω' => Φ s (ω' ++ ω1), List.Perm.refl _, conv_data _ ds, ⟨rfl, ds, rfl, q⟩, fun s ω' _ z => z⟩ e kk p
end
/-! ### walks -/
/-- J draws the data ds, as long as C holds of the objects -/
def Wk (Dr : DrT) (Tb : List (Addr × Str)) (B H1 : Hp) (J : It) (ds : List PyData) (C : Om → Prop) : Prop :=
  ∃ G Y, Walk J ds.length G Y ∧ (∀ H2 ω2, TupEx H1 H2 → HeapOk Tb B H2 ω2 → C ω2 → G H2) ∧ ∀ i H2 x H3, G H2 → Y i H2 x H3 → Same H2 H3 ∧ ∃ d, ds[i]? = some d ∧ Dr H3 x d
def IX (Dr : DrT) (Tb : List (Addr × Str)) (wi : TI) (δ : List Sl) (ω : Om) (Ψ : List PyData → (Om → Prop) → Om → Prop) : Prop :=
  ∀ (B : Hp) (σ : L2.St) (H : Hp) (R : It → Hp → Prop), Sees Tb B σ H δ ω → (∀ J ds C ω1 H1, Ψ ds C ω1 → Wk Dr Tb B H1 J ds C → TupEx H H1 → HeapOk Tb B H1 ω1 → R J H1) → wi σ H R
section
variable {te ta tb : TE} {c : TT} {ts tu : TS} {t : L2.TA} {δ : List Sl} {ω : Om} {Φ : Sl → Om → Prop} {P : Po} {Ψ : List PyData → (Om → Prop) → Om → Prop} {wi : TI} {g : TG}
theorem ix_tup (K : PySem.W.Frag) (h : EX Tb te δ ω fun s ω1 => ∃ ds, s = .dt (.tuple ds) ∧ Ψ ds (fun _ => True) ω1) : IX T Tb (iTup K te) δ ω Ψ := fun B σ H R S k =>
  h B σ H _ S fun v s ω1 H1 q e kk p => by
    obtain ⟨ds, rfl, q⟩ := q
    obtain ⟨a, xs, rfl, ha, ta⟩ := kk.data.tupv
    refine ⟨a, rfl, ⟨xs, ha.sq⟩, k _ ds _ ω1 H1 q ⟨fun H2 => TupEx H1 H2, _, (ta.length ▸ walk_tup (K := K) (a := a) (xs := xs)).mono (G' := fun H2 => TupEx H1 H2) (fun H2 e2 => (e2.tu ha).sq) (fun _ _ _ _ _ _ y => y), fun H2 _ e2 _ _ => e2, fun i H2 x H3 e2 y => ?_⟩ e p⟩
    obtain ⟨rfl, y⟩ := y
    obtain ⟨d, h1, h2⟩ := ta.at_ y
    exact ⟨fun _ _ z => z, d, h1, h2.mono e2⟩
/-- a list that stands: in B, or in ω -/
theorem ix_list (K : PySem.W.Frag) (h : EX Tb te δ ω fun s ω1 => ∃ ds, (s = .bo (.ls ds) ∧ Ψ ds (fun _ => True) ω1) ∨ ∃ a, s = .pt a ∧ (a, .ls ds) ∈ ω1 ∧ Ψ ds (fun ω' => (a, .ls ds) ∈ ω') ω1) : IX T Tb (iList K te) δ ω Ψ := fun B σ H R S k =>
  h B σ H _ S fun v s ω1 H1 q e kk p => by
    have wk : ∀ (a : Addr) (ds : List PyData), Walk (Itl K a) ds.length (fun H2 => ∃ xs, H2 a = some (.lst xs) ∧ TAs H2 xs ds) (fun i H2 x H3 => H3 = H2 ∧ ∃ d, ds[i]? = some d ∧ T H2 x d) := fun a ds => by
      refine ⟨fun i H2 hi ⟨xs, h1, h2⟩ => ⟨xs, xs[i]'(by rw [h2.length]; exact hi), SqL.of h1, by simp [h2.length, hi]⟩, fun H2 ⟨xs, h1, h2⟩ => ⟨xs, SqL.of h1, by rw [h2.length]; exact Nat.le_refl _⟩, fun i H2 x H3 hi ⟨xs, h1, h2⟩ y => ?_⟩
      obtain ⟨rfl, y⟩ := y
      exact ⟨rfl, h2.at_ (y xs (SqL.of h1))⟩
    obtain ⟨ds, ⟨rfl, q⟩ | ⟨a, rfl, m, q⟩⟩ := q
    · obtain ⟨a, e1, ⟨xs, h1, h2⟩ | ⟨_, _, e2, _⟩⟩ := kk
      case inr => cases e2
      cases e1
      refine ⟨a, rfl, ⟨xs, SqL.of (p.ex.ex a _ h1 fun _ z => nomatch z)⟩, k _ ds _ ω1 H1 q ⟨_, _, wk a ds, fun H2 ω2 e2 p2 _ => ⟨xs, p2.ex.ex a _ h1 (fun _ z => nomatch z), h2.mono p2.ex.tup⟩, fun i H2 x H3 _ y => ?_⟩ e p⟩
      obtain ⟨rfl, y⟩ := y
      exact ⟨fun _ _ z => z, y⟩
    · cases kk.ref
      obtain ⟨xs, h1, h2⟩ := (p.obs _ m).1
      refine ⟨a, rfl, ⟨xs, SqL.of h1⟩, k _ ds _ ω1 H1 q ⟨_, _, wk a ds, fun H2 ω2 e2 p2 m2 => (p2.obs _ m2).1, fun i H2 x H3 _ y => ?_⟩ e p⟩
      obtain ⟨rfl, y⟩ := y
      exact ⟨fun _ _ z => z, y⟩
def rangeD (lo : Int) (n : Nat) : List PyData := (List.range n).map fun i => .int (lo + (i : Nat))
theorem rangeD_at {lo : Int} {n i : Nat} (h : i < n) : (rangeD lo n)[i]? = some (.int (lo + (i : Nat))) := by
  unfold rangeD
  rw [List.getElem?_map, List.getElem?_range h]
  rfl
theorem rangeD_len {lo : Int} {n : Nat} : (rangeD lo n).length = n := by
  unfold rangeD
  rw [List.length_map, List.length_range]
theorem rangeD_wk (Tb : List (Addr × Str)) (B H1 : Hp) (lo : Int) (n : Nat) : Wk T Tb B H1 (Itr lo n) (rangeD lo n) fun _ => True :=
  ⟨fun _ => True, fun i H2 x H3 => (H3 = H2 ∧ x = .int (lo + (i : Nat))) ∧ i < n, by
    rw [rangeD_len]
    exact ⟨fun i _ hi _ => hi, fun _ _ => Nat.le_refl n, fun i H2 x H3 hi _ y => ⟨y, hi⟩⟩, fun _ _ _ _ _ => True.intro, fun i H2 x H3 _ ⟨⟨e1, e2⟩, hi⟩ => by
    subst e1 e2
    exact ⟨fun _ _ z => z, _, rangeD_at hi, .int _⟩⟩
theorem ix_range1 (h : EA Tb t δ ω fun ss ω1 => ∃ j : Int, ss = [.dt (.int j)] ∧ -(2 ^ 62) ≤ j ∧ j < 2 ^ 62 ∧ Ψ (rangeD 0 j.toNat) (fun _ => True) ω1) : IX T Tb (iRng1 t) δ ω Ψ := fun B σ H R S k =>
  h B σ H _ S fun vs ss ω1 H1 q e kk p => by
    obtain ⟨j, rfl, b1, b2, q⟩ := q
    match vs, kk with
    | [v], kk => exact ⟨j, by rw [kk.1.data.intv], b1, b2, k _ _ _ ω1 H1 q (rangeD_wk Tb B H1 0 j.toNat) e p⟩
theorem ix_range2 (h : EA Tb t δ ω fun ss ω1 => ∃ i j : Int, ss = [.dt (.int i), .dt (.int j)] ∧ (-(2 ^ 62) ≤ i ∧ i < 2 ^ 62 ∧ -(2 ^ 62) ≤ j ∧ j < 2 ^ 62) ∧ Ψ (rangeD i (j - i).toNat) (fun _ => True) ω1) : IX T Tb (iRng2 t) δ ω Ψ := fun B σ H R S k =>
  h B σ H _ S fun vs ss ω1 H1 q e kk p => by
    obtain ⟨i, j, rfl, b, q⟩ := q
    match vs, kk with
    | [v, w], kk => exact ⟨i, j, by rw [kk.1.data.intv, kk.2.1.data.intv], b, k _ _ _ ω1 H1 q (rangeD_wk Tb B H1 i _) e p⟩
/-- i, i - 1, .. above j -/
def downD (i : Int) (n : Nat) : List PyData := (List.range n).map fun m => .int (i - (m : Nat))
theorem ix_down (h : EA Tb t δ ω fun ss ω1 => ∃ i j : Int, ss = [.dt (.int i), .dt (.int j), .dt (.int (-1))] ∧ (-(2 ^ 62) ≤ i ∧ i < 2 ^ 62 ∧ -(2 ^ 62) ≤ j ∧ j < 2 ^ 62) ∧ Ψ (downD i (i - j).toNat) (fun _ => True) ω1) : IX T Tb (iRng3 t) δ ω Ψ := fun B σ H R S k =>
  h B σ H _ S fun vs ss ω1 H1 q e kk p => by
    obtain ⟨i, j, rfl, ⟨b1, b2, b3, b4⟩, q⟩ := q
    match vs, kk with
    | [v, w, u], kk =>
      refine ⟨i, j, -1, (i - j).toNat, by rw [kk.1.data.intv, kk.2.1.data.intv, kk.2.2.1.data.intv], RgC.neg b1 b2 b3 b4, k _ _ _ ω1 H1 q ⟨fun _ => True, fun m H2 x H3 => (H3 = H2 ∧ x = .int (i + (m : Nat) * (-1))) ∧ m < (i - j).toNat, ?_, fun _ _ _ _ _ => True.intro, ?_⟩ e p⟩
      · have hl : (downD i (i - j).toNat).length = (i - j).toNat := by
          unfold downD
          rw [List.length_map, List.length_range]
        rw [hl]
        exact ⟨fun i _ hi _ => hi, fun _ _ => Nat.le_refl _, fun i H2 x H3 hi _ y => ⟨y, hi⟩⟩
      · rintro m H2 x H3 _ ⟨⟨e1, e2⟩, hm⟩
        subst e1 e2
        refine ⟨fun _ _ z => z, .int (i - (m : Nat)), ?_, ?_⟩
        · unfold downD
          rw [List.getElem?_map, List.getElem?_range hm]
          rfl
        · have e : i + (m : Nat) * (-1) = i - (m : Nat) := by omega
          rw [e]
          exact .int _
def signsD (z : Str) : List PyData := z.cps.toList.map fun c => .str ⟨#[c]⟩
theorem ix_str (h : EX Tb te δ ω fun s ω1 => ∃ z, s = .dt (.str z) ∧ Ψ (signsD z) (fun _ => True) ω1) : IX T Tb (iStr te) δ ω Ψ := fun B σ H R S k =>
  h B σ H _ S fun v s ω1 H1 q e kk p => by
    obtain ⟨z, rfl, q⟩ := q
    refine ⟨z, kk.data.strv, k _ _ _ ω1 H1 q ⟨fun _ => True, _, (show z.cps.size = (signsD z).length by unfold signsD; simp) ▸ walk_str (z := z), fun _ _ _ _ _ => True.intro, ?_⟩ e p⟩
    rintro i H2 x H3 _ ⟨e1, c, hc, e2⟩
    subst e1 e2
    refine ⟨fun _ _ z => z, .str ⟨#[c]⟩, ?_, .str _⟩
    unfold signsD
    rw [List.getElem?_map, Array.getElem?_toList, hc]
    rfl
/-! ### for -/
theorem rr_forE (Dr : DrT) (h : IX Dr Tb wi δ ω fun ds C ω1 => ∃ I : Nat → List Sl → Om → Prop, I 0 δ ω1 ∧ (∀ i δ' ω', I i δ' ω' → C ω') ∧
      (∀ i d δ' ω', ds[i]? = some d → I i δ' ω' → ∃ js δ2, GX Dr g d js δ' δ2 ∧ RR Tb ts δ2 ω' { nx := fun δ3 ω3 => ∃ ω4, Kp ω3 ω4 ∧ I (i + 1) δ3 ω4, ct := fun δ3 ω3 => ∃ ω4, Kp ω3 ω4 ∧ I (i + 1) δ3 ω4, bk := P.nx, rt := P.rt }) ∧ ∀ δ' ω', I ds.length δ' ω' → P.nx δ' ω') :
    RR Tb (tFor wi g ts) δ ω P := fun B σ H D S k1 k2 k3 k4 =>
  h B σ H _ S fun J ds C ω1 H1 q wk e p => by
    obtain ⟨G, Y, w, hG, hY⟩ := wk
    obtain ⟨I, i0, iC, is, ie⟩ := q
    refine for_it w (fun i σ' H' => ∃ δ' ω', I i δ' ω' ∧ TupEx H1 H' ∧ Sees Tb B σ' H' δ' ω') ⟨δ, ω1, i0, TupEx.refl _, S.re e p⟩ ?_ ?_ ?_
    · rintro i σ' H' _ ⟨δ', ω', hI, e2, S2⟩
      exact hG H' ω' e2 S2.hp (iC i δ' ω' hI)
    · rintro i x σ' H' H2 hi ⟨δ', ω', hI, e2, S2⟩ y
      obtain ⟨sm, d, hd, td⟩ := hY i H' x H2 (hG H' ω' e2 S2.hp (iC i δ' ω' hI)) y
      obtain ⟨js, δ2, hg, rr⟩ := is i d δ' ω' hd hI
      have e3 : TupEx H1 H2 := e2.trans (Ext.of sm).tup
      refine hg Tb B σ' H2 x ω' _ (S2.same sm) td fun σ3 S3 _ => rr B σ3 H2 _ S3 ?_ ?_ ?_ ?_
      · rintro δ3 ω3 σ4 H4 ⟨ω4, kp, hI4⟩ e4 S4
        exact ⟨δ3, ω4, hI4, e3.trans e4, S4.kp kp⟩
      · intro v s ω3 H4 q4 e4 r4 p4
        exact k2 v s ω3 H4 q4 ((e.trans e3).trans e4) r4 p4
      · intro δ3 ω3 σ4 H4 q4 e4 S4
        exact k1 δ3 ω3 σ4 H4 q4 ((e.trans e3).trans e4) S4
      · rintro δ3 ω3 σ4 H4 ⟨ω4, kp, hI4⟩ e4 S4
        exact ⟨δ3, ω4, hI4, e3.trans e4, S4.kp kp⟩
    · rintro σ' H' ⟨δ', ω', hI, e2, S2⟩
      exact k1 δ' ω' σ' H' (ie δ' ω' hI) (e.trans e2) S2
theorem rr_for (Dr : DrT) (I : Nat → List Sl → Om → Prop) (h : IX Dr Tb wi δ ω fun ds C ω1 => I 0 δ ω1 ∧ (∀ i δ' ω', I i δ' ω' → C ω') ∧
      (∀ i d δ' ω', ds[i]? = some d → I i δ' ω' → ∃ js δ2, GX Dr g d js δ' δ2 ∧ RR Tb ts δ2 ω' { nx := fun δ3 ω3 => ∃ ω4, Kp ω3 ω4 ∧ I (i + 1) δ3 ω4, ct := fun δ3 ω3 => ∃ ω4, Kp ω3 ω4 ∧ I (i + 1) δ3 ω4, bk := P.nx, rt := P.rt }) ∧ ∀ δ' ω', I ds.length δ' ω' → P.nx δ' ω')  :
    RR Tb (tFor wi g ts) δ ω P := rr_forE Dr fun B σ H R S k => h B σ H R S fun J ds C ω1 H1 q => k J ds C ω1 H1 ⟨I, q⟩
/-! ### comprehensions -/
def wipeS (δ : List Sl) : List Nat → List Sl
  | [] => δ
  | v :: vs => (wipeS δ vs).set v .un
theorem Sees.wipe {B H : Hp} {σ : L2.St} {δ : List Sl} {ω : Om} (h : Sees Tb B σ H δ ω) : ∀ vs : List Nat, Sees Tb B (wipe σ vs) H (wipeS δ vs) ω
  | [] => h
  | v :: vs => (Sees.wipe h vs).unset v
theorem take_succ {α : Type} {l : List α} {i : Nat} {a : α} (h : l[i]? = some a) : l.take (i + 1) = l.take i ++ [a] := by
  rw [List.take_succ, h]
  rfl
/-- [elt for target in iter if test]: F tells each one's part -/
theorem ex_lc (Dr : DrT) {tt : TT} {vs : List Nat} (F : PyData → Option PyData) (h : IX Dr Tb wi δ ω fun ds C ω1 => ds.length ≤ sizeLine ∧ (∀ p, C (p :: ω1)) ∧
      (∀ d ∈ ds, ∃ js δ2, GX Dr g d js (wipeS δ vs) δ2 ∧ (∀ j ∈ js, j ∈ vs) ∧ ∀ D acc, ET Tb tt δ2 ((D, .ls acc) :: ω1) fun b ω2 => if b = true then EX Tb te δ2 ω2 fun s ω3 => ∃ e, s = .dt e ∧ F d = some e ∧ Kp ω3 ((D, .ls acc) :: ω1) else F d = none ∧ Kp ω2 ((D, .ls acc) :: ω1)) ∧
      ∀ p, Φ (.pt p) ((p, .ls (ds.filterMap F)) :: ω1)) : EX Tb (tLc wi g tt te vs) δ ω Φ := fun B σ H Q S k =>
  h B σ H _ S fun J ds C ω1 H1 q wk e p D hD => by
    obtain ⟨G, Y, w, hG, hY⟩ := wk
    obtain ⟨hz, hC, hb, hq⟩ := q
    have se := same_new (H := H1) (o := .lst []) hD
    refine lc_it w (fun i H' => TupEx H1 H' ∧ HeapOk Tb B H' ((D, .ls ((ds.take i).filterMap F)) :: ω1)) ⟨(Ext.of se).tup, p.new se hD ⟨[], upd_same, .nil⟩⟩ ?_ ?_ ?_
    · rintro i H' _ ⟨e2, p2⟩
      exact hG H' _ e2 p2 (hC _)
    · rintro i x H' H2 hi ⟨e2, p2⟩ y
      obtain ⟨sm, d, hd, td⟩ := hY i H' x H2 (hG H' _ e2 p2 (hC _)) y
      obtain ⟨js, δ2, hg, hj, hx⟩ := hb d (List.mem_of_getElem? hd)
      have e3 : TupEx H1 H2 := e2.trans (Ext.of sm).tup
      have p3 := p2.same sm
      have S2 : Sees Tb B σ H2 δ ((D, .ls ((ds.take i).filterMap F)) :: ω1) := (S.re (e.trans e3) p3)
      refine hg Tb B _ H2 x _ _ (S2.wipe vs) td fun σ3 S3 hw => ⟨(hw vs hj).trans (wipe_idem σ vs), ?_⟩
      refine hx D _ B σ3 H2 _ S3 fun b ω2 H3 q3 e4 p4 => ?_
      have tk := take_succ hd
      cases b with
      | true =>
        rw [if_pos rfl] at q3 ⊢
        refine q3 B σ3 H3 _ (S3.re e4 p4) fun v s ω3 H4 q4 e5 k5 p5 => ?_
        obtain ⟨e', rfl, hF, kp⟩ := q4
        have p6 := p5.kp kp
        obtain ⟨xs, hx1, hx2⟩ := (p6.obs _ (List.mem_cons_self ..)).1
        refine ⟨xs, hx1, ?_, ?_⟩
        · rw [hx2.length]
          have l1 : ((ds.take i).filterMap F).length ≤ (ds.take i).length := List.length_filterMap_le ..
          have l2 : (ds.take i).length = i := by rw [List.length_take]; omega
          omega
        · have pp := p6.put (j := 0) (u := .lst (xs ++ [v])) (o' := .ls ((ds.take (i + 1)).filterMap F)) rfl ⟨xs ++ [v], upd_same, by
            have te5 : TupEx H4 (upd H4 D (.lst (xs ++ [v]))) := fun b o ys hy => by
              rw [upd_ne (fun z => by subst z; rw [hx1] at hy; cases hy)]
              exact hy
            rw [tk, List.filterMap_append, List.filterMap_cons, hF]
            exact (hx2.mono te5).app (.one (k5.data.mono te5))⟩
          exact ⟨((e3.trans e4).trans e5).trans pp.2, pp.1⟩
      | false =>
        obtain ⟨hF, kp⟩ := q3
        refine ⟨e3.trans e4, ?_⟩
        rw [tk, List.filterMap_append, List.filterMap_cons, hF]
        simp only [List.filterMap_nil, List.append_nil]
        exact p4.kp kp
    · rintro H' ⟨e2, p2⟩
      rw [List.take_length] at p2
      exact k _ _ _ H' (hq D) (e.trans e2) rfl p2
theorem et_yes {Θ : Bool → Om → Prop} (q : Θ true ω) : ET Tb tYes δ ω Θ := fun B σ H Q S k => k true ω H q (TupEx.refl H) S.hp
end
end Km
/-! Text KmLogic4 -/
/-! The small logic: methods of lists, built-in calls, dicts, instances, further targets. -/
namespace Km
open PySem PySem.Spec PyProof.Rows L2 LamX
variable {Tb : List (Addr × Str)}
section
variable {te ta tb td ty tv : TE} {c : TT} {ts tu : TS} {t : L2.TA} {δ : List Sl} {ω : Om} {Φ : Sl → Om → Prop} {P : Po} {wi : TI} {g : TG}
theorem HeapOk.lsPut {B H : Hp} (S : HeapOk Tb B H ω) {j : Nat} {a : Addr} {ds es : List PyData} {xs ys : List V} (hj : ω[j]? = some (a, .ls ds)) (hx : H a = some (.lst xs)) (ty : TAs H ys es) :
    HeapOk Tb B (upd H a (.lst ys)) (ω.set j (a, .ls es)) ∧ TupEx H (upd H a (.lst ys)) := by
  have te : TupEx H (upd H a (.lst ys)) := fun b o zs hz => by
    rw [upd_ne (fun z => by subst z; rw [hx] at hz; cases hz)]
    exact hz
  exact S.put hj ⟨ys, upd_same, ty.mono te⟩
theorem HeapOk.lsAt {B H : Hp} (S : HeapOk Tb B H ω) {j : Nat} {a : Addr} {ds : List PyData} (hj : ω[j]? = some (a, .ls ds)) : ∃ xs, H a = some (.lst xs) ∧ TAs H xs ds := (S.obs _ (List.mem_of_getElem? hj)).1
/-- l.append(e), first the list, then the item -/
theorem ex_append (K : PySem.W.Frag) (j : Nat) (h : EX Tb ta δ ω fun s ω1 => ∃ a, s = .pt a ∧ (∃ ds0, (a, Ob.ls ds0) ∈ ω1) ∧ EA Tb t δ ω1 fun ss ω2 => ∃ d, ss = [.dt d] ∧ ∃ ds, ω2[j]? = some (a, .ls ds) ∧ ds.length < sizeLine ∧ Φ (.dt .none) (ω2.set j (a, .ls (ds ++ [d])))) :
    EX Tb (tBM K "list" rAppend ta t) δ ω Φ := fun B σ H Q S k =>
  h B σ H _ S fun v s ω1 H1 q e kk p => by
    obtain ⟨a, rfl, ⟨ds0, m⟩, q⟩ := q
    obtain ⟨xs0, h0, _⟩ := (p.obs _ m).1
    cases kk.ref
    refine ⟨.inl ⟨rfl, xs0, SqL.of h0⟩, q B σ H1 _ (S.re e p) fun vs ss ω2 H2 q2 e2 k2 p2 => ?_⟩
    obtain ⟨d, rfl, ds, hj, hz, q3⟩ := q2
    obtain ⟨xs, hx, tx⟩ := p2.lsAt hj
    match vs, k2 with
    | [y], k2 =>
      obtain ⟨p3, te⟩ := p2.lsPut hj hx (tx.app (.one k2.1.data))
      exact ⟨a, xs, y, rfl, rfl, hx, by rw [tx.length]; exact hz, k _ _ _ _ q3 ((e.trans e2).trans te) (slDt .non) p3⟩
/-- l.pop() -/
theorem ex_pop (K : PySem.W.Frag) (j : Nat) (h : EX Tb ta δ ω fun s ω1 => ∃ a ds d, s = .pt a ∧ ω1[j]? = some (a, .ls (ds ++ [d])) ∧ Φ (.dt d) (ω1.set j (a, .ls ds))) : EX Tb (tBM0 K "list" rPop ta) δ ω Φ := fun B σ H Q S k =>
  h B σ H _ S fun v s ω1 H1 q e kk p => by
    obtain ⟨a, ds, d, rfl, hj, q⟩ := q
    obtain ⟨xs, hx, tx⟩ := p.lsAt hj
    cases kk.ref
    refine ⟨.inl ⟨rfl, xs, SqL.of hx⟩, ?_⟩
    have hl := tx.length
    rw [List.length_append] at hl
    obtain ⟨y, hy, ty⟩ := tx.get (i := xs.length - 1) (d := d) (by rw [hl]; simp)
    have td : TAs H1 xs.dropLast ds := by
      have := tx.dropLast
      rwa [List.dropLast_concat] at this
    obtain ⟨p3, te⟩ := p.lsPut hj hx td
    exact ⟨a, xs, y, rfl, rfl, hx, hy, k _ _ _ _ q (e.trans te) (slDt (ty.mono te)) p3⟩
/-- l.pop(i) -/
theorem ex_popAt (K : PySem.W.Frag) (j : Nat) (h : EX Tb ta δ ω fun s ω1 => ∃ a, s = .pt a ∧ (∃ ds0, (a, Ob.ls ds0) ∈ ω1) ∧ EA Tb t δ ω1 fun ss ω2 => ∃ i : Nat, ss = [.dt (.int i)] ∧ ∃ ds d, ω2[j]? = some (a, .ls ds) ∧ i < 2 ^ 62 ∧ ds[i]? = some d ∧ Φ (.dt d) (ω2.set j (a, .ls (ds.eraseIdx i)))) :
    EX Tb (tBM K "list" rPopAt ta t) δ ω Φ := fun B σ H Q S k =>
  h B σ H _ S fun v s ω1 H1 q e kk p => by
    obtain ⟨a, rfl, ⟨ds0, m⟩, q⟩ := q
    obtain ⟨xs0, h0, _⟩ := (p.obs _ m).1
    cases kk.ref
    refine ⟨.inl ⟨rfl, xs0, SqL.of h0⟩, q B σ H1 _ (S.re e p) fun vs ss ω2 H2 q2 e2 k2 p2 => ?_⟩
    obtain ⟨i, rfl, ds, d, hj, hi, hd, q3⟩ := q2
    obtain ⟨xs, hx, tx⟩ := p2.lsAt hj
    match vs, k2 with
    | [y], k2 =>
      obtain ⟨p3, te⟩ := p2.lsPut hj hx (tx.erase i)
      obtain ⟨v, hv, tv⟩ := tx.get hd
      have hlt : i < xs.length := (List.getElem?_eq_some_iff.mp hv).1
      refine ⟨a, xs, (i : Int), i, v, rfl, by rw [k2.1.data.intv], hx, by omega, by omega, ?_, hv, k _ _ _ _ q3 ((e.trans e2).trans te) (slDt (tv.mono te)) p3⟩
      exact (ixN_seq (n := xs.length) (i := (i : Int)) (j := i) (by unfold ixN; rw [if_pos (by omega), if_pos (by omega)]; rfl)).1
/-- l.extend(m), m a list of one's own -/
theorem ex_extend (K : PySem.W.Frag) (j : Nat) (h : EX Tb ta δ ω fun s ω1 => ∃ a, s = .pt a ∧ (∃ ds0, (a, Ob.ls ds0) ∈ ω1) ∧ EA Tb t δ ω1 fun ss ω2 => ∃ b, ss = [.pt b] ∧ ∃ ds es, ω2[j]? = some (a, .ls ds) ∧ (b, Ob.ls es) ∈ ω2 ∧ ds.length + es.length ≤ sizeLine ∧ Φ (.dt .none) (ω2.set j (a, .ls (ds ++ es)))) :
    EX Tb (tBM K "list" rExtend ta t) δ ω Φ := fun B σ H Q S k =>
  h B σ H _ S fun v s ω1 H1 q e kk p => by
    obtain ⟨a, rfl, ⟨ds0, m⟩, q⟩ := q
    obtain ⟨xs0, h0, _⟩ := (p.obs _ m).1
    cases kk.ref
    refine ⟨.inl ⟨rfl, xs0, SqL.of h0⟩, q B σ H1 _ (S.re e p) fun vs ss ω2 H2 q2 e2 k2 p2 => ?_⟩
    obtain ⟨b, rfl, ds, es, hj, mb, hz, q3⟩ := q2
    obtain ⟨xs, hx, tx⟩ := p2.lsAt hj
    obtain ⟨ys, hy, ty⟩ := (p2.obs _ mb).1
    match vs, k2 with
    | [y], k2 =>
      obtain ⟨p3, te⟩ := p2.lsPut hj hx (tx.app ty)
      exact ⟨a, b, xs, ys, rfl, by rw [k2.1.ref], hx, hy, by rw [tx.length, ty.length]; exact hz, k _ _ _ _ q3 ((e.trans e2).trans te) (slDt .non) p3⟩
/-- t.index(x) -/
theorem ex_tix (K : PySem.W.Frag) (h : EX Tb ta δ ω fun s ω1 => ∃ ys : List Str, s = .dt (.tuple (ys.map .str)) ∧ EA Tb t δ ω1 fun ss ω2 => ∃ z, ss = [.dt (.str z)] ∧ z ∈ ys ∧ Φ (.dt (.int (ys.idxOf z : Nat))) ω2) : EX Tb (tTix K ta t) δ ω Φ := fun B σ H Q S k =>
  h B σ H _ S fun v s ω1 H1 q e kk p => by
    obtain ⟨ys, rfl, q⟩ := q
    obtain ⟨a, xs, rfl, ha, tx⟩ := kk.data.tupv
    refine ⟨a, xs, rfl, ha, q B σ H1 _ (S.re e p) fun vs ss ω2 H2 q2 e2 k2 p2 => ?_⟩
    obtain ⟨z, rfl, hm, q3⟩ := q2
    match vs, k2 with
    | [y], k2 =>
      have ex := tx.strs
      subst ex
      have hlt : ys.idxOf z < ys.length := List.idxOf_lt_length_of_mem hm
      refine ⟨ys, z, ys.idxOf z, by rw [k2.1.data.strv], (e2.tu ha).sq, ?_, fun m hm2 e3 => ?_, k _ _ _ _ q3 (e.trans e2) (slDt (.int _)) p2⟩
      · rw [List.getElem?_eq_getElem hlt, List.getElem_idxOf]
      · obtain ⟨h1, h2⟩ := List.getElem?_eq_some_iff.mp e3
        have := List.not_of_lt_findIdx (p := (· == z)) (xs := ys) hm2
        simp [h2] at this
end
/-! ### built-in calls -/
abbrev rLenQ (K : PySem.W.Frag) : List V → Hp → VK → Prop := fun xs H Q => ∃ p ys, xs = [.ref p] ∧ (SqL K H p ys ∨ SqT K H p ys) ∧ Q (.int ys.length) H
abbrev rLenT : List V → Hp → VK → Prop := fun xs H Q => ∃ z, xs = [.str z] ∧ z.length ≤ sizeLine ∧ Q (.int z.length) H
abbrev rMax2 : List V → Hp → VK → Prop := fun xs H Q => ∃ i j, xs = [.int i, .int j] ∧ Q (.int (if j > i then j else i)) H
abbrev rMin2 : List V → Hp → VK → Prop := fun xs H Q => ∃ i j, xs = [.int i, .int j] ∧ Q (.int (if j < i then j else i)) H
abbrev rInt1 : List V → Hp → VK → Prop := fun xs H Q => (∃ i, xs = [.int i] ∧ Q (.int i) H) ∨ ∃ k, xs = [.bl k] ∧ Q (.int (if k then 1 else 0)) H
abbrev rListO (K : PySem.W.Frag) : List V → Hp → VK → Prop := fun xs H Q => ∃ p ys, xs = [.ref p] ∧ (SqL K H p ys ∨ SqT K H p ys) ∧ ∀ l, H l = none → Q (.ref l) (upd H l (.lst ys))
section
variable {X : Cx}
theorem cr_lenQ : CallR X (.builtin "len") (rLenQ X.K) := call_len_seq
theorem cr_lenT : CallR X (.builtin "len") rLenT := call_len_str
theorem cr_max2 (hc : X.calm = true) : CallR X (.builtin "max") rMax2 := call_max2 hc
theorem cr_min2 (hc : X.calm = true) : CallR X (.builtin "min") rMin2 := call_min2 hc
theorem cr_int1 : CallR X (.type "int") rInt1 := call_int1
theorem cr_listO : CallR X (.type "list") (rListO X.K) := call_list_of
end
section
variable {ω : Om} {Φ : Sl → Om → Prop} {s : Sl}
theorem one_of {B H : Hp} {vs : List V} {s : Sl} (h : SlsOk B H vs [s]) : ∃ v, vs = [v] ∧ SlOk B H (some v) s := by
  match vs, h with
  | [v], h => exact ⟨v, rfl, h.1⟩
theorem two_of {B H : Hp} {vs : List V} {s t : Sl} (h : SlsOk B H vs [s, t]) : ∃ v w, vs = [v, w] ∧ SlOk B H (some v) s ∧ SlOk B H (some w) t := by
  match vs, h with
  | [v, w], h => exact ⟨v, w, rfl, h.1, h.2.1⟩
theorem kx_lenT (K : PySem.W.Frag) {ds : List PyData} (q : Φ (.dt (.int (ds.length : Nat))) ω) : KX Tb (rLenQ K) [.dt (.tuple ds)] ω Φ := fun B H vs Q S h k => by
  obtain ⟨v, rfl, hv⟩ := one_of h
  replace h := hv
  obtain ⟨a, xs, rfl, ha, ta⟩ := h.data.tupv
  exact ⟨a, xs, rfl, .inr ha.sq, k _ _ ω H q (TupEx.refl H) (slDt (by rw [ta.length]; exact .int _)) S⟩
theorem kx_lenL (K : PySem.W.Frag) {ds : List PyData} (hl : IsLs ω s ds) (q : Φ (.dt (.int (ds.length : Nat))) ω) : KX Tb (rLenQ K) [s] ω Φ := fun B H vs Q S h k => by
  obtain ⟨v, rfl, hv⟩ := one_of h
  replace h := hv
  obtain ⟨a, xs, rfl, ha, ta⟩ := isLs hl S h
  exact ⟨a, xs, rfl, .inl (SqL.of ha), k _ _ ω H q (TupEx.refl H) (slDt (by rw [ta.length]; exact .int _)) S⟩
theorem kx_lenS {z : Str} (hz : z.length ≤ sizeLine) (q : Φ (.dt (.int (z.length : Nat))) ω) : KX Tb rLenT [.dt (.str z)] ω Φ := fun B H vs Q S h k => by
  obtain ⟨v, rfl, hv⟩ := one_of h
  replace h := hv
  exact ⟨z, by rw [h.data.strv], hz, k _ _ ω H q (TupEx.refl H) (slDt (.int _)) S⟩
theorem kx_max2 {i j : Int} (q : Φ (.dt (.int (if j > i then j else i))) ω) : KX Tb rMax2 [.dt (.int i), .dt (.int j)] ω Φ := fun B H vs Q S h k => by
  obtain ⟨v, w, rfl, h1, h2⟩ := two_of h
  exact ⟨i, j, by rw [h1.data.intv, h2.data.intv], k _ _ ω H q (TupEx.refl H) (slDt (.int _)) S⟩
theorem kx_min2 {i j : Int} (q : Φ (.dt (.int (if j < i then j else i))) ω) : KX Tb rMin2 [.dt (.int i), .dt (.int j)] ω Φ := fun B H vs Q S h k => by
  obtain ⟨v, w, rfl, h1, h2⟩ := two_of h
  exact ⟨i, j, by rw [h1.data.intv, h2.data.intv], k _ _ ω H q (TupEx.refl H) (slDt (.int _)) S⟩
theorem kx_intI {i : Int} (q : Φ (.dt (.int i)) ω) : KX Tb rInt1 [.dt (.int i)] ω Φ := fun B H vs Q S h k => by
  obtain ⟨v, rfl, hv⟩ := one_of h
  replace h := hv
  exact .inl ⟨i, by rw [h.data.intv], k _ _ ω H q (TupEx.refl H) (slDt (.int _)) S⟩
theorem kx_intB {b : Bool} (q : Φ (.dt (.int (if b then 1 else 0))) ω) : KX Tb rInt1 [.dt (.bool b)] ω Φ := fun B H vs Q S h k => by
  obtain ⟨v, rfl, hv⟩ := one_of h
  replace h := hv
  exact .inr ⟨b, by rw [h.data.blv], k _ _ ω H q (TupEx.refl H) (slDt (.int _)) S⟩
theorem kx_tuple (K : PySem.W.Frag) {ds : List PyData} (hl : IsLs ω s ds) (q : Φ (.dt (.tuple ds)) ω) : KX Tb (rTupF K) [s] ω Φ := fun B H vs Q S h k => by
  obtain ⟨v, rfl, hv⟩ := one_of h
  replace h := hv
  obtain ⟨a, xs, rfl, ha, ta⟩ := isLs hl S h
  refine ⟨a, xs, rfl, SqL.of ha, fun p o hp hn => ?_⟩
  obtain ⟨se, tu⟩ := lay_same (xs := xs) hp hn
  have te3 := (Ext.of se).tup
  exact k _ _ ω _ q te3 (slDt (.tup tu (ta.mono te3))) (S.same se)
theorem kx_listT (K : PySem.W.Frag) {ds : List PyData} (q : ∀ p, Φ (.pt p) ((p, .ls ds) :: ω)) : KX Tb (rListO K) [.dt (.tuple ds)] ω Φ := fun B H vs Q S h k => by
  obtain ⟨v, rfl, hv⟩ := one_of h
  replace h := hv
  obtain ⟨a, xs, rfl, ha, ta⟩ := h.data.tupv
  refine ⟨a, xs, rfl, .inr ha.sq, fun p hp => ?_⟩
  have se := same_new (H := H) (o := .lst xs) hp
  have te3 := (Ext.of se).tup
  exact k _ _ _ _ (q p) te3 rfl (S.new se hp ⟨xs, upd_same, ta.mono te3⟩)
theorem kx_listL (K : PySem.W.Frag) {ds : List PyData} (hl : IsLs ω s ds) (q : ∀ p, Φ (.pt p) ((p, .ls ds) :: ω)) : KX Tb (rListO K) [s] ω Φ := fun B H vs Q S h k => by
  obtain ⟨v, rfl, hv⟩ := one_of h
  replace h := hv
  obtain ⟨a, xs, rfl, ha, ta⟩ := isLs hl S h
  refine ⟨a, xs, rfl, .inl (SqL.of ha), fun p hp => ?_⟩
  have se := same_new (H := H) (o := .lst xs) hp
  have te3 := (Ext.of se).tup
  exact k _ _ _ _ (q p) te3 rfl (S.new se hp ⟨xs, upd_same, ta.mono te3⟩)
theorem kx_all (K : PySem.W.Frag) {bs : List Bool} (hl : IsLs ω s (bs.map .bool)) (q : Φ (.dt (.bool (bs.all id))) ω) : KX Tb (rAll K) [s] ω Φ := fun B H vs Q S h k => by
  obtain ⟨v, rfl, hv⟩ := one_of h
  replace h := hv
  obtain ⟨a, xs, rfl, ha, ta⟩ := isLs hl S h
  exact ⟨a, bs, rfl, SqL.of (ta.bools ▸ ha), k _ _ ω H q (TupEx.refl H) (slDt (.bl _)) S⟩
theorem kx_any (K : PySem.W.Frag) {bs : List Bool} (hl : IsLs ω s (bs.map .bool)) (q : Φ (.dt (.bool (bs.any id))) ω) : KX Tb (rAny K) [s] ω Φ := fun B H vs Q S h k => by
  obtain ⟨v, rfl, hv⟩ := one_of h
  replace h := hv
  obtain ⟨a, xs, rfl, ha, ta⟩ := isLs hl S h
  exact ⟨a, bs, rfl, SqL.of (ta.bools ▸ ha), k _ _ ω H q (TupEx.refl H) (slDt (.bl _)) S⟩
theorem kx_sum (K : PySem.W.Frag) {ns : List Int} (hl : IsLs ω s (ns.map .int)) (q : Φ (.dt (.int ns.sum)) ω) : KX Tb (rSum K) [s] ω Φ := fun B H vs Q S h k => by
  obtain ⟨v, rfl, hv⟩ := one_of h
  replace h := hv
  obtain ⟨a, xs, rfl, ha, ta⟩ := isLs hl S h
  exact ⟨a, ns, rfl, SqL.of (ta.ints ▸ ha), k _ _ ω H q (TupEx.refl H) (slDt (.int _)) S⟩
theorem kx_max (K : PySem.W.Frag) {ns : List Int} (hl : IsLs ω s (ns.map .int)) (h0 : 0 < ns.length) (q : ∀ m, m ∈ ns → (∀ y ∈ ns, y ≤ m) → Φ (.dt (.int m)) ω) : KX Tb (rMax K) [s] ω Φ := fun B H vs Q S h k => by
  obtain ⟨v, rfl, hv⟩ := one_of h
  replace h := hv
  obtain ⟨a, xs, rfl, ha, ta⟩ := isLs hl S h
  exact ⟨a, ns, rfl, SqL.of (ta.ints ▸ ha), h0, fun m h1 h2 => k _ _ ω H (q m h1 h2) (TupEx.refl H) (slDt (.int _)) S⟩
theorem kx_min (K : PySem.W.Frag) {ns : List Int} (hl : IsLs ω s (ns.map .int)) (h0 : 0 < ns.length) (q : ∀ m, m ∈ ns → (∀ y ∈ ns, m ≤ y) → Φ (.dt (.int m)) ω) : KX Tb (rMin K) [s] ω Φ := fun B H vs Q S h k => by
  obtain ⟨v, rfl, hv⟩ := one_of h
  replace h := hv
  obtain ⟨a, xs, rfl, ha, ta⟩ := isLs hl S h
  exact ⟨a, ns, rfl, SqL.of (ta.ints ▸ ha), h0, fun m h1 h2 => k _ _ ω H (q m h1 h2) (TupEx.refl H) (slDt (.int _)) S⟩
end
section
variable {te ta tb td ty tv : TE} {c : TT} {ts tu : TS} {t : L2.TA} {δ : List Sl} {ω : Om} {Φ : Sl → Om → Prop} {P : Po} {wi : TI} {g : TG}
/-! ### isinstance -/
def tyD : PyData → String
  | .none => "NoneType"
  | .bool _ => "bool"
  | .int _ => "int"
  | .str _ => "str"
  | .tuple _ => "tuple"
  | _ => ""
def tyS : Sl → String
  | .dt d => tyD d
  | .pt _ => "list"
  | .bo _ => "list"
  | .un => ""
theorem tyX {K : PySem.W.Frag} {B H : Hp} {x : V} {s : Sl} (S : HeapOk Tb B H ω) (k : SlOk B H (some x) s) (hs : (∃ d, s = .dt d) ∨ ∃ ds, IsLs ω s ds) : TyX K H x (.type (tyS s)) := by
  rcases hs with ⟨d, rfl⟩ | ⟨ds, hl⟩
  · have t := k.data
    cases t with
    | non => exact .base .non
    | bl b => exact .base (.bl b)
    | int i => exact .base (.int i)
    | str z => exact .base (.str z)
    | tup h _ =>
      obtain ⟨o, h, _⟩ := h
      exact .fTuple h
  · obtain ⟨a, xs, rfl, ha, _⟩ := isLs hl S k
    have e : tyS s = "list" := by
      rcases hl with ⟨_, rfl, _⟩ | rfl <;> rfl
    rw [e]
    exact .base (.lst ha)
theorem ex_isi (K : PySem.W.Frag) {n : String} (h : EX Tb te δ ω fun s ω1 => ((∃ d, s = .dt d) ∨ ∃ ds, IsLs ω1 s ds) ∧ ∃ b, kitB (tyS s) n = some b ∧ Φ (.dt (.bool b)) ω1) : EX Tb (tCB (rIsi K) (tCons te (tCons (tC (.ty n)) tNil))) δ ω Φ := fun B σ H Q S k =>
  h B σ H _ S fun v s ω1 H1 q e kk p => by
    obtain ⟨hs, b, hb, q⟩ := q
    exact ⟨v, .ty n, .type (tyS s), .type n, b, rfl, .ty n, tyX p kk hs, kit_ty hb, k _ _ ω1 H1 q e (slDt (.bl _)) p⟩
/-! ### dicts of texts to ints -/
def lookS (kvs : List (Str × Int)) (k : Str) : Option Int := (kvs.find? fun p => decide (p.1 = k)).map (·.2)
def putS (kvs : List (Str × Int)) (k : Str) (v : Int) : List (Str × Int) := if (kvs.any fun p => decide (p.1 = k)) = true then kvs.map (fun p => if p.1 = k then (p.1, v) else p) else kvs ++ [(k, v)]
theorem decR {a b : Str} : decide ((Sum.inr a : Key) = Sum.inr b) = decide (a = b) := key_rr a b
theorem valV_kv (kvs : List (Str × Int)) (k : Str) : valV (kvV kvs) (Sum.inr k) = (lookS kvs k).map .int := by
  induction kvs with
  | nil => rfl
  | cons p kvs ih =>
    by_cases e : p.1 = k
    · rw [show kvV (p :: kvs) = (Sum.inr p.1, V.int p.2) :: kvV kvs from rfl, valV_pos (by show (Sum.inr p.1 : Key) = _; rw [e])]
      unfold lookS
      rw [List.find?_cons_of_pos (by simp [e])]
      rfl
    · rw [show kvV (p :: kvs) = (Sum.inr p.1, V.int p.2) :: kvV kvs from rfl, valV_neg (by show ¬ (Sum.inr p.1 : Key) = _; simp [e]), ih]
      unfold lookS
      rw [List.find?_cons_of_neg (by simp [e])]
theorem putK_kv (kvs : List (Str × Int)) (k : Str) (v : Int) : putK (kvV kvs) (Sum.inr k) (.int v) = kvV (putS kvs k v) := by
  have ha : ((kvV kvs).any fun kv => decide (kv.1 = (Sum.inr k : Key))) = kvs.any fun p => decide (p.1 = k) := by
    unfold kvV
    rw [List.any_map]
    congr 1
    funext p
    exact decR
  unfold putK putS
  rw [ha]
  by_cases h : (kvs.any fun p => decide (p.1 = k)) = true
  · rw [if_pos h, if_pos h]
    unfold kvV
    rw [List.map_map, List.map_map]
    apply List.map_congr_left
    intro p _
    show (if (Sum.inr p.1 : Key) = Sum.inr k then ((Sum.inr p.1 : Key), V.int v) else (Sum.inr p.1, V.int p.2)) = _
    by_cases e : p.1 = k
    · rw [if_pos (by rw [e]), Function.comp, if_pos e]
    · rw [if_neg (by simp [e]), Function.comp, if_neg e]
  · rw [if_neg h, if_neg h]
    unfold kvV
    rw [List.map_append]
    rfl
/-- the dict that a slot tells of -/
def IsDk (ω : Om) (s : Sl) (kvs : List (Str × Int)) : Prop := ∃ a, s = .pt a ∧ ((a, Ob.dk kvs) ∈ ω ∨ ∃ o, (a, Ob.fz o kvs) ∈ ω)
theorem isDk {B H : Hp} {x : V} {s : Sl} {kvs : List (Str × Int)} (h : IsDk ω s kvs) (S : HeapOk Tb B H ω) (k : SlOk B H (some x) s) (z : Str) : ∃ a, x = .ref a ∧ DGet H a (.str z) ((lookS kvs z).map .int) := by
  obtain ⟨a, rfl, m | ⟨o, m⟩⟩ := h
  · exact ⟨a, k.ref, .inl ⟨kvV kvs, .inr z, .inl (S.obs _ m).1, rfl, (valV_kv kvs z).symm⟩⟩
  · exact ⟨a, k.ref, .inl ⟨kvV kvs, .inr z, .inr ⟨o, (S.obs _ m).1⟩, rfl, (valV_kv kvs z).symm⟩⟩
theorem ex_dget (h : EX Tb td δ ω fun s ω1 => EX Tb ty δ ω1 fun s2 ω2 => ∃ kvs z i, s2 = .dt (.str z) ∧ IsDk ω2 s kvs ∧ lookS kvs z = some i ∧ Φ (.dt (.int i)) ω2) : EX Tb (tDGet td ty) δ ω Φ := fun B σ H Q S k =>
  h B σ H _ S fun x s ω1 H1 h1 e1 k1 p1 => h1 B σ H1 _ (S.re e1 p1) fun y s2 ω2 H2 h2 e2 k2 p2 => by
    obtain ⟨kvs, z, i, rfl, hd, hl, q⟩ := h2
    obtain ⟨a, rfl, g⟩ := isDk hd p2 (k1.mono e2) z
    rw [hl] at g
    exact ⟨a, .int i, rfl, k2.data.strv ▸ g, k _ _ ω2 H2 q (e1.trans e2) (slDt (.int _)) p2⟩
theorem ex_din (h : EX Tb ty δ ω fun s2 ω1 => EX Tb td δ ω1 fun s ω2 => ∃ kvs z, s2 = .dt (.str z) ∧ IsDk ω2 s kvs ∧ Φ (.dt (.bool (lookS kvs z).isSome)) ω2) : EX Tb (tDIn ty td) δ ω Φ := fun B σ H Q S k =>
  h B σ H _ S fun y s2 ω1 H1 h1 e1 k1 p1 => h1 B σ H1 _ (S.re e1 p1) fun x s ω2 H2 h2 e2 k2 p2 => by
    obtain ⟨kvs, z, rfl, hd, q⟩ := h2
    obtain ⟨a, rfl, g⟩ := isDk hd p2 k2 z
    refine ⟨a, _, rfl, k1.data.strv ▸ g, ?_⟩
    rw [Option.isSome_map]
    exact k _ _ ω2 H2 q (e1.trans e2) (slDt (.bl _)) p2
theorem ex_dnotin (h : EX Tb ty δ ω fun s2 ω1 => EX Tb td δ ω1 fun s ω2 => ∃ kvs z, s2 = .dt (.str z) ∧ IsDk ω2 s kvs ∧ Φ (.dt (.bool (!(lookS kvs z).isSome))) ω2) : EX Tb (tDNotIn ty td) δ ω Φ := fun B σ H Q S k =>
  h B σ H _ S fun y s2 ω1 H1 h1 e1 k1 p1 => h1 B σ H1 _ (S.re e1 p1) fun x s ω2 H2 h2 e2 k2 p2 => by
    obtain ⟨kvs, z, rfl, hd, q⟩ := h2
    obtain ⟨a, rfl, g⟩ := isDk hd p2 k2 z
    refine ⟨a, _, rfl, k1.data.strv ▸ g, ?_⟩
    rw [Option.isSome_map]
    exact k _ _ ω2 H2 q (e1.trans e2) (slDt (.bl _)) p2
theorem HeapOk.dkPut {B H : Hp} (S : HeapOk Tb B H ω) {j : Nat} {a : Addr} {kvs kvs' : List (Str × Int)} (hj : ω[j]? = some (a, .dk kvs)) : HeapOk Tb B (upd H a (.dK (kvV kvs'))) (ω.set j (a, .dk kvs')) ∧ TupEx H (upd H a (.dK (kvV kvs'))) := S.put hj upd_same
theorem HeapOk.dkAt {B H : Hp} (S : HeapOk Tb B H ω) {j : Nat} {a : Addr} {kvs : List (Str × Int)} (hj : ω[j]? = some (a, .dk kvs)) : H a = some (.dK (kvV kvs)) := (S.obs _ (List.mem_of_getElem? hj)).1
/-- d[k] = v: v first, then d, then k -/
theorem rr_dput (j : Nat) (h : EX Tb tv δ ω fun s1 ω1 => EX Tb td δ ω1 fun s2 ω2 => EX Tb ty δ ω2 fun s3 ω3 => ∃ a kvs z i, s1 = .dt (.int i) ∧ s2 = .pt a ∧ s3 = .dt (.str z) ∧ ω3[j]? = some (a, .dk kvs) ∧ kvs.length < sizeLine ∧ P.nx δ (ω3.set j (a, .dk (putS kvs z i)))) : RR Tb (sDPut td ty tv) δ ω P := fun B σ H D S q1 _ _ _ =>
  h B σ H _ S fun v s1 ω1 H1 h1 e1 k1 p1 => h1 B σ H1 _ (S.re e1 p1) fun x s2 ω2 H2 h2 e2 k2 p2 => h2 B σ H2 _ ((S.re e1 p1).re e2 p2) fun y s3 ω3 H3 h3 e3 k3 p3 => by
    obtain ⟨a, kvs, z, i, rfl, rfl, rfl, hj, hz, q⟩ := h3
    obtain ⟨p4, e4⟩ := p3.dkPut (kvs' := putS kvs z i) hj
    refine ⟨a, _, k2.ref, .inl ⟨kvV kvs, .inr z, p3.dkAt hj, k3.data.strv, by unfold kvV; rw [List.length_map]; exact hz, rfl⟩, ?_⟩
    rw [k1.data.intv, putK_kv]
    exact q1 _ _ _ _ q (((e1.trans e2).trans e3).trans e4) ((((S.re e1 p1).re e2 p2).re e3 p3).re e4 p4)
/-- d[k] -= v -/
theorem rr_daug (f : Int → Int → Int) {rd : V → V → Hp → VK → Prop} (hrd : ∀ (a b : Int) (H : Hp) (Q : VK), Q (.int (f a b)) H → rd (.int a) (.int b) H Q) (j : Nat) (h : EX Tb td δ ω fun s1 ω1 => EX Tb ty δ ω1 fun s2 ω2 => ∃ a kvs z i, s1 = .pt a ∧ s2 = .dt (.str z) ∧ IsDk ω2 (.pt a) kvs ∧ lookS kvs z = some i ∧ EX Tb tv δ ω2 fun s3 ω3 => ∃ m, s3 = .dt (.int m) ∧ ω3[j]? = some (a, .dk kvs) ∧ kvs.length < sizeLine ∧ P.nx δ (ω3.set j (a, .dk (putS kvs z (f i m))))) :
    RR Tb (sDAug td ty tv rd) δ ω P := fun B σ H D S q1 _ _ _ =>
  h B σ H _ S fun x s1 ω1 H1 h1 e1 k1 p1 => h1 B σ H1 _ (S.re e1 p1) fun y s2 ω2 H2 h2 e2 k2 p2 => by
    obtain ⟨a, kvs, z, i, rfl, rfl, hd, hl, h3⟩ := h2
    have kx := k1.mono e2
    obtain ⟨a', e, g⟩ := isDk hd p2 kx z
    cases kx.ref
    cases e
    rw [hl] at g
    refine ⟨a, .int i, rfl, k2.data.strv ▸ g, h3 B σ H2 _ ((S.re e1 p1).re e2 p2) fun v s3 ω3 H3 q e3 k3 p3 => ?_⟩
    obtain ⟨m, rfl, hj, hz, q⟩ := q
    obtain ⟨p4, e4⟩ := p3.dkPut (kvs' := putS kvs z (f i m)) hj
    rw [k3.data.intv]
    refine hrd _ _ _ _ ⟨_, .inl ⟨kvV kvs, .inr z, p3.dkAt hj, k2.data.strv, by unfold kvV; rw [List.length_map]; exact hz, rfl⟩, ?_⟩
    rw [putK_kv]
    exact q1 _ _ _ _ q (((e1.trans e2).trans e3).trans e4) ((((S.re e1 p1).re e2 p2).re e3 p3).re e4 p4)
theorem ex_dnew (q : ∀ p, Φ (.pt p) ((p, .dk []) :: ω)) : EX Tb tDNewK δ ω Φ := fun B σ H Q S k p hp => by
  have se := same_new (H := H) (o := .dK []) hp
  exact k _ _ _ _ (q p) (Ext.of se).tup rfl (S.hp.new se hp upd_same)
/-- {k: v}, one entry -/
theorem ex_disp1 (h : ∀ p, EX Tb td δ ((p, .dk []) :: ω) fun s1 ω1 => EX Tb tv δ ω1 fun s2 ω2 => ∃ z i, s1 = .dt (.str z) ∧ s2 = .dt (.int i) ∧ ω2 = (p, .dk []) :: ω ∧ Φ (.pt p) ((p, .dk [(z, i)]) :: ω)) : EX Tb (tDisp [(td, tv)]) δ ω Φ := fun B σ H Q S k p hp => by
  have se := same_new (H := H) (o := .dK []) hp
  have S1 : Sees Tb B σ (upd H p (.dK [])) δ ((p, .dk []) :: ω) := S.new se hp upd_same
  refine h p B σ _ _ S1 fun x s1 ω1 H1 h1 e1 k1 p1 => h1 B σ H1 _ (S1.re e1 p1) fun y s2 ω2 H2 h2 e2 k2 p2 => ?_
  obtain ⟨z, i, rfl, rfl, rfl, q⟩ := h2
  have h0 := p2.dkAt (j := 0) rfl
  obtain ⟨p4, e4⟩ := p2.dkPut (j := 0) (kvs' := [(z, i)]) rfl
  refine ⟨h0, [(.inr z, .int i)], by rw [k1.data.strv, k2.data.intv]; rfl, by show 1 ≤ 15; decide, k _ _ _ _ q ((((Ext.of se).tup.trans e1).trans e2).trans e4) rfl p4⟩
/-! ### a dict is walked: locked -/
theorem rr_lock (j : Nat) {a : Addr} {kvs : List (Str × Int)} (hj : ω[j]? = some (a, .dk kvs)) (h : ∀ o, RR Tb ts δ (ω.set j (a, .fz o kvs)) { nx := fun δ' ω' => ∃ j', ω'[j']? = some (a, .fz o kvs) ∧ P.nx δ' (ω'.set j' (a, .dk kvs)), rt := fun _ _ => False }) : RR Tb (tLock ts) δ ω P := fun B σ H D S q1 _ _ _ => by
  have h0 := S.hp.dkAt hj
  refine ⟨a, _, h0, True.intro, fun od => ?_⟩
  obtain ⟨S1, e1⟩ := S.put (u := .frz od (.dK (kvV kvs))) (o' := .fz od kvs) hj upd_same
  refine h od B σ _ _ S1 ?_ (fun _ _ _ _ z => z.elim) (fun _ _ _ _ z => z.elim) (fun _ _ _ _ z => z.elim)
  rintro δ' ω' σ' H' ⟨j', hj', q⟩ e S'
  have h2 := (S'.hp.obs _ (List.mem_of_getElem? hj')).1
  obtain ⟨S2, e2⟩ := S'.put (u := .dK (kvV kvs)) (o' := .dk kvs) hj' upd_same
  exact ⟨h2, q1 _ _ _ _ q ((e1.trans e).trans e2) S2⟩
theorem ex_lock (j : Nat) {a : Addr} {kvs : List (Str × Int)} (hj : ω[j]? = some (a, .dk kvs)) (h : ∀ o, EX Tb te δ (ω.set j (a, .fz o kvs)) fun s ω' => ∃ j', ω'[j']? = some (a, .fz o kvs) ∧ Φ s (ω'.set j' (a, .dk kvs))) : EX Tb (tLockE te) δ ω Φ := fun B σ H Q S k => by
  have h0 := S.hp.dkAt hj
  refine ⟨a, _, h0, True.intro, fun od => ?_⟩
  obtain ⟨S1, e1⟩ := S.put (u := .frz od (.dK (kvV kvs))) (o' := .fz od kvs) hj upd_same
  refine h od B σ _ _ S1 fun v s ω' H' q e kk p => ?_
  obtain ⟨j', hj', q⟩ := q
  have h2 := (p.obs _ (List.mem_of_getElem? hj')).1
  obtain ⟨p2, e2⟩ := p.put (u := .dK (kvV kvs)) (o' := .dk kvs) hj' upd_same
  exact ⟨h2, k _ _ _ _ q ((e1.trans e).trans e2) (kk.mono e2) p2⟩
theorem ix_keys {Ψ : List PyData → (Om → Prop) → Om → Prop} (h : EX Tb te δ ω fun s ω1 => ∃ a o kvs, s = .pt a ∧ (a, Ob.fz o kvs) ∈ ω1 ∧ Ψ (kvs.map fun p : Str × Int => PyData.str p.1) (fun ω' => (a, Ob.fz o kvs) ∈ ω') ω1) : IX T Tb (iKeys te) δ ω Ψ := fun B σ H R S k =>
  h B σ H _ S fun v s ω1 H1 q e kk p => by
    obtain ⟨a, o, kvs, rfl, m, q⟩ := q
    have h0 := (p.obs _ m).1
    refine ⟨a, o, kk.ref, .inl ⟨kvV kvs, h0, k _ _ _ ω1 H1 q ⟨fun H2 => H2 a = some (.frz o (.dK (kvV kvs))), _, (show (kvV kvs).length = (kvs.map fun p : Str × Int => PyData.str p.1).length by unfold kvV; rw [List.length_map, List.length_map]) ▸ walk_keys, fun H2 ω2 _ p2 m2 => (p2.obs _ m2).1, ?_⟩ e p⟩⟩
    rintro i H2 x H3 _ ⟨rfl, k1, v1, hk, rfl⟩
    refine ⟨fun _ _ z => z, ?_⟩
    unfold kvV at hk
    rw [List.getElem?_map] at hk
    cases hp : kvs[i]? with
    | none => rw [hp] at hk; cases hk
    | some p =>
      rw [hp] at hk
      cases hk
      exact ⟨.str p.1, by rw [List.getElem?_map, hp]; rfl, .str _⟩
/-! ### instances -/
theorem rr_fld1 (K : PySem.W.Frag) (j : Nat) {C dx m a : Addr} {w hd w' hd' : PyData} {f : Str} (c : Cls K C) (n : NoAttr K C f) (hf : (f = "web" ∧ hd' = hd) ∨ (f = "held" ∧ w' = w)) (h : EX Tb tv δ ω fun s1 ω1 => EX Tb ta δ ω1 fun s2 ω2 => s2 = .pt a ∧ ω2[j]? = some (a, .mv C dx w hd m) ∧ s1 = .dt (if f = "web" then w' else hd') ∧ P.nx δ (ω2.set j (a, .mv C dx w' hd' m))) : RR Tb (sFld K ta tv f) δ ω P := fun B σ H D S q1 _ _ _ =>
  h B σ H _ S fun v s1 ω1 H1 h1 e1 k1 p1 => h1 B σ H1 _ (S.re e1 p1) fun x s2 ω2 H2 h2 e2 k2 p2 => by
    obtain ⟨rfl, hj, rfl, q⟩ := h2
    obtain ⟨v1, v2, hx, t1, t2⟩ := (p2.obs _ (List.mem_of_getElem? hj)).1
    have tv := (k1.mono e2).data
    refine ⟨a, C, dx, mvF v1 v2 m, k2.ref, hx, c, n, by show 3 < 1000; decide, ?_⟩
    rcases hf with ⟨rfl, rfl⟩ | ⟨rfl, rfl⟩
    · rw [if_pos rfl] at tv
      have te : TupEx H2 (upd H2 a (.ins C dx (mvF v v2 m))) := fun b o zs hz => by
        rw [upd_ne (fun z => by subst z; rw [hx] at hz; cases hz)]
        exact hz
      obtain ⟨p4, e4⟩ := p2.put (u := .ins C dx (mvF v v2 m)) (o' := .mv C dx w' hd' m) hj ⟨v, v2, upd_same, tv.mono te, t2.mono te⟩
      have ef : putF "web" v (mvF v1 v2 m) = mvF v v2 m := by simp [mvF, putF]
      rw [ef]
      exact q1 _ _ _ _ q ((e1.trans e2).trans e4) (((S.re e1 p1).re e2 p2).re e4 p4)
    · rw [if_neg (by decide)] at tv
      have te : TupEx H2 (upd H2 a (.ins C dx (mvF v1 v m))) := fun b o zs hz => by
        rw [upd_ne (fun z => by subst z; rw [hx] at hz; cases hz)]
        exact hz
      obtain ⟨p4, e4⟩ := p2.put (u := .ins C dx (mvF v1 v m)) (o' := .mv C dx w' hd' m) hj ⟨v1, v, upd_same, t1.mono te, tv.mono te⟩
      have ef : putF "held" v (mvF v1 v2 m) = mvF v1 v m := by
        have : ("web" : Str) ≠ "held" := by decide
        simp [mvF, putF, this]
      rw [ef]
      exact q1 _ _ _ _ q ((e1.trans e2).trans e4) (((S.re e1 p1).re e2 p2).re e4 p4)
theorem ex_web (K : PySem.W.Frag) {C dx m a : Addr} {w hd : PyData} (c : Cls K C) (n : NoAttr K C "web") (h : EX Tb ta δ ω fun s ω1 => s = .pt a ∧ (a, Ob.mv C dx w hd m) ∈ ω1 ∧ Φ (.dt w) ω1) : EX Tb (tFld K ta "web") δ ω Φ := fun B σ H Q S k =>
  h B σ H _ S fun x s ω1 H1 q e1 k1 p1 => by
    obtain ⟨rfl, hm, q⟩ := q
    obtain ⟨v1, v2, hx, t1, t2⟩ := (p1.obs _ hm).1
    exact ⟨a, C, dx, mvF v1 v2 m, v1, k1.ref, hx, c, n, by simp [mvF], k _ _ _ _ q e1 (slDt t1) p1⟩
theorem ex_held (K : PySem.W.Frag) {C dx m a : Addr} {w hd : PyData} (c : Cls K C) (n : NoAttr K C "held") (h : EX Tb ta δ ω fun s ω1 => s = .pt a ∧ (a, Ob.mv C dx w hd m) ∈ ω1 ∧ Φ (.dt hd) ω1) : EX Tb (tFld K ta "held") δ ω Φ := fun B σ H Q S k =>
  h B σ H _ S fun x s ω1 H1 q e1 k1 p1 => by
    obtain ⟨rfl, hm, q⟩ := q
    obtain ⟨v1, v2, hx, t1, t2⟩ := (p1.obs _ hm).1
    have e : List.lookup ("held" : Str) (mvF v1 v2 m) = some v2 := rfl
    exact ⟨a, C, dx, mvF v1 v2 m, v2, k1.ref, hx, c, n, e, k _ _ _ _ q e1 (slDt t2) p1⟩
theorem ex_moves (K : PySem.W.Frag) {C dx m a : Addr} {w hd : PyData} (c : Cls K C) (n : NoAttr K C "moves") (h : EX Tb ta δ ω fun s ω1 => s = .pt a ∧ (a, Ob.mv C dx w hd m) ∈ ω1 ∧ Φ (.pt m) ω1) : EX Tb (tFld K ta "moves") δ ω Φ := fun B σ H Q S k =>
  h B σ H _ S fun x s ω1 H1 q e1 k1 p1 => by
    obtain ⟨rfl, hm, q⟩ := q
    obtain ⟨v1, v2, hx, t1, t2⟩ := (p1.obs _ hm).1
    have e : List.lookup ("moves" : Str) (mvF v1 v2 m) = some (V.ref m) := rfl
    exact ⟨a, C, dx, mvF v1 v2 m, .ref m, k1.ref, hx, c, n, e, k _ _ _ _ q e1 rfl p1⟩
/-- o.m(..) of an instance -/
theorem ex_meth {n : Nat} {R : Prm} {C : Addr} {m : Str} (h : EX Tb ta δ ω fun s0 ω0 => ∃ a dx w hd mm, s0 = .pt a ∧ (a, Ob.mv C dx w hd mm) ∈ ω0 ∧ m ≠ "web" ∧ m ≠ "held" ∧ m ≠ "moves" ∧ EA Tb t δ ω0 fun ss ω1 => ss.length + 1 = n ∧ ∃ ωc fr δc Φc, (ωc ++ fr).Perm ω1 ∧ Conv fr (.pt a :: ss) δc ∧ R δc ωc Φc ∧ ∀ s ω', (∀ o, s ≠ .bo o) → Φc s ω' → Φ s (ω' ++ fr)) :
    EX Tb (tMeth C m (spG Tb n R) [] E0 ta t) δ ω Φ := fun B σ H Q S k =>
  h B σ H _ S fun x s0 ω0 H0 q e0 k0 p0 => by
    obtain ⟨a, dx, w, hd, mm, rfl, hm, n1, n2, n3, q⟩ := q
    obtain ⟨v1, v2, hx, _, _⟩ := (p0.obs _ hm).1
    refine ⟨a, dx, mvF v1 v2 mm, k0.ref, hx, ?_, q B σ H0 _ (S.re e0 p0) fun vs ss ω1 H1 q e kk p => ?_⟩
    · have b1 : (m == ("web" : Str)) = false := beq_eq_false_iff_ne.mpr n1
      have b2 : (m == ("held" : Str)) = false := beq_eq_false_iff_ne.mpr n2
      have b3 : (m == ("moves" : Str)) = false := beq_eq_false_iff_ne.mpr n3
      simp only [mvF, List.lookup, b1, b2, b3]
    · obtain ⟨hn, ωc, fr, δc, Φc, hp, hc, hr, hk⟩ := q
      have kk2 : SlsOk B H1 (x :: vs) (.pt a :: ss) := ⟨k0.mono e, kk⟩
      refine ⟨by rw [List.append_nil, List.length_cons, kk.len]; exact hn, calm H1 ωc, δc, ωc, Φc, ?_, calm_heap p hp, hr, fun v s ω' H' q' e' r' p' => ?_⟩
      · rw [List.append_nil]
        exact conv_ok p hp hc kk2
      · have nb : ∀ o, s ≠ .bo o := fun o z => by
          subst z
          exact r'
        exact k v s (ω' ++ fr) H' (hk s ω' nb q') ((e0.trans e).trans e') r'.sl (calm_back p hp p')
/-- C(..) -/
theorem ex_make {n : Nat} {R : Prm} {C : Addr} (h : EA Tb t δ ω fun ss ω1 => ss.length + 1 = n ∧ ∃ ds : List PyData, ss = ds.map .dt ∧ ∀ x dx, ∃ Φc, R (.pt x :: ds.map .dt) [(x, .mi C dx)] Φc ∧ ∀ s ω', Φc s ω' → s = .dt .none ∧ Φ (.pt x) (ω' ++ ω1)) : EX Tb (tMake C (spG Tb n R) [] E0 t) δ ω Φ := fun B σ H Q S k =>
  h B σ H _ S fun vs ss ω1 H1 q e kk p x dx hx hdx hne => by
    obtain ⟨hn, ds, rfl, q⟩ := q
    obtain ⟨Φc, hr, hk⟩ := q x dx
    have s1 := same_new (H := H1) (o := .own x) hdx
    have hx1 : upd H1 dx (.own x) x = none := by rw [upd_ne (Ne.symm hne)]; exact hx
    have s2 := same_new (H := upd H1 dx (.own x)) (o := .ins C dx []) hx1
    have se : Same H1 (upd (upd H1 dx (.own x)) x (.ins C dx [])) := fun b u hb => s2 b u (s1 b u hb)
    have p2 : HeapOk Tb B _ ((x, .mi C dx) :: ω1) := p.new se hx upd_same
    have te := (Ext.of se).tup
    have hp : ([(x, Ob.mi C dx)] ++ ω1).Perm ((x, .mi C dx) :: ω1) := List.Perm.refl _
    have kk2 : SlsOk B (upd (upd H1 dx (.own x)) x (.ins C dx [])) (.ref x :: vs) (.pt x :: ds.map .dt) := ⟨rfl, kk.mono te⟩
    refine ⟨by rw [List.append_nil, List.length_cons, kk.len]; exact hn, calm _ [(x, .mi C dx)], .pt x :: ds.map .dt, [(x, .mi C dx)], Φc, ?_, calm_heap p2 hp, hr, fun v s ω' H' q' e' r' p' => ?_⟩
    · rw [List.append_nil]
      exact conv_ok p2 hp (.pt (conv_data _ ds)) kk2
    · obtain ⟨rfl, q⟩ := hk s ω' q'
      exact ⟨T.nonv r', k _ _ _ H' q ((e.trans te).trans e') rfl (calm_back p2 hp p')⟩
/-! ### further statements -/
theorem rr_asgG (h : EX Tb te δ ω fun s ω' => ∃ d js δ2, s = .dt d ∧ GX T g d js δ δ2 ∧ P.nx δ2 ω') : RR Tb (tAsg te g) δ ω P := fun B σ H D S k1 _ _ _ =>
  h B σ H _ S fun v s ω' H' q e k p => by
    obtain ⟨d, js, δ2, rfl, hg, q⟩ := q
    exact hg Tb B σ H' v ω' _ (S.re e p) k.data fun σ' S' _ => k1 _ ω' σ' H' q e S'
theorem rr_retN (q : P.rt (.dt .none) ω) : RR Tb tRetN δ ω P := fun B σ H D S _ k2 _ _ => k2 .non (.dt .none) ω H q (TupEx.refl H) .non S.hp
/-- xs[i] = e -/
theorem rr_lput (j i : Nat) (h : EX Tb te δ ω fun s ω1 => EX Tb ta δ ω1 fun s2 ω2 => EX Tb tb δ ω2 fun s3 ω3 => ∃ a ds d, s = .dt d ∧ s2 = .pt a ∧ s3 = .dt (.int (i : Nat)) ∧ ω3[j]? = some (a, .ls ds) ∧ i < ds.length ∧ P.nx δ (ω3.set j (a, .ls (ds.set i d)))) : RR Tb (tAsg te (gSub ta tb rSetL)) δ ω P := fun B σ H D S q1 _ _ _ =>
  h B σ H _ S fun v s1 ω1 H1 h1 e1 k1 p1 => h1 B σ H1 _ (S.re e1 p1) fun x s2 ω2 H2 h2 e2 k2 p2 => h2 B σ H2 _ ((S.re e1 p1).re e2 p2) fun y s3 ω3 H3 h3 e3 k3 p3 => by
    obtain ⟨a, ds, d, rfl, rfl, rfl, hj, hi, q⟩ := h3
    obtain ⟨xs, hx, tx⟩ := p3.lsAt hj
    have ts : ∀ (xs : List V) (ds : List PyData) (i : Nat) (v : V) (d : PyData), TAs H3 xs ds → T H3 v d → TAs H3 (xs.set i v) (ds.set i d) := by
      intro xs
      induction xs with
      | nil =>
        intro ds i v d h _
        cases h
        exact .nil
      | cons z zs ih =>
        intro ds i v d h hv
        cases h with
        | cons hz hzs =>
          cases i with
          | zero => exact .cons hv hzs
          | succ i => exact .cons hz (ih _ i v d hzs hv)
    obtain ⟨p4, e4⟩ := p3.lsPut hj hx (ts xs ds i v d tx ((k1.mono e2).mono e3).data)
    refine ⟨a, xs, (i : Nat), i, k2.ref, k3.data.intv, hx, ?_, q1 _ _ _ _ q (((e1.trans e2).trans e3).trans e4) ((((S.re e1 p1).re e2 p2).re e3 p3).re e4 p4)⟩
    unfold ixN
    rw [if_pos (by omega), if_pos (by rw [tx.length]; omega)]
    rfl
/-- a, b, c = x, y, z -/
theorem rr_asg3 (K : PySem.W.Frag) {i j l : Nat} (h : EA Tb t δ ω fun ss ω' => ∃ s1 s2 s3, ss = [s1, s2, s3] ∧ P.nx (((δ.set i s1).set j s2).set l s3) ω') : RR Tb (tAsg (tTup t) (gTup K 3 (gCons (gName i) (gCons (gName j) (gCons (gName l) gNil))))) δ ω P := fun B σ H D S k1 _ _ _ =>
  h B σ H _ S fun vs ss ω' H' q e k p => by
    obtain ⟨s1, s2, s3, rfl, q⟩ := q
    match vs, k with
    | [v1, v2, v3], k =>
      refine ⟨by show 3 ≤ sizeLine; rw [sizeLine_eq]; decide, fun a ha => ?_⟩
      have se := same_new (H := H') (o := .tup [v1, v2, v3]) ha
      have te := (Ext.of se).tup
      refine ⟨a, [v1, v2, v3], rfl, SqT.of upd_same, rfl, v1, _, rfl, v2, _, rfl, v3, _, rfl, rfl, k1 _ ω' _ _ q (e.trans te) ?_⟩
      exact ((((S.re e p).same se).set i (k.1.mono te)).set j (k.2.1.mono te)).set l (k.2.2.1.mono te)
end
end Km
/-! Text KmText -/
/-! The law's text: its defs by name, their scopes, what the top leaves. -/
namespace Km
open PySem PySem.Spec PyProof.Rows L2 LamX
abbrev theRow := PySem.Challenge.rw_eachinturn_k42_whole_moves_exactly_if_ri
def top (i : Nat) : Stmt := PySem.Challenge.pw_eachinturn_k42_whole_moves_exactly_if_ri.main.body.getD i (.Pass ⟨0, 0, 0, 0⟩)
abbrev s_arrows_of : Stmt := top 1
abbrev N_arrows_of : List Str := ["web", "order", "ranks", "rank", "place", "one", "other"]
theorem sc_arrows_of : FnScope N_arrows_of ["web", "order"] (defScope s_arrows_of) := ⟨rfl, rfl, rfl, by decide +kernel, rfl, by decide +kernel, by decide +kernel⟩
abbrev s_are_apart : Stmt := top 2
abbrev N_are_apart : List Str := ["web", "one", "other"]
theorem sc_are_apart : FnScope N_are_apart ["web", "one", "other"] (defScope s_are_apart) := ⟨rfl, rfl, rfl, by decide +kernel, rfl, by decide +kernel, by decide +kernel⟩
abbrev s_exchanged : Stmt := top 3
abbrev N_exchanged : List Str := ["order", "index"]
theorem sc_exchanged : FnScope N_exchanged ["order", "index"] (defScope s_exchanged) := ⟨rfl, rfl, rfl, by decide +kernel, rfl, by decide +kernel, by decide +kernel⟩
abbrev s_path_between : Stmt := top 4
abbrev N_path_between : List Str := ["web", "order", "other", "found", "at", "place", "index"]
theorem sc_path_between : FnScope N_path_between ["web", "order", "other"] (defScope s_path_between) := ⟨rfl, rfl, rfl, by decide +kernel, rfl, by decide +kernel, by decide +kernel⟩
abbrev s_is_integer : Stmt := top 13
abbrev N_is_integer : List Str := ["thing"]
theorem sc_is_integer : FnScope N_is_integer ["thing"] (defScope s_is_integer) := ⟨rfl, rfl, rfl, by decide +kernel, rfl, by decide +kernel, by decide +kernel⟩
abbrev s_is_name : Stmt := top 14
abbrev N_is_name : List Str := ["thing", "sign"]
theorem sc_is_name : FnScope N_is_name ["thing"] (defScope s_is_name) := ⟨rfl, rfl, rfl, by decide +kernel, rfl, by decide +kernel, by decide +kernel⟩
abbrev s_is_row_of : Stmt := top 15
abbrev N_is_row_of : List Str := ["thing", "least", "most"]
theorem sc_is_row_of : FnScope N_is_row_of ["thing", "least", "most"] (defScope s_is_row_of) := ⟨rfl, rfl, rfl, by decide +kernel, rfl, by decide +kernel, by decide +kernel⟩
abbrev s_are_unlike : Stmt := top 16
abbrev N_are_unlike : List Str := ["things"]
theorem sc_are_unlike : FnScope N_are_unlike ["things"] (defScope s_are_unlike) := ⟨rfl, rfl, rfl, by decide +kernel, rfl, by decide +kernel, by decide +kernel⟩
abbrev s_are_places : Stmt := top 20
abbrev N_are_places : List Str := ["places", "thing", "place"]
theorem sc_are_places : FnScope N_are_places ["places", "thing"] (defScope s_are_places) := ⟨rfl, rfl, rfl, by decide +kernel, rfl, by decide +kernel, by decide +kernel⟩
abbrev s_is_road : Stmt := top 21
abbrev N_is_road : List Str := ["places", "thing"]
theorem sc_is_road : FnScope N_is_road ["places", "thing"] (defScope s_is_road) := ⟨rfl, rfl, rfl, by decide +kernel, rfl, by decide +kernel, by decide +kernel⟩
abbrev s_is_web_form : Stmt := top 22
abbrev N_is_web_form : List Str := ["thing", "places", "roads", "place", "road"]
theorem sc_is_web_form : FnScope N_is_web_form ["thing"] (defScope s_is_web_form) := ⟨rfl, rfl, rfl, by decide +kernel, rfl, by decide +kernel, by decide +kernel⟩
abbrev s_need_web : Stmt := top 23
abbrev N_need_web : List Str := ["web"]
theorem sc_need_web : FnScope N_need_web ["web"] (defScope s_need_web) := ⟨rfl, rfl, rfl, by decide +kernel, rfl, by decide +kernel, by decide +kernel⟩
abbrev s_is_order : Stmt := top 24
abbrev N_is_order : List Str := ["web", "thing"]
theorem sc_is_order : FnScope N_is_order ["web", "thing"] (defScope s_is_order) := ⟨rfl, rfl, rfl, by decide +kernel, rfl, by decide +kernel, by decide +kernel⟩
abbrev s_need_order : Stmt := top 25
abbrev N_need_order : List Str := ["web", "order"]
theorem sc_need_order : FnScope N_need_order ["web", "order"] (defScope s_need_order) := ⟨rfl, rfl, rfl, by decide +kernel, rfl, by decide +kernel, by decide +kernel⟩
abbrev s_have_road : Stmt := top 26
abbrev N_have_road : List Str := ["web", "place", "other"]
theorem sc_have_road : FnScope N_have_road ["web", "place", "other"] (defScope s_have_road) := ⟨rfl, rfl, rfl, by decide +kernel, rfl, by decide +kernel, by decide +kernel⟩
abbrev s_neighbours_of : Stmt := top 27
abbrev N_neighbours_of : List Str := ["web", "place", "other"]
theorem sc_neighbours_of : FnScope N_neighbours_of ["web", "place"] (defScope s_neighbours_of) := ⟨rfl, rfl, rfl, by decide +kernel, rfl, by decide +kernel, by decide +kernel⟩
abbrev s_turned : Stmt := top 29
abbrev N_turned : List Str := ["order"]
theorem sc_turned : FnScope N_turned ["order"] (defScope s_turned) := ⟨rfl, rfl, rfl, by decide +kernel, rfl, by decide +kernel, by decide +kernel⟩
abbrev s_steps_forward : Stmt := top 30
abbrev N_steps_forward : List Str := ["order", "ring", "spots", "place", "at"]
theorem sc_steps_forward : FnScope N_steps_forward ["order", "ring"] (defScope s_steps_forward) := ⟨rfl, rfl, rfl, by decide +kernel, rfl, by decide +kernel, by decide +kernel⟩
abbrev s_way_within : Stmt := top 31
abbrev N_way_within : List Str := ["roads", "place", "other", "ways", "way", "one", "two", "there"]
theorem sc_way_within : FnScope N_way_within ["roads", "place", "other"] (defScope s_way_within) := ⟨rfl, rfl, rfl, by decide +kernel, rfl, by decide +kernel, by decide +kernel⟩
abbrev s_told_from_least : Stmt := top 32
abbrev N_told_from_least : List Str := ["web", "ring", "at", "found"]
theorem sc_told_from_least : FnScope N_told_from_least ["web", "ring"] (defScope s_told_from_least) := ⟨rfl, rfl, rfl, by decide +kernel, rfl, by decide +kernel, by decide +kernel⟩
abbrev s_told_rings : Stmt := top 33
abbrev N_told_rings : List Str := ["web", "laid", "found", "one", "other", "way"]
theorem sc_told_rings : FnScope N_told_rings ["web"] (defScope s_told_rings) := ⟨rfl, rfl, rfl, by decide +kernel, rfl, by decide +kernel, by decide +kernel⟩
abbrev s_ring_apart : Stmt := top 34
abbrev N_ring_apart : List Str := ["web", "order", "other", "ring"]
theorem sc_ring_apart : FnScope N_ring_apart ["web", "order", "other"] (defScope s_ring_apart) := ⟨rfl, rfl, rfl, by decide +kernel, rfl, by decide +kernel, by decide +kernel⟩
abbrev s_lead_of : Stmt := top 35
abbrev N_lead_of : List Str := ["order", "other", "one", "two", "before", "behind"]
theorem sc_lead_of : FnScope N_lead_of ["order", "other", "one", "two"] (defScope s_lead_of) := ⟨rfl, rfl, rfl, by decide +kernel, rfl, by decide +kernel, by decide +kernel⟩
abbrev s_turns_wanted : Stmt := top 36
abbrev N_turns_wanted : List Str := ["web", "order", "other", "found", "start", "piece", "left", "least", "place", "one", "two"]
theorem sc_turns_wanted : FnScope N_turns_wanted ["web", "order", "other"] (defScope s_turns_wanted) := ⟨rfl, rfl, rfl, by decide +kernel, rfl, by decide +kernel, by decide +kernel⟩
abbrev s_Mover_init : Stmt := inClass (top 37) 0
abbrev N_Mover_init : List Str := ["self", "web", "order"]
theorem sc_Mover_init : FnScope N_Mover_init ["self", "web", "order"] (defScope s_Mover_init) := ⟨rfl, rfl, rfl, by decide +kernel, rfl, by decide +kernel, by decide +kernel⟩
abbrev s_Mover_swap : Stmt := inClass (top 37) 1
abbrev N_Mover_swap : List Str := ["self", "index"]
theorem sc_Mover_swap : FnScope N_Mover_swap ["self", "index"] (defScope s_Mover_swap) := ⟨rfl, rfl, rfl, by decide +kernel, rfl, by decide +kernel, by decide +kernel⟩
abbrev s_Mover_turn : Stmt := inClass (top 37) 2
abbrev N_Mover_turn : List Str := ["self"]
theorem sc_Mover_turn : FnScope N_Mover_turn ["self"] (defScope s_Mover_turn) := ⟨rfl, rfl, rfl, by decide +kernel, rfl, by decide +kernel, by decide +kernel⟩
abbrev s_Mover_turn_place : Stmt := inClass (top 37) 3
abbrev N_Mover_turn_place : List Str := ["self", "place", "index"]
theorem sc_Mover_turn_place : FnScope N_Mover_turn_place ["self", "place"] (defScope s_Mover_turn_place) := ⟨rfl, rfl, rfl, by decide +kernel, rfl, by decide +kernel, by decide +kernel⟩
abbrev s_Mover_has_none_ahead : Stmt := inClass (top 37) 4
abbrev N_Mover_has_none_ahead : List Str := ["self", "place", "ahead", "other"]
theorem sc_Mover_has_none_ahead : FnScope N_Mover_has_none_ahead ["self", "place"] (defScope s_Mover_has_none_ahead) := ⟨rfl, rfl, rfl, by decide +kernel, rfl, by decide +kernel, by decide +kernel⟩
abbrev s_Mover_follow : Stmt := inClass (top 37) 5
abbrev N_Mover_follow : List Str := ["self", "other", "index"]
theorem sc_Mover_follow : FnScope N_Mover_follow ["self", "other"] (defScope s_Mover_follow) := ⟨rfl, rfl, rfl, by decide +kernel, rfl, by decide +kernel, by decide +kernel⟩
abbrev s_moves_between : Stmt := top 38
abbrev N_moves_between : List Str := ["web", "order", "other", "left", "mover", "most", "place", "one"]
theorem sc_moves_between : FnScope N_moves_between ["web", "order", "other"] (defScope s_moves_between) := ⟨rfl, rfl, rfl, by decide +kernel, rfl, by decide +kernel, by decide +kernel⟩
abbrev s_is_move : Stmt := top 39
abbrev N_is_move : List Str := ["thing", "many"]
theorem sc_is_move : FnScope N_is_move ["thing", "many"] (defScope s_is_move) := ⟨rfl, rfl, rfl, by decide +kernel, rfl, by decide +kernel, by decide +kernel⟩
abbrev s_behind_move : Stmt := top 40
abbrev N_behind_move : List Str := ["web", "order", "move"]
theorem sc_behind_move : FnScope N_behind_move ["web", "order", "move"] (defScope s_behind_move) := ⟨rfl, rfl, rfl, by decide +kernel, rfl, by decide +kernel, by decide +kernel⟩
abbrev s_orders_behind : Stmt := top 41
abbrev N_orders_behind : List Str := ["web", "order", "thing", "found", "move", "later"]
theorem sc_orders_behind : FnScope N_orders_behind ["web", "order", "thing"] (defScope s_orders_behind) := ⟨rfl, rfl, rfl, by decide +kernel, rfl, by decide +kernel, by decide +kernel⟩
abbrev s_need_two_orders : Stmt := top 43
abbrev N_need_two_orders : List Str := ["web", "order", "other"]
theorem sc_need_two_orders : FnScope N_need_two_orders ["web", "order", "other"] (defScope s_need_two_orders) := ⟨rfl, rfl, rfl, by decide +kernel, rfl, by decide +kernel, by decide +kernel⟩
abbrev s_moves_to : Stmt := top 44
abbrev N_moves_to : List Str := ["web", "order", "other"]
theorem sc_moves_to : FnScope N_moves_to ["web", "order", "other"] (defScope s_moves_to) := ⟨rfl, rfl, rfl, by decide +kernel, rfl, by decide +kernel, by decide +kernel⟩
abbrev s_moves_hold : Stmt := top 45
abbrev N_moves_hold : List Str := ["web", "order", "other", "thing", "found"]
theorem sc_moves_hold : FnScope N_moves_hold ["web", "order", "other", "thing"] (defScope s_moves_hold) := ⟨rfl, rfl, rfl, by decide +kernel, rfl, by decide +kernel, by decide +kernel⟩
abbrev s_ring_between : Stmt := top 46
abbrev N_ring_between : List Str := ["web", "order", "other"]
theorem sc_ring_between : FnScope N_ring_between ["web", "order", "other"] (defScope s_ring_between) := ⟨rfl, rfl, rfl, by decide +kernel, rfl, by decide +kernel, by decide +kernel⟩
abbrev s_ring_counts : Stmt := top 47
abbrev N_ring_counts : List Str := ["web", "order", "ring"]
theorem sc_ring_counts : FnScope N_ring_counts ["web", "order"] (defScope s_ring_counts) := ⟨rfl, rfl, rfl, by decide +kernel, rfl, by decide +kernel, by decide +kernel⟩
abbrev s_law_feed : Stmt := top 49
abbrev N_law_feed : List Str := ["_law_script", "_law_k", "_law_cell"]
theorem sc_law_feed : FnScope N_law_feed ["_law_script", "_law_k"] (defScope s_law_feed) := ⟨rfl, rfl, rfl, by decide +kernel, rfl, by decide +kernel, by decide +kernel⟩
abbrev s_law_draw : Stmt := top 50
abbrev N_law_draw : List Str := ["_law_feed_here", "_law_many", "_law_rest", "_law_got", "_law_stir"]
theorem sc_law_draw : FnScope N_law_draw ["_law_feed_here", "_law_many"] (defScope s_law_draw) := ⟨rfl, rfl, rfl, by decide +kernel, rfl, by decide +kernel, by decide +kernel⟩
abbrev s_law_one : Stmt := top 51
abbrev N_law_one : List Str := ["_law_feed_here", "_law_things"]
theorem sc_law_one : FnScope N_law_one ["_law_feed_here", "_law_things"] (defScope s_law_one) := ⟨rfl, rfl, rfl, by decide +kernel, rfl, by decide +kernel, by decide +kernel⟩
abbrev s_law_mixed : Stmt := top 52
abbrev N_law_mixed : List Str := ["_law_feed_here", "_law_things", "_law_pool", "_law_got", "_law_turn"]
theorem sc_law_mixed : FnScope N_law_mixed ["_law_feed_here", "_law_things"] (defScope s_law_mixed) := ⟨rfl, rfl, rfl, by decide +kernel, rfl, by decide +kernel, by decide +kernel⟩
abbrev s_law_names : Stmt := top 53
abbrev N_law_names : List Str := ["_law_feed_here", "_law_many"]
theorem sc_law_names : FnScope N_law_names ["_law_feed_here", "_law_many"] (defScope s_law_names) := ⟨rfl, rfl, rfl, by decide +kernel, rfl, by decide +kernel, by decide +kernel⟩
abbrev s_law_web : Stmt := top 54
abbrev N_law_web : List Str := ["_law_feed_here", "_law_way", "_law_most", "_law_many", "_law_pairs", "_law_shape", "_law_at", "_law_back", "_law_turn", "_law_one_here", "_law_other", "_law_pair", "_law_names_here", "_law_roads"]
theorem sc_law_web : FnScope N_law_web ["_law_feed_here", "_law_way", "_law_most"] (defScope s_law_web) := ⟨rfl, rfl, rfl, by decide +kernel, rfl, by decide +kernel, by decide +kernel⟩
abbrev s_law_neighbours : Stmt := top 55
abbrev N_law_neighbours : List Str := ["_law_web_here", "_law_place", "_law_got", "_law_other"]
theorem sc_law_neighbours : FnScope N_law_neighbours ["_law_web_here", "_law_place"] (defScope s_law_neighbours) := ⟨rfl, rfl, rfl, by decide +kernel, rfl, by decide +kernel, by decide +kernel⟩
abbrev s_law_order : Stmt := top 56
abbrev N_law_order : List Str := ["_law_feed_here", "_law_web_here"]
theorem sc_law_order : FnScope N_law_order ["_law_feed_here", "_law_web_here"] (defScope s_law_order) := ⟨rfl, rfl, rfl, by decide +kernel, rfl, by decide +kernel, by decide +kernel⟩
abbrev s_law_rings_of : Stmt := top 57
abbrev N_law_rings_of : List Str := ["_law_web_here", "_law_most", "_law_got", "_law_left", "_law_place", "_law_way", "_law_other"]
theorem sc_law_rings_of : FnScope N_law_rings_of ["_law_web_here", "_law_most"] (defScope s_law_rings_of) := ⟨rfl, rfl, rfl, by decide +kernel, rfl, by decide +kernel, by decide +kernel⟩
abbrev s_law_forward : Stmt := top 58
abbrev N_law_forward : List Str := ["_law_order_here", "_law_ring", "_law_one_here", "_law_two"]
theorem sc_law_forward : FnScope N_law_forward ["_law_order_here", "_law_ring"] (defScope s_law_forward) := ⟨rfl, rfl, rfl, by decide +kernel, rfl, by decide +kernel, by decide +kernel⟩
abbrev s_law_orders : Stmt := top 59
abbrev N_law_orders : List Str := ["_law_places", "_law_got", "_law_at", "_law_place", "_law_rest"]
theorem sc_law_orders : FnScope N_law_orders ["_law_places"] (defScope s_law_orders) := ⟨rfl, rfl, rfl, by decide +kernel, rfl, by decide +kernel, by decide +kernel⟩
abbrev s_law_class : Stmt := top 60
abbrev N_law_class : List Str := ["_law_web_here", "_law_order_here", "_law_got", "_law_left", "_law_here", "_law_more", "_law_at", "_law_there"]
theorem sc_law_class : FnScope N_law_class ["_law_web_here", "_law_order_here"] (defScope s_law_class) := ⟨rfl, rfl, rfl, by decide +kernel, rfl, by decide +kernel, by decide +kernel⟩
abbrev s_law_pair_right : Stmt := top 61
abbrev N_law_pair_right : List Str := ["_law_web_here", "_law_order_here", "_law_other", "_law_is_led", "_law_rings", "_law_alike", "_law_ring", "_law_moves"]
theorem sc_law_pair_right : FnScope N_law_pair_right ["_law_web_here", "_law_order_here", "_law_other", "_law_is_led", "_law_rings"] (defScope s_law_pair_right) := ⟨rfl, rfl, rfl, by decide +kernel, rfl, by decide +kernel, by decide +kernel⟩
abbrev s_law : Stmt := top 62
abbrev N_law : List Str := ["_law_script", "_law_k", "_law_feed_here", "_law_web_here", "_law_order_here", "_law_rings", "_law_every", "_law_led", "_law_other"]
theorem sc_law : FnScope N_law ["_law_script"] (defScope s_law) := ⟨rfl, rfl, rfl, by decide +kernel, rfl, by decide +kernel, by decide +kernel⟩
/-- a def of the top, by its name -/
def Stands (K : PySem.W.Frag) (mg : Str → Option Value) (x : Str) (st : Stmt) : Prop := ∃ f fd, FunD K x x (defArgs st) (defBody st) (defScope st) [] [] f fd ∧ mg x = some (.ref f)
/-- a method of the class at C -/
def StandsM (K : PySem.W.Frag) (C : Addr) (m q : Str) (st : Stmt) : Prop := ∃ f fd, FunD K m q (defArgs st) (defBody st) (defScope st) [] [] f fd ∧ Meth K C m f
/-- a def whose body makes a lambda: its code object and that one's table are known -/
structure StandsL (Tb : List (Addr × Str)) (base : Heap) (K : PySem.W.Frag) (mg : Str → Option Value) (x : Str) (st : Stmt) : Prop where
  ex : ∃ (f c Pt : Addr) (fd : FuncData) (oc : Value) (od : Option Addr) (dV kV doc pm : Value) (an : Option Addr) (ct : Value) (osl : Array (Option Value)),
    fd = PySem.W.fnOf x x (defArgs st) (defBody st) (defScope st) dV kV doc pm an (.ref c) ct ∧ K.lookup f = some ⟨oc, od, .func fd, osl⟩ ∧ PySem.W.codeIn K (.ref c) x = true ∧ PySem.W.keepIn K (.ref f) = true ∧ FunD K x x (defArgs st) (defBody st) (defScope st) [] [] f fd ∧ mg x = some (.ref f) ∧ TabB base mg c Pt ∧ Tb = [(Pt, (x ++ ".<locals>.") ++ "<lambda>")]
/-- what the top leaves -/
structure Glob (Tb : List (Addr × Str)) (base : Heap) (K : PySem.W.Frag) (mg : Str → Option Value) (C : Addr) : Prop where
  d_arrows_of : Stands K mg "arrows_of" s_arrows_of
  d_are_apart : Stands K mg "are_apart" s_are_apart
  d_exchanged : Stands K mg "exchanged" s_exchanged
  d_path_between : Stands K mg "path_between" s_path_between
  d_is_integer : Stands K mg "is_integer" s_is_integer
  d_is_name : Stands K mg "is_name" s_is_name
  d_is_row_of : Stands K mg "is_row_of" s_is_row_of
  d_are_unlike : Stands K mg "are_unlike" s_are_unlike
  d_are_places : Stands K mg "are_places" s_are_places
  d_is_road : Stands K mg "is_road" s_is_road
  d_is_web_form : Stands K mg "is_web_form" s_is_web_form
  d_need_web : Stands K mg "need_web" s_need_web
  d_is_order : Stands K mg "is_order" s_is_order
  d_need_order : Stands K mg "need_order" s_need_order
  d_have_road : Stands K mg "have_road" s_have_road
  d_neighbours_of : Stands K mg "neighbours_of" s_neighbours_of
  d_turned : Stands K mg "turned" s_turned
  d_steps_forward : Stands K mg "steps_forward" s_steps_forward
  d_way_within : Stands K mg "way_within" s_way_within
  d_told_from_least : StandsL Tb base K mg "told_from_least" s_told_from_least
  d_told_rings : Stands K mg "told_rings" s_told_rings
  d_ring_apart : Stands K mg "ring_apart" s_ring_apart
  d_lead_of : Stands K mg "lead_of" s_lead_of
  d_turns_wanted : Stands K mg "turns_wanted" s_turns_wanted
  d_Mover_init : ∃ f fd, FunD K "__init__" "Mover.__init__" (defArgs s_Mover_init) (defBody s_Mover_init) (defScope s_Mover_init) [] [] f fd ∧ Mk K C f
  d_Mover_swap : StandsM K C "swap" "Mover.swap" s_Mover_swap
  d_Mover_turn : StandsM K C "turn" "Mover.turn" s_Mover_turn
  d_Mover_turn_place : StandsM K C "turn_place" "Mover.turn_place" s_Mover_turn_place
  d_Mover_has_none_ahead : StandsM K C "has_none_ahead" "Mover.has_none_ahead" s_Mover_has_none_ahead
  d_Mover_follow : StandsM K C "follow" "Mover.follow" s_Mover_follow
  d_moves_between : Stands K mg "moves_between" s_moves_between
  d_is_move : Stands K mg "is_move" s_is_move
  d_behind_move : Stands K mg "behind_move" s_behind_move
  d_orders_behind : Stands K mg "orders_behind" s_orders_behind
  d_need_two_orders : Stands K mg "need_two_orders" s_need_two_orders
  d_moves_to : Stands K mg "moves_to" s_moves_to
  d_moves_hold : Stands K mg "moves_hold" s_moves_hold
  d_ring_between : Stands K mg "ring_between" s_ring_between
  d_ring_counts : Stands K mg "ring_counts" s_ring_counts
  d_law_feed : Stands K mg "_law_feed" s_law_feed
  d_law_draw : Stands K mg "_law_draw" s_law_draw
  d_law_one : Stands K mg "_law_one" s_law_one
  d_law_mixed : Stands K mg "_law_mixed" s_law_mixed
  d_law_names : Stands K mg "_law_names" s_law_names
  d_law_web : Stands K mg "_law_web" s_law_web
  d_law_neighbours : Stands K mg "_law_neighbours" s_law_neighbours
  d_law_order : Stands K mg "_law_order" s_law_order
  d_law_rings_of : Stands K mg "_law_rings_of" s_law_rings_of
  d_law_forward : Stands K mg "_law_forward" s_law_forward
  d_law_orders : Stands K mg "_law_orders" s_law_orders
  d_law_class : Stands K mg "_law_class" s_law_class
  d_law_pair_right : Stands K mg "_law_pair_right" s_law_pair_right
  d_law : Stands K mg "law" s_law
  f_all : mg "all" = none
  f_any : mg "any" = none
  f_bool : mg "bool" = none
  f_enumerate : mg "enumerate" = none
  f_int : mg "int" = none
  f_isinstance : mg "isinstance" = none
  f_len : mg "len" = none
  f_list : mg "list" = none
  f_max : mg "max" = none
  f_min : mg "min" = none
  f_range : mg "range" = none
  f_set : mg "set" = none
  f_sorted : mg "sorted" = none
  f_str : mg "str" = none
  f_sum : mg "sum" = none
  f_tuple : mg "tuple" = none
  f_zip : mg "zip" = none
  g_MOST_SIGNS : ∃ u, mg "MOST_SIGNS" = some u ∧ RelV (.int 8) u
  g_MOST_PLACES : ∃ u, mg "MOST_PLACES" = some u ∧ RelV (.int 8) u
  g_MOST_ROADS : ∃ u, mg "MOST_ROADS" = some u ∧ RelV (.int 14) u
  g_LETTERS : ∃ u, mg "LETTERS" = some u ∧ RelV (.str "abcdefghijklmnopqrstuvwxyz") u
  g_DIGITS : ∃ u, mg "DIGITS" = some u ∧ RelV (.str "0123456789") u
  cM : mg "Mover" = some (.ref C)
  cls : Cls K C
  na_web : NoAttr K C "web"
  na_held : NoAttr K C "held"
  na_moves : NoAttr K C "moves"
theorem okF_of {Tb : List (Addr × Str)} {P : Program} {w : World} {K : PySem.W.Frag} {mg : Str → Option Value} {base : Heap} {x : Str} {st : Stmt} {ps N : List Str} {R : Prm} (k : Nat) (h : Stands K mg x st) (S : FnScope N ps (defScope st))
    (hb : ∀ {f : Addr} {fd : FuncData}, FunD K x x (defArgs st) (defBody st) (defScope st) [] [] f fd → Binds K fd ps [])
    (body : ∀ (f : Addr) (cdv : Value) (A : Around) (outer : List Env) (s : Shared) (H : Hp) (E : XK), Room k (A.deeper (envOfC x (defScope st) s.heap.objs.size f cdv)) →
      ∃ t, PSs (cxOf CX0 P w K mg base N x (defScope st) f cdv A outer s H E).nox (defBody st) t ∧ ∀ δ ω Φ, R δ ω Φ → RR Tb t (δ ++ List.replicate (N.length - ps.length) .un) ω { nx := fun _ ω' => ∃ ω'', Kp ω' ω'' ∧ Φ (.dt .none) ω'', rt := fun s ω' => ∃ ω'', Kp ω' ω'' ∧ Φ s ω'' }) :
    OkF Tb P w K mg base (k + 1) x ps R := by
  obtain ⟨f, fd, F, g⟩ := h
  refine ⟨f, fd, F.ok S (fun vs H Q E h => h.1) (fun cdv A outer s H vs Q E hr h => ?_), g, F.kp, hb F⟩
  obtain ⟨t, h1, h2⟩ := body f cdv A outer s H E hr
  exact ⟨t, PSs.nox h1, body_ok h2 h⟩
end Km
/-! Text KmHead -/
set_option maxHeartbeats 0
/-! What the top leaves, looked at by a Hook. -/
namespace Km
open PySem PySem.Spec PyProof.Rows L2
def d_arrows_of : He.DefD := ⟨("arrows_of", none), "arrows_of", "arrows_of", defArgs s_arrows_of, defBody s_arrows_of, defScope s_arrows_of, [], []⟩
def d_are_apart : He.DefD := ⟨("are_apart", none), "are_apart", "are_apart", defArgs s_are_apart, defBody s_are_apart, defScope s_are_apart, [], []⟩
def d_exchanged : He.DefD := ⟨("exchanged", none), "exchanged", "exchanged", defArgs s_exchanged, defBody s_exchanged, defScope s_exchanged, [], []⟩
def d_path_between : He.DefD := ⟨("path_between", none), "path_between", "path_between", defArgs s_path_between, defBody s_path_between, defScope s_path_between, [], []⟩
def d_is_integer : He.DefD := ⟨("is_integer", none), "is_integer", "is_integer", defArgs s_is_integer, defBody s_is_integer, defScope s_is_integer, [], []⟩
def d_is_name : He.DefD := ⟨("is_name", none), "is_name", "is_name", defArgs s_is_name, defBody s_is_name, defScope s_is_name, [], []⟩
def d_is_row_of : He.DefD := ⟨("is_row_of", none), "is_row_of", "is_row_of", defArgs s_is_row_of, defBody s_is_row_of, defScope s_is_row_of, [], []⟩
def d_are_unlike : He.DefD := ⟨("are_unlike", none), "are_unlike", "are_unlike", defArgs s_are_unlike, defBody s_are_unlike, defScope s_are_unlike, [], []⟩
def d_are_places : He.DefD := ⟨("are_places", none), "are_places", "are_places", defArgs s_are_places, defBody s_are_places, defScope s_are_places, [], []⟩
def d_is_road : He.DefD := ⟨("is_road", none), "is_road", "is_road", defArgs s_is_road, defBody s_is_road, defScope s_is_road, [], []⟩
def d_is_web_form : He.DefD := ⟨("is_web_form", none), "is_web_form", "is_web_form", defArgs s_is_web_form, defBody s_is_web_form, defScope s_is_web_form, [], []⟩
def d_need_web : He.DefD := ⟨("need_web", none), "need_web", "need_web", defArgs s_need_web, defBody s_need_web, defScope s_need_web, [], []⟩
def d_is_order : He.DefD := ⟨("is_order", none), "is_order", "is_order", defArgs s_is_order, defBody s_is_order, defScope s_is_order, [], []⟩
def d_need_order : He.DefD := ⟨("need_order", none), "need_order", "need_order", defArgs s_need_order, defBody s_need_order, defScope s_need_order, [], []⟩
def d_have_road : He.DefD := ⟨("have_road", none), "have_road", "have_road", defArgs s_have_road, defBody s_have_road, defScope s_have_road, [], []⟩
def d_neighbours_of : He.DefD := ⟨("neighbours_of", none), "neighbours_of", "neighbours_of", defArgs s_neighbours_of, defBody s_neighbours_of, defScope s_neighbours_of, [], []⟩
def d_turned : He.DefD := ⟨("turned", none), "turned", "turned", defArgs s_turned, defBody s_turned, defScope s_turned, [], []⟩
def d_steps_forward : He.DefD := ⟨("steps_forward", none), "steps_forward", "steps_forward", defArgs s_steps_forward, defBody s_steps_forward, defScope s_steps_forward, [], []⟩
def d_way_within : He.DefD := ⟨("way_within", none), "way_within", "way_within", defArgs s_way_within, defBody s_way_within, defScope s_way_within, [], []⟩
def d_told_from_least : He.DefD := ⟨("told_from_least", none), "told_from_least", "told_from_least", defArgs s_told_from_least, defBody s_told_from_least, defScope s_told_from_least, [], []⟩
def d_told_rings : He.DefD := ⟨("told_rings", none), "told_rings", "told_rings", defArgs s_told_rings, defBody s_told_rings, defScope s_told_rings, [], []⟩
def d_ring_apart : He.DefD := ⟨("ring_apart", none), "ring_apart", "ring_apart", defArgs s_ring_apart, defBody s_ring_apart, defScope s_ring_apart, [], []⟩
def d_lead_of : He.DefD := ⟨("lead_of", none), "lead_of", "lead_of", defArgs s_lead_of, defBody s_lead_of, defScope s_lead_of, [], []⟩
def d_turns_wanted : He.DefD := ⟨("turns_wanted", none), "turns_wanted", "turns_wanted", defArgs s_turns_wanted, defBody s_turns_wanted, defScope s_turns_wanted, [], []⟩
def d_Mover_init : He.DefD := ⟨("Mover", some "__init__"), "__init__", "Mover.__init__", defArgs s_Mover_init, defBody s_Mover_init, defScope s_Mover_init, [], []⟩
def d_Mover_swap : He.DefD := ⟨("Mover", some "swap"), "swap", "Mover.swap", defArgs s_Mover_swap, defBody s_Mover_swap, defScope s_Mover_swap, [], []⟩
def d_Mover_turn : He.DefD := ⟨("Mover", some "turn"), "turn", "Mover.turn", defArgs s_Mover_turn, defBody s_Mover_turn, defScope s_Mover_turn, [], []⟩
def d_Mover_turn_place : He.DefD := ⟨("Mover", some "turn_place"), "turn_place", "Mover.turn_place", defArgs s_Mover_turn_place, defBody s_Mover_turn_place, defScope s_Mover_turn_place, [], []⟩
def d_Mover_has_none_ahead : He.DefD := ⟨("Mover", some "has_none_ahead"), "has_none_ahead", "Mover.has_none_ahead", defArgs s_Mover_has_none_ahead, defBody s_Mover_has_none_ahead, defScope s_Mover_has_none_ahead, [], []⟩
def d_Mover_follow : He.DefD := ⟨("Mover", some "follow"), "follow", "Mover.follow", defArgs s_Mover_follow, defBody s_Mover_follow, defScope s_Mover_follow, [], []⟩
def d_moves_between : He.DefD := ⟨("moves_between", none), "moves_between", "moves_between", defArgs s_moves_between, defBody s_moves_between, defScope s_moves_between, [], []⟩
def d_is_move : He.DefD := ⟨("is_move", none), "is_move", "is_move", defArgs s_is_move, defBody s_is_move, defScope s_is_move, [], []⟩
def d_behind_move : He.DefD := ⟨("behind_move", none), "behind_move", "behind_move", defArgs s_behind_move, defBody s_behind_move, defScope s_behind_move, [], []⟩
def d_orders_behind : He.DefD := ⟨("orders_behind", none), "orders_behind", "orders_behind", defArgs s_orders_behind, defBody s_orders_behind, defScope s_orders_behind, [], []⟩
def d_need_two_orders : He.DefD := ⟨("need_two_orders", none), "need_two_orders", "need_two_orders", defArgs s_need_two_orders, defBody s_need_two_orders, defScope s_need_two_orders, [], []⟩
def d_moves_to : He.DefD := ⟨("moves_to", none), "moves_to", "moves_to", defArgs s_moves_to, defBody s_moves_to, defScope s_moves_to, [], []⟩
def d_moves_hold : He.DefD := ⟨("moves_hold", none), "moves_hold", "moves_hold", defArgs s_moves_hold, defBody s_moves_hold, defScope s_moves_hold, [], []⟩
def d_ring_between : He.DefD := ⟨("ring_between", none), "ring_between", "ring_between", defArgs s_ring_between, defBody s_ring_between, defScope s_ring_between, [], []⟩
def d_ring_counts : He.DefD := ⟨("ring_counts", none), "ring_counts", "ring_counts", defArgs s_ring_counts, defBody s_ring_counts, defScope s_ring_counts, [], []⟩
def d_law_feed : He.DefD := ⟨("_law_feed", none), "_law_feed", "_law_feed", defArgs s_law_feed, defBody s_law_feed, defScope s_law_feed, [], []⟩
def d_law_draw : He.DefD := ⟨("_law_draw", none), "_law_draw", "_law_draw", defArgs s_law_draw, defBody s_law_draw, defScope s_law_draw, [], []⟩
def d_law_one : He.DefD := ⟨("_law_one", none), "_law_one", "_law_one", defArgs s_law_one, defBody s_law_one, defScope s_law_one, [], []⟩
def d_law_mixed : He.DefD := ⟨("_law_mixed", none), "_law_mixed", "_law_mixed", defArgs s_law_mixed, defBody s_law_mixed, defScope s_law_mixed, [], []⟩
def d_law_names : He.DefD := ⟨("_law_names", none), "_law_names", "_law_names", defArgs s_law_names, defBody s_law_names, defScope s_law_names, [], []⟩
def d_law_web : He.DefD := ⟨("_law_web", none), "_law_web", "_law_web", defArgs s_law_web, defBody s_law_web, defScope s_law_web, [], []⟩
def d_law_neighbours : He.DefD := ⟨("_law_neighbours", none), "_law_neighbours", "_law_neighbours", defArgs s_law_neighbours, defBody s_law_neighbours, defScope s_law_neighbours, [], []⟩
def d_law_order : He.DefD := ⟨("_law_order", none), "_law_order", "_law_order", defArgs s_law_order, defBody s_law_order, defScope s_law_order, [], []⟩
def d_law_rings_of : He.DefD := ⟨("_law_rings_of", none), "_law_rings_of", "_law_rings_of", defArgs s_law_rings_of, defBody s_law_rings_of, defScope s_law_rings_of, [], []⟩
def d_law_forward : He.DefD := ⟨("_law_forward", none), "_law_forward", "_law_forward", defArgs s_law_forward, defBody s_law_forward, defScope s_law_forward, [], []⟩
def d_law_orders : He.DefD := ⟨("_law_orders", none), "_law_orders", "_law_orders", defArgs s_law_orders, defBody s_law_orders, defScope s_law_orders, [], []⟩
def d_law_class : He.DefD := ⟨("_law_class", none), "_law_class", "_law_class", defArgs s_law_class, defBody s_law_class, defScope s_law_class, [], []⟩
def d_law_pair_right : He.DefD := ⟨("_law_pair_right", none), "_law_pair_right", "_law_pair_right", defArgs s_law_pair_right, defBody s_law_pair_right, defScope s_law_pair_right, [], []⟩
def d_law : He.DefD := ⟨("law", none), "law", "law", defArgs s_law, defBody s_law, defScope s_law, [], []⟩
def fn : List He.DefD := [d_arrows_of, d_are_apart, d_exchanged, d_path_between, d_is_integer, d_is_name, d_is_row_of, d_are_unlike, d_are_places, d_is_road, d_is_web_form, d_need_web, d_is_order, d_need_order, d_have_road, d_neighbours_of, d_turned, d_steps_forward, d_way_within, d_told_from_least, d_told_rings, d_ring_apart, d_lead_of, d_turns_wanted, d_Mover_init, d_Mover_swap, d_Mover_turn, d_Mover_turn_place, d_Mover_has_none_ahead, d_Mover_follow, d_moves_between, d_is_move, d_behind_move, d_orders_behind, d_need_two_orders, d_moves_to, d_moves_hold, d_ring_between, d_ring_counts, d_law_feed, d_law_draw, d_law_one, d_law_mixed, d_law_names, d_law_web, d_law_neighbours, d_law_order, d_law_rings_of, d_law_forward, d_law_orders, d_law_class, d_law_pair_right, d_law]
def fa : List He.Fa := [.glo "arrows_of", .glo "are_apart", .glo "exchanged", .glo "path_between", .glo "is_integer", .glo "is_name", .glo "is_row_of", .glo "are_unlike", .glo "are_places", .glo "is_road", .glo "is_web_form", .glo "need_web", .glo "is_order", .glo "need_order", .glo "have_road", .glo "neighbours_of", .glo "turned", .glo "steps_forward", .glo "way_within", .glo "told_from_least", .glo "told_rings", .glo "ring_apart", .glo "lead_of", .glo "turns_wanted", .glo "moves_between", .glo "is_move", .glo "behind_move", .glo "orders_behind", .glo "need_two_orders", .glo "moves_to", .glo "moves_hold", .glo "ring_between", .glo "ring_counts", .glo "_law_feed", .glo "_law_draw", .glo "_law_one", .glo "_law_mixed", .glo "_law_names", .glo "_law_web", .glo "_law_neighbours", .glo "_law_order", .glo "_law_rings_of", .glo "_law_forward", .glo "_law_orders", .glo "_law_class", .glo "_law_pair_right", .glo "law", .glo "Mover", .free "tuple", .free "enumerate", .free "range", .free "isinstance", .free "int", .free "bool", .free "str", .free "len", .free "all", .free "any", .free "set", .free "sorted", .free "min", .free "max", .free "list", .free "sum", .free "zip", .int "MOST_SIGNS" 8, .int "MOST_PLACES" 8, .int "MOST_ROADS" 14, .str "LETTERS" "abcdefghijklmnopqrstuvwxyz", .str "DIGITS" "0123456789", .cls "Mover", .noat "Mover" "web", .noat "Mover" "held", .noat "Mover" "moves", .mkr "Mover", .meth "Mover" "swap", .meth "Mover" "turn", .meth "Mover" "turn_place", .meth "Mover" "has_none_ahead", .meth "Mover" "follow"]
def loose1 : List PySem.Str := ["arrows_of", "are_apart", "exchanged", "path_between", "TurnError", "BadWeb", "BadOrder", "LETTERS", "DIGITS", "MOST_SIGNS", "is_integer", "is_name", "is_row_of", "are_unlike", "MOST_PLACES", "MOST_ROADS", "are_places", "is_road", "is_web_form", "need_web", "is_order", "need_order", "have_road", "neighbours_of", "turned", "steps_forward", "way_within", "told_from_least", "told_rings", "ring_apart"]
def loose2 : List PySem.Str := ["lead_of", "turns_wanted", "Mover", "moves_between", "is_move", "behind_move", "orders_behind", "need_two_orders", "moves_to", "moves_hold", "ring_between", "ring_counts", "_law_feed", "_law_draw", "_law_one", "_law_mixed", "_law_names", "_law_web", "_law_neighbours", "_law_order", "_law_rings_of", "_law_forward", "_law_orders", "_law_class", "_law_pair_right"]
def loose : List PySem.Str := loose1 ++ loose2
abbrev R : PySem.W.OpenRow := PySem.W.OpenLaw.row theRow
def tf : List He.Defn := [("told_from_least", none)]
def exT : PySem.W.Frag → Bool := fun _ => true
abbrev hk : PySem.W.Hook := He.hookX 5 fa fn [] tf exT
def ob (s : PySem.W.SharedT) : He.AlX := He.obsX 5 fa fn [] tf exT (HandSHeadRun.getT s)
theorem ob_eq (s : PySem.W.SharedT) : ob s = hk.obs s.abs := He.obsX_eq (HandSHeadRun.getT_eq s)
theorem head_run (w : World) : HandSHeadRun.RunEq R (PySem.W.view R.prog [62]) hk ob 3000 loose w := by
  intro os
  kernel_rfl
end Km
set_option maxHeartbeats 4000000
/-! Text KmMathA -/
/-! Webs, orders, paths and rings: plain mathematics. -/
namespace Km
section
variable {α : Type} [DecidableEq α]

def adj (rs : List (α × α)) (a b : α) : Bool := decide ((a, b) ∈ rs) || decide ((b, a) ∈ rs)
theorem adj_iff {rs : List (α × α)} {a b : α} : adj rs a b = true ↔ (a, b) ∈ rs ∨ (b, a) ∈ rs := by
  simp [adj]
theorem adj_comm (rs : List (α × α)) (a b : α) : adj rs a b = adj rs b a := by
  unfold adj
  rw [Bool.or_comm]
theorem adj_mono {rs qs : List (α × α)} (h : ∀ r ∈ rs, r ∈ qs) {a b : α} (e : adj rs a b = true) : adj qs a b = true := by
  rw [adj_iff] at e ⊢
  exact e.imp (h _) (h _)
def bef (o : List α) (a b : α) : Bool := decide (o.idxOf a < o.idxOf b)
def b2z (b : Bool) : Int := if b then 1 else 0
def lead (o o' : List α) (a b : α) : Int := b2z (bef o a b) - b2z (bef o' a b)

structure Web (ps : List α) (rs : List (α × α)) : Prop where
  nd : ps.Nodup
  ends : ∀ r ∈ rs, r.1 ∈ ps ∧ r.2 ∈ ps ∧ r.1 ≠ r.2
  one : rs.Pairwise fun r q => r ≠ q ∧ r ≠ (q.2, q.1)
theorem Web.adjE {ps : List α} {rs : List (α × α)} (w : Web ps rs) {a b : α} (h : adj rs a b = true) : a ∈ ps ∧ b ∈ ps ∧ a ≠ b := by
  rcases adj_iff.mp h with h | h
  · exact w.ends _ h
  · obtain ⟨h1, h2, h3⟩ := w.ends _ h
    exact ⟨h2, h1, Ne.symm h3⟩

theorem idx_inj {l : List α} {a b : α} (ha : a ∈ l) (e : l.idxOf a = l.idxOf b) : a = b := by
  have h1 : l.idxOf a < l.length := List.idxOf_lt_length_of_mem ha
  have h2 : l.idxOf b < l.length := by omega
  have e1 : l[l.idxOf a]'h1 = a := List.getElem_idxOf h1
  have e2 : l[l.idxOf b]'h2 = b := List.getElem_idxOf h2
  rw [← e1, ← e2]
  simp [e]
theorem idx_out {l : List α} {a : α} (ha : a ∉ l) : l.idxOf a = l.length := List.idxOf_eq_length ha
/-- the lead is antisymmetric, whatever the two are -/
theorem lead_anti {o o' : List α} (h : ∀ x, x ∈ o ↔ x ∈ o') (a b : α) : lead o o' b a = - lead o o' a b := by
  have key : ∀ (l : List α), (a = b ∨ (a ∉ l ∧ b ∉ l) → bef l a b = false ∧ bef l b a = false) ∧ (¬ (a = b ∨ (a ∉ l ∧ b ∉ l)) → b2z (bef l a b) + b2z (bef l b a) = 1) := by
    intro l
    refine ⟨fun h => ?_, fun h => ?_⟩
    · rcases h with h | ⟨h1, h2⟩
      · subst h
        simp [bef]
      · simp [bef, idx_out h1, idx_out h2]
    · have hne : l.idxOf a ≠ l.idxOf b := fun e => by
        by_cases ha : a ∈ l
        · exact h (.inl (idx_inj ha e))
        · by_cases hb : b ∈ l
          · exact h (.inl (idx_inj hb e.symm).symm)
          · exact h (.inr ⟨ha, hb⟩)
      unfold bef b2z
      by_cases hl : l.idxOf a < l.idxOf b
      · have : ¬ l.idxOf b < l.idxOf a := by omega
        simp [hl, this]
      · have : l.idxOf b < l.idxOf a := by omega
        simp [hl, this]
  unfold lead
  by_cases hc : a = b ∨ (a ∉ o ∧ b ∉ o)
  · have hc' : a = b ∨ (a ∉ o' ∧ b ∉ o') := hc.imp id fun z => ⟨fun q => z.1 ((h a).mpr q), fun q => z.2 ((h b).mpr q)⟩
    obtain ⟨e1, e2⟩ := (key o).1 hc
    obtain ⟨e3, e4⟩ := (key o').1 hc'
    rw [e1, e2, e3, e4]
    rfl
  · have hc' : ¬ (a = b ∨ (a ∉ o' ∧ b ∉ o')) := fun z => hc (z.imp id fun z => ⟨fun q => z.1 ((h a).mp q), fun q => z.2 ((h b).mp q)⟩)
    have e1 := (key o).2 hc
    have e2 := (key o').2 hc'
    omega
theorem lead_add (o o' o'' : List α) (a b : α) : lead o o'' a b = lead o o' a b + lead o' o'' a b := by
  unfold lead
  omega

/-! ### sums along paths -/
def psum (L : α → α → Int) : List α → Int
  | x :: y :: r => L x y + psum L (y :: r)
  | _ => 0
def chn (R : α → α → Bool) : List α → Prop
  | x :: y :: r => R x y = true ∧ chn R (y :: r)
  | _ => True
theorem psum_app (L : α → α → Int) (x : α) (b : List α) : ∀ a : List α, psum L (a ++ x :: b) = psum L (a ++ [x]) + psum L (x :: b)
  | [] => by simp [psum]
  | [y] => by simp [psum]
  | y :: z :: r => by
    have ih := psum_app L x b (z :: r)
    simp only [List.cons_append, psum] at ih ⊢
    omega
theorem chn_app (R : α → α → Bool) (x : α) (b : List α) : ∀ a : List α, chn R (a ++ x :: b) ↔ chn R (a ++ [x]) ∧ chn R (x :: b)
  | [] => by simp [chn]
  | [y] => by simp [chn]
  | y :: z :: r => by
    have ih := chn_app R x b (z :: r)
    simp only [List.cons_append, chn] at ih ⊢
    rw [ih, and_assoc]
theorem chn_imp {R S : α → α → Bool} (h : ∀ a b, R a b = true → S a b = true) : ∀ {l : List α}, chn R l → chn S l
  | [], _ => True.intro
  | [_], _ => True.intro
  | _ :: y :: r, c => ⟨h _ _ c.1, chn_imp (l := y :: r) h c.2⟩
theorem chn_tail {R : α → α → Bool} {x : α} {l : List α} (h : chn R (x :: l)) : chn R l := by
  cases l with
  | nil => exact True.intro
  | cons y r => exact h.2
theorem chn_suffix {R : α → α → Bool} : ∀ (u : List α) {v : List α}, chn R (u ++ v) → chn R v
  | [], _, h => h
  | _ :: u, _, h => chn_suffix u (chn_tail h)
theorem chn_prefix {R : α → α → Bool} : ∀ (u : List α) {v : List α}, chn R (u ++ v) → chn R u
  | [], _, _ => True.intro
  | [_], _, _ => True.intro
  | _ :: y :: r, _, h => ⟨h.1, chn_prefix (y :: r) h.2⟩
theorem psum_rev (L : α → α → Int) : ∀ l : List α, psum L l.reverse = psum (fun a b => L b a) l
  | [] => rfl
  | [_] => rfl
  | x :: y :: r => by
    have ih := psum_rev L (y :: r)
    have e : (x :: y :: r).reverse = r.reverse ++ y :: [x] := by simp
    have e2 : (y :: r).reverse = r.reverse ++ [y] := by simp
    rw [e, psum_app, ← e2, ih]
    simp only [psum]
    omega
theorem chn_rev {R : α → α → Bool} (hR : ∀ a b, R a b = R b a) : ∀ {l : List α}, chn R l → chn R l.reverse
  | [], _ => True.intro
  | [_], _ => True.intro
  | x :: y :: r, c => by
    have ih := chn_rev hR (l := y :: r) c.2
    have e : (x :: y :: r).reverse = r.reverse ++ y :: [x] := by simp
    have e2 : (y :: r).reverse = r.reverse ++ [y] := by simp
    rw [e, chn_app, ← e2]
    refine ⟨ih, ?_, True.intro⟩
    rw [hR]
    exact c.1
theorem psum_neg {L : α → α → Int} (hL : ∀ a b, L b a = - L a b) : ∀ l : List α, psum (fun a b => L b a) l = - psum L l
  | [] => rfl
  | [_] => rfl
  | x :: y :: r => by
    have ih := psum_neg hL (y :: r)
    simp only [psum, ih, hL x y]
    omega
theorem psum_pot {L : α → α → Int} {R : α → α → Bool} {f : α → Int} (hf : ∀ a b, R a b = true → f a - f b = L a b) : ∀ (x z : α) (r : List α), chn R (x :: r ++ [z]) → psum L (x :: r ++ [z]) = f x - f z
  | x, z, [], h => by
    have e := hf x z h.1
    simp only [List.cons_append, List.nil_append, psum]
    omega
  | x, z, y :: r, h => by
    have ih := psum_pot hf y z r h.2
    have e := hf x y h.1
    simp only [List.cons_append, psum] at ih ⊢
    omega
theorem psum_sub (f g : α → α → Int) : ∀ l : List α, psum (fun a b => f a b - g a b) l = psum f l - psum g l
  | [] => rfl
  | [_] => rfl
  | x :: y :: r => by
    have ih := psum_sub f g (y :: r)
    simp only [psum, ih]
    omega

/-! ### rings -/
def closeL (l : List α) : List α := l ++ l.take 1
def csum (L : α → α → Int) (l : List α) : Int := psum L (closeL l)
structure IsRing (rs : List (α × α)) (l : List α) : Prop where
  chain : chn (adj rs) (closeL l)
  nd : l.Nodup
  three : 3 ≤ l.length
theorem csum_pot {L : α → α → Int} {rs : List (α × α)} {f : α → Int} (hf : ∀ a b, adj rs a b = true → f a - f b = L a b) {l : List α} (h : chn (adj rs) (closeL l)) : csum L l = 0 := by
  cases l with
  | nil => rfl
  | cons x r =>
    have e := psum_pot hf x x r h
    show psum L (x :: r ++ [x]) = 0
    omega
theorem csum_rot (L : α → α → Int) : ∀ a b : List α, csum L (a ++ b) = csum L (b ++ a)
  | [], b => by simp
  | x :: a, [] => by simp
  | x :: a, y :: b => by
    have e1 : closeL (x :: a ++ y :: b) = (x :: a) ++ y :: (b ++ [x]) := by simp [closeL]
    have e2 : closeL (y :: b ++ x :: a) = (y :: b) ++ x :: (a ++ [y]) := by simp [closeL]
    have h1 := psum_app L y (b ++ [x]) (x :: a)
    have h2 := psum_app L x (a ++ [y]) (y :: b)
    unfold csum
    rw [e1, e2]
    simp only [List.cons_append] at h1 h2 ⊢
    omega
theorem chn_rot (R : α → α → Bool) : ∀ a b : List α, chn R (closeL (a ++ b)) → chn R (closeL (b ++ a))
  | [], b, h => by simpa using h
  | x :: a, [], h => by simpa using h
  | x :: a, y :: b, h => by
    have e1 : closeL (x :: a ++ y :: b) = (x :: a) ++ y :: (b ++ [x]) := by simp [closeL]
    have e2 : closeL (y :: b ++ x :: a) = (y :: b) ++ x :: (a ++ [y]) := by simp [closeL]
    rw [e1, chn_app] at h
    rw [e2, chn_app]
    exact ⟨h.2, h.1⟩
theorem close_rev (x : α) (r : List α) : closeL (x :: r.reverse) = (closeL (x :: r)).reverse := by
  simp [closeL]
theorem csum_rev {L : α → α → Int} (hL : ∀ a b, L b a = - L a b) (x : α) (r : List α) : csum L (x :: r.reverse) = - csum L (x :: r) := by
  unfold csum
  rw [close_rev, psum_rev, psum_neg hL]

/-! ### told from the least place on -/
def leastOf (ps : List α) : α → List α → α
  | m, [] => m
  | m, y :: r => leastOf ps (if ps.idxOf y < ps.idxOf m then y else m) r
theorem leastOf_mem (ps : List α) : ∀ (l : List α) (m : α), leastOf ps m l = m ∨ leastOf ps m l ∈ l
  | [], m => .inl rfl
  | y :: r, m => by
    unfold leastOf
    rcases leastOf_mem ps r (if ps.idxOf y < ps.idxOf m then y else m) with h | h
    · rw [h]
      split
      · exact .inr (List.mem_cons_self ..)
      · exact .inl rfl
    · exact .inr (List.mem_cons_of_mem _ h)
theorem leastOf_le (ps : List α) : ∀ (l : List α) (m : α), ps.idxOf (leastOf ps m l) ≤ ps.idxOf m ∧ ∀ y ∈ l, ps.idxOf (leastOf ps m l) ≤ ps.idxOf y
  | [], m => ⟨Nat.le_refl _, fun _ h => nomatch h⟩
  | z :: r, m => by
    unfold leastOf
    obtain ⟨h1, h2⟩ := leastOf_le ps r (if ps.idxOf z < ps.idxOf m then z else m)
    have h3 : ps.idxOf (if ps.idxOf z < ps.idxOf m then z else m) ≤ ps.idxOf m ∧ ps.idxOf (if ps.idxOf z < ps.idxOf m then z else m) ≤ ps.idxOf z := by
      split <;> omega
    refine ⟨by omega, fun y hy => ?_⟩
    rcases List.mem_cons.mp hy with e | hy
    · rw [e]
      omega
    · exact h2 y hy
def tfl (ps : List α) (l : List α) : List α := match l with
  | [] => []
  | x :: r =>
    let k := (x :: r).idxOf (leastOf ps x r)
    let f := (x :: r).drop k ++ (x :: r).take k
    if ps.idxOf (f.getD 1 x) < ps.idxOf (f.getD (f.length - 1) x) then f else f.take 1 ++ (f.drop 1).reverse
/-- from its least place on, to the lesser neighbour -/
structure Canon (ps : List α) (l : List α) : Prop where
  ex : ∃ s a m z, l = s :: a :: (m ++ [z]) ∧ (∀ y ∈ a :: (m ++ [z]), ps.idxOf s < ps.idxOf y) ∧ ps.idxOf a < ps.idxOf z
theorem rot_split (l : List α) (k : Nat) : l.take k ++ l.drop k = l := List.take_append_drop k l
theorem tfl_spec {ps : List α} {rs : List (α × α)} (hp : ps.Nodup) {l : List α} (h : IsRing rs l) (hs : ∀ y ∈ l, y ∈ ps) :
    IsRing rs (tfl ps l) ∧ Canon ps (tfl ps l) ∧ (∀ y ∈ tfl ps l, y ∈ ps) ∧ ∀ L : α → α → Int, (∀ a b, L b a = - L a b) → (csum L (tfl ps l) = 0 ↔ csum L l = 0) := by
  cases l with
  | nil =>
    have := h.three
    simp at this
  | cons x r =>
    -- the turned ring
    obtain ⟨k, hk⟩ : ∃ k, k = (x :: r).idxOf (leastOf ps x r) := ⟨_, rfl⟩
    obtain ⟨f, hf⟩ : ∃ f, f = (x :: r).drop k ++ (x :: r).take k := ⟨_, rfl⟩
    have hm : leastOf ps x r ∈ x :: r := by
      rcases leastOf_mem ps r x with e | e
      · rw [e]
        exact List.mem_cons_self ..
      · exact List.mem_cons_of_mem _ e
    have hkl : k < (x :: r).length := by
      rw [hk]
      exact List.idxOf_lt_length_of_mem hm
    have hperm : f.Perm (x :: r) := by
      rw [hf]
      have p1 : ((x :: r).drop k ++ (x :: r).take k).Perm ((x :: r).take k ++ (x :: r).drop k) := List.perm_append_comm
      rw [rot_split] at p1
      exact p1
    have hsum : ∀ L : α → α → Int, csum L f = csum L (x :: r) := fun L => by
      rw [hf, csum_rot, rot_split]
    have hchn : chn (adj rs) (closeL f) := by
      have h1 := h.chain
      rw [← rot_split (x :: r) k] at h1
      have h2 := chn_rot _ _ _ h1
      rw [← hf] at h2
      exact h2
    have hnd : f.Nodup := hperm.nodup_iff.mpr h.nd
    have hlen : 3 ≤ f.length := by
      rw [hperm.length_eq]
      exact h.three
    -- its head is the least
    have hhead : ∃ t, f = leastOf ps x r :: t := by
      have e1 : (x :: r).drop k = (x :: r)[k]'hkl :: (x :: r).drop (k + 1) := List.drop_eq_getElem_cons hkl
      have e2 : (x :: r)[k]'hkl = leastOf ps x r := by
        have := List.getElem_idxOf (x := leastOf ps x r) (xs := x :: r) (by rw [← hk]; exact hkl)
        simp only [← hk] at this
        exact this
      rw [hf, e1, e2]
      exact ⟨_, rfl⟩
    obtain ⟨t, ht⟩ := hhead
    have hlt : ∀ y ∈ t, ps.idxOf (leastOf ps x r) < ps.idxOf y := fun y hy => by
      have hy' : y ∈ x :: r := hperm.mem_iff.mp (by rw [ht]; exact List.mem_cons_of_mem _ hy)
      have h1 : ps.idxOf (leastOf ps x r) ≤ ps.idxOf y := by
        rcases List.mem_cons.mp hy' with e | hy'
        · rw [e]
          exact (leastOf_le ps r x).1
        · exact (leastOf_le ps r x).2 y hy'
      have h2 : ps.idxOf (leastOf ps x r) ≠ ps.idxOf y := fun e => by
        have e2 := idx_inj (hs _ hm) e
        rw [ht, e2] at hnd
        exact (List.nodup_cons.mp hnd).1 hy
      omega
    -- its parts
    obtain ⟨a, m, z, hp3⟩ : ∃ a m z, t = a :: (m ++ [z]) := by
      rw [ht] at hlen
      cases t with
      | nil => simp at hlen
      | cons a t2 =>
        have hne : t2 ≠ [] := fun e => by
          rw [e] at hlen
          simp at hlen
        exact ⟨a, t2.dropLast, t2.getLast hne, by rw [List.dropLast_concat_getLast]⟩
    have hfl : f = leastOf ps x r :: a :: (m ++ [z]) := by rw [ht, hp3]
    have g1 : f.getD 1 x = a := by rw [hfl]; rfl
    have g2 : f.getD (f.length - 1) x = z := by
      have e : f = (leastOf ps x r :: a :: m) ++ [z] := by rw [hfl]; rfl
      rw [e]
      simp
    have htfl : tfl ps (x :: r) = if ps.idxOf a < ps.idxOf z then f else f.take 1 ++ (f.drop 1).reverse := by
      show (if ps.idxOf (((x :: r).drop ((x :: r).idxOf (leastOf ps x r)) ++ (x :: r).take ((x :: r).idxOf (leastOf ps x r))).getD 1 x) < ps.idxOf (((x :: r).drop ((x :: r).idxOf (leastOf ps x r)) ++ (x :: r).take ((x :: r).idxOf (leastOf ps x r))).getD (((x :: r).drop ((x :: r).idxOf (leastOf ps x r)) ++ (x :: r).take ((x :: r).idxOf (leastOf ps x r))).length - 1) x) then ((x :: r).drop ((x :: r).idxOf (leastOf ps x r)) ++ (x :: r).take ((x :: r).idxOf (leastOf ps x r))) else ((x :: r).drop ((x :: r).idxOf (leastOf ps x r)) ++ (x :: r).take ((x :: r).idxOf (leastOf ps x r))).take 1 ++ (((x :: r).drop ((x :: r).idxOf (leastOf ps x r)) ++ (x :: r).take ((x :: r).idxOf (leastOf ps x r))).drop 1).reverse) = _
      rw [← hk, ← hf, g1, g2]
    have hmem : ∀ y ∈ f, y ∈ ps := fun y hy => hs y (hperm.mem_iff.mp hy)
    have haz : ps.idxOf a ≠ ps.idxOf z := fun e => by
      have ha : a ∈ ps := hmem a (by rw [hfl]; simp)
      have e2 := idx_inj ha e
      rw [hfl, e2] at hnd
      simp at hnd
    rw [htfl]
    by_cases hc : ps.idxOf a < ps.idxOf z
    · rw [if_pos hc]
      exact ⟨⟨hchn, hnd, hlen⟩, ⟨_, a, m, z, hfl, fun y hy => hlt y (by rw [hp3]; exact hy), hc⟩, hmem, fun L _ => by rw [hsum]⟩
    · rw [if_neg hc]
      have e1 : f.take 1 ++ (f.drop 1).reverse = leastOf ps x r :: t.reverse := by rw [ht]; rfl
      have e2 : leastOf ps x r :: t.reverse = leastOf ps x r :: z :: (m.reverse ++ [a]) := by rw [hp3]; simp
      rw [e1]
      refine ⟨⟨?_, ?_, ?_⟩, ⟨_, z, m.reverse, a, e2, fun y hy => ?_, by omega⟩, fun y hy => ?_, fun L hL => ?_⟩
      · rw [close_rev, ← ht]
        exact chn_rev (fun a b => adj_comm rs a b) hchn
      · have p : (leastOf ps x r :: t.reverse).Perm f := by
          rw [ht]
          exact List.Perm.cons _ (List.reverse_perm t)
        exact p.nodup_iff.mpr hnd
      · rw [ht] at hlen
        simpa using hlen
      · refine hlt y ?_
        rw [hp3]
        simp at hy ⊢
        rcases hy with h | h | h
        · exact .inr (.inr h)
        · exact .inr (.inl h)
        · exact .inl h
      · refine hmem y ?_
        rw [ht]
        simpa using hy
      · rw [csum_rev hL, ← ht, hsum]
        omega
end
end Km
/-! Text KmMathB -/
/-! Ways within laid roads, told rings, the potential. -/
namespace Km
section
variable {α : Type} [DecidableEq α]

/-! ### the search for a way; ways are kept turned about (the last place first) -/
def thereOf (x : α) (r : α × α) : α := if r.1 = x then r.2 else r.1
def whead (w : List α) (x : α) (r : α × α) : Option α :=
  if x = r.1 ∨ x = r.2 then (if thereOf x r ∈ w then none else some (thereOf x r)) else none
def wheads (rs : List (α × α)) (w : List α) (x : α) : List α := rs.filterMap (whead w x)
def wexts (rs : List (α × α)) (w : List α) (x : α) : List (List α) := (wheads rs w x).map fun t => t :: w
def wayGo (rs : List (α × α)) (goal : α) : Nat → List (List α) → Option (Option (List α))
  | 0, _ => none
  | _ + 1, [] => some none
  | _ + 1, [] :: _ => some none
  | n + 1, (x :: u) :: st => if x = goal then some (some (x :: u).reverse) else wayGo rs goal n ((wexts rs (x :: u) x).reverse ++ st)
def wt : Nat → Nat
  | 0 => 1
  | n + 1 => 1 + (n + 1) * wt n
def way (fuel : Nat) (rs : List (α × α)) (a b : α) : Option (List α) := (wayGo rs b fuel [[a]]).getD none

theorem wheads_mem {rs : List (α × α)} {w : List α} {x t : α} : t ∈ wheads rs w x ↔ t ∉ w ∧ adj rs x t = true := by
  unfold wheads
  rw [List.mem_filterMap]
  constructor
  · rintro ⟨⟨a, b⟩, hr, e⟩
    unfold whead at e
    split at e
    · rename_i hx
      split at e
      · cases e
      · rename_i hn
        have e' := Option.some.inj e
        rw [e'] at hn
        refine ⟨hn, ?_⟩
        rw [adj_iff]
        unfold thereOf at e'
        simp only at hx e'
        by_cases ha : a = x
        · rw [if_pos ha] at e'
          rw [← e', ← ha]
          exact .inl hr
        · rw [if_neg ha] at e'
          rcases hx with hx | hx
          · exact absurd hx.symm ha
          · rw [← e', hx]
            exact .inr hr
    · cases e
  · rintro ⟨hn, h⟩
    rcases adj_iff.mp h with h | h
    · refine ⟨_, h, ?_⟩
      simp [whead, thereOf, hn]
    · refine ⟨_, h, ?_⟩
      by_cases ht : t = x
      · subst ht
        simp [whead, thereOf, hn]
      · simp [whead, thereOf, hn, ht]
theorem there_back {x : α} {r : α × α} {y : α} (hx : x = r.1 ∨ x = r.2) (e : thereOf x r = y) : r = (x, y) ∨ r = (y, x) := by
  obtain ⟨a, b⟩ := r
  unfold thereOf at e
  simp only at hx e
  by_cases ha : a = x
  · rw [if_pos ha] at e
    exact .inl (by rw [ha, e])
  · rw [if_neg ha] at e
    rcases hx with hx | hx
    · exact absurd hx.symm ha
    · exact .inr (by rw [e, hx])
theorem wheads_nodup {rs : List (α × α)} (ho : rs.Pairwise fun r q => r ≠ q ∧ r ≠ (q.2, q.1)) {w : List α} {x : α} (hx : x ∈ w) : (wheads rs w x).Nodup := by
  unfold wheads List.Nodup
  rw [List.pairwise_filterMap]
  refine ho.imp ?_
  intro r q h12 y hy z hz e
  obtain ⟨h1, h2⟩ := h12
  subst e
  unfold whead at hy hz
  split at hy
  · rename_i hp
    split at hy
    · cases hy
    · split at hz
      · rename_i hq
        split at hz
        · cases hz
        · have ey := Option.some.inj hy
          have ez := Option.some.inj hz
          rcases there_back hp ey with e1 | e1 <;> rcases there_back hq ez with e2 | e2
          · exact h1 (e1.trans e2.symm)
          · exact h2 (by rw [e1, e2])
          · exact h2 (by rw [e1, e2])
          · exact h1 (e1.trans e2.symm)
      · cases hz
  · cases hy
theorem wheads_len {ps : List α} {rs : List (α × α)} (ho : rs.Pairwise fun r q => r ≠ q ∧ r ≠ (q.2, q.1)) (he : ∀ r ∈ rs, r.1 ∈ ps ∧ r.2 ∈ ps) {w : List α} {x : α} (hx : x ∈ w) (hn : w.Nodup) (hs : ∀ y ∈ w, y ∈ ps) :
    (wheads rs w x).length + w.length ≤ ps.length := by
  have h : (wheads rs w x ++ w).Nodup := by
    rw [List.nodup_append]
    exact ⟨wheads_nodup ho hx, hn, fun a ha b hb e => (wheads_mem.mp ha).1 (e ▸ hb)⟩
  have h2 := List.Nodup.length_le_of_subset (l₂ := ps) h fun y hy => by
    rcases List.mem_append.mp hy with hy | hy
    · rcases adj_iff.mp (wheads_mem.mp hy).2 with q | q
      · exact (he _ q).2
      · exact (he _ q).1
    · exact hs y hy
  simpa using h2

theorem wt_pos : ∀ n, 1 ≤ wt n
  | 0 => Nat.le_refl _
  | n + 1 => Nat.le_add_right _ _
def wsum (n : Nat) (st : List (List α)) : Nat := (st.map fun w => wt (n - w.length)).sum
theorem wsum_app (n : Nat) (a b : List (List α)) : wsum n (a ++ b) = wsum n a + wsum n b := by
  simp [wsum]
theorem wsum_exts (n : Nat) (w : List α) : ∀ (l : List α), wsum n ((l.map fun t => t :: w).reverse) = l.length * wt (n - (w.length + 1))
  | [] => by simp [wsum]
  | t :: l => by
    have ih := wsum_exts n w l
    rw [List.map_cons, List.reverse_cons, wsum_app, ih]
    simp [wsum, Nat.add_mul]
/-- ways of places of the web, no place twice -/
def WOk (ps : List α) (w : List α) : Prop := w ≠ [] ∧ w.Nodup ∧ ∀ y ∈ w, y ∈ ps
theorem WOk.len {ps w : List α} (h : WOk ps w) : w.length ≤ ps.length := List.Nodup.length_le_of_subset h.2.1 fun _ hy => h.2.2 _ hy
theorem wexts_ok {ps : List α} {rs : List (α × α)} (he : ∀ r ∈ rs, r.1 ∈ ps ∧ r.2 ∈ ps) {w : List α} {x : α} (h : WOk ps w) : ∀ v ∈ wexts rs w x, WOk ps v := fun v hv => by
  obtain ⟨t, ht, rfl⟩ := List.mem_map.mp hv
  obtain ⟨h1, h2⟩ := wheads_mem.mp ht
  refine ⟨List.cons_ne_nil _ _, List.nodup_cons.mpr ⟨h1, h.2.1⟩, fun y hy => ?_⟩
  rcases List.mem_cons.mp hy with e | hy
  · rw [e]
    rcases adj_iff.mp h2 with q | q
    · exact (he _ q).2
    · exact (he _ q).1
  · exact h.2.2 y hy
/-- a step lowers the weight of what is left -/
theorem wsum_step {ps : List α} {rs : List (α × α)} (ho : rs.Pairwise fun r q => r ≠ q ∧ r ≠ (q.2, q.1)) (he : ∀ r ∈ rs, r.1 ∈ ps ∧ r.2 ∈ ps) {x : α} {u : List α} (h : WOk ps (x :: u)) (st : List (List α)) :
    wsum ps.length ((wexts rs (x :: u) x).reverse ++ st) < wsum ps.length ((x :: u) :: st) := by
  have hl := wheads_len ho he (x := x) (List.mem_cons_self ..) h.2.1 h.2.2
  have hlen := h.len
  rw [wsum_app]
  unfold wexts
  rw [wsum_exts]
  have e : wsum ps.length ((x :: u) :: st) = wt (ps.length - (x :: u).length) + wsum ps.length st := by simp [wsum]
  rw [e]
  cases hd : ps.length - (x :: u).length with
  | zero =>
    have h0 : (wheads rs (x :: u) x).length = 0 := by omega
    rw [h0, Nat.zero_mul]
    have := wt_pos 0
    omega
  | succ d =>
    have hd2 : ps.length - ((x :: u).length + 1) = d := by omega
    rw [hd2]
    have h3 : (wheads rs (x :: u) x).length ≤ d + 1 := by omega
    have h4 : (wheads rs (x :: u) x).length * wt d ≤ (d + 1) * wt d := Nat.mul_le_mul_right _ h3
    show _ < 1 + (d + 1) * wt d + _
    omega
theorem wayGo_total {ps : List α} {rs : List (α × α)} (ho : rs.Pairwise fun r q => r ≠ q ∧ r ≠ (q.2, q.1)) (he : ∀ r ∈ rs, r.1 ∈ ps ∧ r.2 ∈ ps) (goal : α) : ∀ (n : Nat) (st : List (List α)), (∀ w ∈ st, WOk ps w) → wsum ps.length st < n → ∃ r, wayGo rs goal n st = some r
  | 0, _, _, h => absurd h (Nat.not_lt_zero _)
  | n + 1, [], _, _ => ⟨_, rfl⟩
  | n + 1, [] :: st, _, _ => ⟨_, rfl⟩
  | n + 1, (x :: u) :: st, hw, hl => by
    unfold wayGo
    split
    · exact ⟨_, rfl⟩
    · have h0 := hw _ (List.mem_cons_self ..)
      have hs := wsum_step ho he h0 st
      refine wayGo_total ho he goal n _ (fun v hv => ?_) (by omega)
      rcases List.mem_append.mp hv with hv | hv
      · exact wexts_ok he h0 v (List.mem_reverse.mp hv)
      · exact hw v (List.mem_cons_of_mem _ hv)

/-! ### what is found is a way -/
structure IsWay (rs : List (α × α)) (a : α) (w : List α) : Prop where
  nd : w.Nodup
  ch : chn (adj rs) w
  last : w.getLast? = some a
theorem IsWay.ext {rs : List (α × α)} {a x t : α} {u : List α} (h : IsWay rs a (x :: u)) (hn : t ∉ x :: u) (ha : adj rs x t = true) : IsWay rs a (t :: x :: u) := by
  refine ⟨List.nodup_cons.mpr ⟨hn, h.nd⟩, ⟨?_, h.ch⟩, ?_⟩
  · rw [adj_comm]
    exact ha
  · rw [List.getLast?_cons_cons]
    exact h.last
theorem wayGo_sound {rs : List (α × α)} {a goal : α} : ∀ (n : Nat) (st : List (List α)) (p : List α), (∀ w ∈ st, IsWay rs a w) → wayGo rs goal n st = some (some p) → IsWay rs a p.reverse ∧ p.reverse.head? = some goal
  | 0, _, _, _, h => by cases h
  | n + 1, [], _, _, h => by cases h
  | n + 1, [] :: st, _, _, h => by cases h
  | n + 1, (x :: u) :: st, p, hw, h => by
    unfold wayGo at h
    split at h
    · rename_i hx
      have e := Option.some.inj (Option.some.inj h)
      rw [← e, List.reverse_reverse]
      exact ⟨hw _ (List.mem_cons_self ..), by rw [hx]; rfl⟩
    · refine wayGo_sound n _ p (fun v hv => ?_) h
      rcases List.mem_append.mp hv with hv | hv
      · obtain ⟨t, ht, rfl⟩ := List.mem_map.mp (List.mem_reverse.mp hv)
        obtain ⟨h1, h2⟩ := wheads_mem.mp ht
        exact (hw _ (List.mem_cons_self ..)).ext h1 h2
      · exact hw v (List.mem_cons_of_mem _ hv)
def Prom (rs : List (α × α)) (goal : α) (w : List α) : Prop := ∃ t, (t ++ w).Nodup ∧ chn (adj rs) (t ++ w) ∧ (t ++ w).head? = some goal
theorem wayGo_finds {rs : List (α × α)} {goal : α} : ∀ (n : Nat) (st : List (List α)), (∀ w ∈ st, w ≠ []) → (∃ w ∈ st, Prom rs goal w) → wayGo rs goal n st ≠ some none
  | 0, _, _, _ => by unfold wayGo; exact fun h => nomatch h
  | n + 1, [], _, h => by obtain ⟨_, h, _⟩ := h; cases h
  | n + 1, [] :: st, hw, _ => absurd rfl (hw [] (List.mem_cons_self ..))
  | n + 1, (x :: u) :: st, hw, h => by
    unfold wayGo
    split
    · exact fun h => nomatch (Option.some.inj h)
    · rename_i hx
      have hne : ∀ v ∈ (wexts rs (x :: u) x).reverse ++ st, v ≠ [] := fun v hv => by
        rcases List.mem_append.mp hv with hv | hv
        · obtain ⟨t, ht, rfl⟩ := List.mem_map.mp (List.mem_reverse.mp hv)
          exact List.cons_ne_nil _ _
        · exact hw v (List.mem_cons_of_mem _ hv)
      refine wayGo_finds n _ hne ?_
      obtain ⟨w, hm, t, h1, h2, h3⟩ := h
      rcases List.mem_cons.mp hm with e | hm
      · subst e
        have htne : t ≠ [] := fun e => by
          rw [e] at h3
          exact hx (Option.some.inj h3)
        have hs : t.dropLast ++ [t.getLast htne] = t := List.dropLast_concat_getLast htne
        generalize t.getLast htne = q at hs
        generalize t.dropLast = t' at hs
        subst hs
        have e1 : t' ++ [q] ++ x :: u = t' ++ q :: x :: u := by simp
        rw [e1] at h1 h2 h3
        refine ⟨q :: x :: u, List.mem_append_left _ (List.mem_reverse.mpr (List.mem_map.mpr ⟨q, wheads_mem.mpr ⟨?_, ?_⟩, rfl⟩)), t', h1, h2, h3⟩
        · have h4 := (List.nodup_append.mp h1).2.1
          exact (List.nodup_cons.mp h4).1
        · have h4 := chn_suffix t' h2
          rw [adj_comm]
          exact h4.1
      · exact ⟨w, List.mem_append_right _ hm, t, h1, h2, h3⟩

/-! ### places that roads join -/
inductive Conn (rs : List (α × α)) (a : α) : α → Prop
  | refl : Conn rs a a
  | step {b c : α} : Conn rs a b → adj rs b c = true → Conn rs a c
theorem Conn.trans {rs : List (α × α)} {a b c : α} (h : Conn rs a b) (h' : Conn rs b c) : Conn rs a c := by
  induction h' with
  | refl => exact h
  | step _ e ih => exact ih.step e
theorem Conn.one {rs : List (α × α)} {a b : α} (e : adj rs a b = true) : Conn rs a b := Conn.refl.step e
theorem Conn.symm {rs : List (α × α)} {a b : α} (h : Conn rs a b) : Conn rs b a := by
  induction h with
  | refl => exact .refl
  | step _ e ih => exact (Conn.one (by rw [adj_comm]; exact e)).trans ih
theorem Conn.mono {rs qs : List (α × α)} (h : ∀ r ∈ rs, r ∈ qs) {a b : α} (c : Conn rs a b) : Conn qs a b := by
  induction c with
  | refl => exact .refl
  | step _ e ih => exact ih.step (adj_mono h e)
theorem Conn.way {rs : List (α × α)} {a b : α} (h : Conn rs a b) : ∃ w, IsWay rs a w ∧ w.head? = some b := by
  induction h with
  | refl => exact ⟨[a], ⟨by simp, True.intro, rfl⟩, rfl⟩
  | @step b c _ e ih =>
    obtain ⟨w, hw, hh⟩ := ih
    cases w with
    | nil => cases hh
    | cons x u =>
      have ex : x = b := Option.some.inj hh
      subst ex
      by_cases hc : c ∈ x :: u
      · obtain ⟨l, r, e⟩ := List.append_of_mem hc
        refine ⟨c :: r, ⟨?_, ?_, ?_⟩, rfl⟩
        · have h1 := hw.nd
          rw [e] at h1
          exact (List.nodup_append.mp h1).2.1
        · have h1 := hw.ch
          rw [e] at h1
          exact chn_suffix l h1
        · have h1 := hw.last
          rw [e] at h1
          rw [List.getLast?_append] at h1
          cases hq : (c :: r).getLast? with
          | none => simp at hq
          | some z =>
            rw [hq] at h1
            simpa using h1
      · exact ⟨c :: x :: u, hw.ext hc e, rfl⟩
theorem way_some {fuel : Nat} {rs : List (α × α)} {a b : α} {p : List α} (h : way fuel rs a b = some p) : IsWay rs a p.reverse ∧ p.reverse.head? = some b := by
  unfold way at h
  cases e : wayGo rs b fuel [[a]] with
  | none =>
    rw [e] at h
    cases h
  | some r =>
    rw [e] at h
    have h' : r = some p := h
    subst h'
    refine wayGo_sound fuel [[a]] p (fun w hw => ?_) e
    rw [List.mem_singleton.mp hw]
    exact ⟨by simp, True.intro, rfl⟩
theorem way_go {ps : List α} {rs : List (α × α)} (ho : rs.Pairwise fun r q => r ≠ q ∧ r ≠ (q.2, q.1)) (he : ∀ r ∈ rs, r.1 ∈ ps ∧ r.2 ∈ ps) {a b : α} (ha : a ∈ ps) :
    wayGo rs b (wt ps.length + 1) [[a]] = some (way (wt ps.length + 1) rs a b) := by
  have hw : ∀ w ∈ [[a]], WOk ps w := fun w hw => by
    rw [List.mem_singleton.mp hw]
    exact ⟨by simp, by simp, by simpa using ha⟩
  have mono : ∀ n, wt n ≤ wt (n + 1) := fun n => by
    show wt n ≤ 1 + (n + 1) * wt n
    have : 1 * wt n ≤ (n + 1) * wt n := Nat.mul_le_mul_right _ (by omega)
    omega
  have hl : wsum ps.length [[a]] < wt ps.length + 1 := by
    have e : wsum ps.length [[a]] = wt (ps.length - 1) := by simp [wsum]
    rw [e]
    have : 0 < ps.length := List.length_pos_of_mem ha
    have h2 := mono (ps.length - 1)
    rw [show ps.length - 1 + 1 = ps.length by omega] at h2
    omega
  obtain ⟨r, hr⟩ := wayGo_total ho he b (wt ps.length + 1) [[a]] hw hl
  unfold way
  rw [hr]
  rfl
theorem way_none {ps : List α} {rs : List (α × α)} (ho : rs.Pairwise fun r q => r ≠ q ∧ r ≠ (q.2, q.1)) (he : ∀ r ∈ rs, r.1 ∈ ps ∧ r.2 ∈ ps) {a b : α} (ha : a ∈ ps) (h : way (wt ps.length + 1) rs a b = none) : ¬ Conn rs a b := by
  intro c
  obtain ⟨w, hw, hh⟩ := c.way
  have e := way_go ho he (b := b) ha
  rw [h] at e
  refine wayGo_finds _ _ (fun w hw => by rw [List.mem_singleton.mp hw]; simp) ⟨[a], List.mem_singleton.mpr rfl, ?_⟩ e
  have hne : w ≠ [] := fun z => by
    rw [z] at hh
    cases hh
  have hs : w.dropLast ++ [w.getLast hne] = w := List.dropLast_concat_getLast hne
  have hl : w.getLast hne = a := by
    have := hw.last
    rw [List.getLast?_eq_some_getLast hne] at this
    exact Option.some.inj this
  rw [hl] at hs
  exact ⟨w.dropLast, by rw [hs]; exact hw.nd, by rw [hs]; exact hw.ch, by rw [hs]; exact hh⟩

/-! ### told rings -/
def told (ps : List α) : List (α × α) → List (α × α) → List (List α)
  | _, [] => []
  | laid, r :: rest => match way (wt ps.length + 1) laid r.1 r.2 with
    | none => told ps (laid ++ [r]) rest
    | some w => tfl ps w :: told ps laid rest
structure LaidOk (ps : List α) (rs laid rest : List (α × α)) : Prop where
  sub : ∀ r ∈ laid, r ∈ rs
  one : (laid ++ rest).Pairwise fun r q => r ≠ q ∧ r ≠ (q.2, q.1)
  suf : ∀ r ∈ rest, r ∈ rs
theorem LaidOk.lay {ps : List α} {rs laid rest : List (α × α)} {r : α × α} (h : LaidOk ps rs laid (r :: rest)) : LaidOk ps rs (laid ++ [r]) rest :=
  ⟨fun q hq => (List.mem_append.mp hq).elim (h.sub q) fun z => by rw [List.mem_singleton.mp z]; exact h.suf r (List.mem_cons_self ..), by rw [List.append_assoc]; exact h.one, fun q hq => h.suf q (List.mem_cons_of_mem _ hq)⟩
theorem LaidOk.put {ps : List α} {rs laid rest : List (α × α)} {r : α × α} (h : LaidOk ps rs laid (r :: rest)) : LaidOk ps rs laid rest :=
  ⟨h.sub, h.one.sublist (List.Sublist.append_left (List.sublist_cons_self _ _) _), fun q hq => h.suf q (List.mem_cons_of_mem _ hq)⟩
theorem LaidOk.laid {ps : List α} {rs laid rest : List (α × α)} (h : LaidOk ps rs laid rest) : laid.Pairwise fun r q => r ≠ q ∧ r ≠ (q.2, q.1) := (List.pairwise_append.mp h.one).1
/-- the way that a road closes, with the road, is a ring of the web -/
theorem way_ring {ps : List α} {rs laid rest : List (α × α)} (W : Web ps rs) {r : α × α} (h : LaidOk ps rs laid (r :: rest)) {w : List α} (e : way (wt ps.length + 1) laid r.1 r.2 = some w) :
    IsRing rs w ∧ (∀ y ∈ w, y ∈ ps) ∧ ∃ t, w = r.1 :: (t ++ [r.2]) ∧ chn (adj laid) w := by
  obtain ⟨hw, hh⟩ := way_some e
  obtain ⟨e1, e2, e3⟩ := W.ends r (h.suf r (List.mem_cons_self ..))
  -- its form
  have hrev : w.reverse.reverse = w := List.reverse_reverse w
  obtain ⟨t, ht⟩ : ∃ t, w = r.1 :: (t ++ [r.2]) := by
    cases hc : w.reverse with
    | nil =>
      rw [hc] at hh
      cases hh
    | cons z u =>
      rw [hc] at hh hw
      have ez : z = r.2 := Option.some.inj hh
      subst ez
      cases u with
      | nil =>
        have := hw.last
        have e4 : r.2 = r.1 := by simpa using this
        exact absurd e4.symm e3
      | cons y v =>
        have hne : y :: v ≠ [] := List.cons_ne_nil _ _
        have hs : (y :: v).dropLast ++ [(y :: v).getLast hne] = y :: v := List.dropLast_concat_getLast hne
        have hl : (y :: v).getLast hne = r.1 := by
          have := hw.last
          rw [List.getLast?_cons_cons, List.getLast?_eq_some_getLast hne] at this
          exact Option.some.inj this
        rw [hl] at hs
        refine ⟨(y :: v).dropLast.reverse, ?_⟩
        rw [← hrev, hc, ← hs]
        simp
  have hch : chn (adj laid) w := by
    have := chn_rev (R := adj laid) (fun a b => adj_comm laid a b) hw.ch
    rw [hrev] at this
    exact this
  have hnd : w.Nodup := by
    have h1 := hw.nd
    exact (List.reverse_perm w).nodup_iff.mp h1
  have hadj : adj rs r.2 r.1 = true := by
    rw [adj_comm]
    exact adj_iff.mpr (.inl (h.suf r (List.mem_cons_self ..)))
  have hmem : ∀ y ∈ w, y ∈ ps := by
    intro y hy
    rw [ht] at hy hch
    -- each place but the first has a road
    have key : ∀ (l : List α) (x : α), x ∈ ps → chn (adj laid) (x :: l) → ∀ y ∈ x :: l, y ∈ ps := by
      intro l
      induction l with
      | nil =>
        intro x hx _ y hy
        rw [List.mem_singleton.mp hy]
        exact hx
      | cons z l ih =>
        intro x hx hc y hy
        rcases List.mem_cons.mp hy with e | hy
        · rw [e]
          exact hx
        · exact ih z (W.adjE (adj_mono h.sub hc.1)).2.1 hc.2 y hy
    exact key _ _ e1 hch y hy
  refine ⟨⟨?_, hnd, ?_⟩, hmem, t, ht, hch⟩
  · have e4 : closeL w = (r.1 :: t) ++ r.2 :: [r.1] := by rw [ht]; simp [closeL]
    rw [e4, chn_app]
    refine ⟨?_, hadj, True.intro⟩
    have e5 : r.1 :: t ++ [r.2] = w := by rw [ht]; rfl
    rw [e5]
    exact chn_imp (fun a b q => adj_mono h.sub q) hch
  · rw [ht]
    cases t with
    | nil =>
      exfalso
      rw [ht] at hch
      have h1 : adj laid r.1 r.2 = true := hch.1
      have h2 := (List.pairwise_append.mp h.one).2.2
      rcases adj_iff.mp h1 with q | q
      · exact (h2 _ q _ (List.mem_cons_self ..)).1 rfl
      · exact (h2 _ q _ (List.mem_cons_self ..)).2 rfl
    | cons a t => simp
theorem told_rings {ps : List α} {rs : List (α × α)} (W : Web ps rs) : ∀ (rest laid : List (α × α)), LaidOk ps rs laid rest → ∀ l ∈ told ps laid rest, IsRing rs l ∧ Canon ps l ∧ ∀ y ∈ l, y ∈ ps
  | [], _, _, l, hl => nomatch hl
  | r :: rest, laid, h, l, hl => by
    unfold told at hl
    cases e : way (wt ps.length + 1) laid r.1 r.2 with
    | none =>
      rw [e] at hl
      exact told_rings W rest _ h.lay l hl
    | some w =>
      rw [e] at hl
      rcases List.mem_cons.mp hl with q | hl
      · obtain ⟨h1, h2, _⟩ := way_ring W h e
        obtain ⟨a, b, c, _⟩ := tfl_spec W.nd h1 h2
        rw [q]
        exact ⟨a, b, c⟩
      · exact told_rings W rest _ h.put l hl
noncomputable def shiftF (rs : List (α × α)) (b : α) (c : Int) (f : α → Int) : α → Int := fun x => @ite _ (Conn rs b x) (Classical.propDecidable _) (f x + c) (f x)
theorem shiftF_yes {rs : List (α × α)} {b x : α} {c : Int} {f : α → Int} (h : Conn rs b x) : shiftF rs b c f x = f x + c := if_pos h
theorem shiftF_no {rs : List (α × α)} {b x : α} {c : Int} {f : α → Int} (h : ¬ Conn rs b x) : shiftF rs b c f x = f x := if_neg h
/-- THE POTENTIAL: where no told ring has a sum -/
theorem told_pot {ps : List α} {rs : List (α × α)} (W : Web ps rs) {L : α → α → Int} (hL : ∀ a b, L b a = - L a b) : ∀ (rest laid : List (α × α)) (f : α → Int), LaidOk ps rs laid rest →
    (∀ r ∈ laid, f r.1 - f r.2 = L r.1 r.2) → (∀ l ∈ told ps laid rest, csum L l = 0) →
    ∃ g : α → Int, (∀ r ∈ laid, g r.1 - g r.2 = L r.1 r.2) ∧ (∀ r ∈ rest, g r.1 - g r.2 = L r.1 r.2) ∧ ∀ x y, Conn laid x y → g x - g y = f x - f y
  | [], laid, f, _, hf, _ => ⟨f, hf, (fun _ h => nomatch h), fun _ _ _ => rfl⟩
  | r :: rest, laid, f, h, hf, hz => by
    have he : ∀ q ∈ laid, q.1 ∈ ps ∧ q.2 ∈ ps := fun q hq => let ⟨a, b, _⟩ := W.ends q (h.sub q hq); ⟨a, b⟩
    have hr := W.ends r (h.suf r (List.mem_cons_self ..))
    unfold told at hz
    cases e : way (wt ps.length + 1) laid r.1 r.2 with
    | none =>
      rw [e] at hz
      have hno := way_none h.laid he hr.1 e
      have hf' : ∀ x y, Conn laid x y → shiftF laid r.2 (f r.1 - f r.2 - L r.1 r.2) f x - shiftF laid r.2 (f r.1 - f r.2 - L r.1 r.2) f y = f x - f y := fun x y c => by
        by_cases hx : Conn laid r.2 x
        · have hy : Conn laid r.2 y := hx.trans c
          rw [shiftF_yes hx, shiftF_yes hy]
          omega
        · have hy : ¬ Conn laid r.2 y := fun q => hx (q.trans c.symm)
          rw [shiftF_no hx, shiftF_no hy]
      have hlaid : ∀ q ∈ laid ++ [r], shiftF laid r.2 (f r.1 - f r.2 - L r.1 r.2) f q.1 - shiftF laid r.2 (f r.1 - f r.2 - L r.1 r.2) f q.2 = L q.1 q.2 := fun q hq => by
        rcases List.mem_append.mp hq with hq | hq
        · rw [hf' q.1 q.2 (Conn.one (adj_iff.mpr (.inl hq)))]
          exact hf q hq
        · rw [List.mem_singleton.mp hq]
          have n1 : ¬ Conn laid r.2 r.1 := fun q => hno q.symm
          have n2 : Conn laid r.2 r.2 := .refl
          rw [shiftF_no n1, shiftF_yes n2]
          omega
      obtain ⟨g, g1, g2, g3⟩ := told_pot W hL rest (laid ++ [r]) _ h.lay hlaid hz
      refine ⟨g, fun q hq => g1 q (List.mem_append_left _ hq), fun q hq => ?_, fun x y c => ?_⟩
      · rcases List.mem_cons.mp hq with q' | hq
        · rw [q']
          exact g1 r (List.mem_append_right _ (List.mem_singleton.mpr rfl))
        · exact g2 q hq
      · rw [g3 x y (c.mono fun q hq => List.mem_append_left _ hq)]
        exact hf' x y c
    | some w =>
      rw [e] at hz
      obtain ⟨g, g1, g2, g3⟩ := told_pot W hL rest laid f h.put hf fun l hl => hz l (List.mem_cons_of_mem _ hl)
      refine ⟨g, g1, fun q hq => ?_, g3⟩
      rcases List.mem_cons.mp hq with q' | hq
      · rw [q']
        obtain ⟨h1, h2, t, ht, hc⟩ := way_ring W h e
        have hz0 : csum L w = 0 := ((tfl_spec W.nd h1 h2).2.2.2 L hL).mp (hz _ (List.mem_cons_self ..))
        have hg : ∀ a b, adj laid a b = true → g a - g b = L a b := fun a b q => by
          rcases adj_iff.mp q with q | q
          · exact g1 _ q
          · have := g1 _ q
            have e2 := hL b a
            simp only at this
            omega
        have e1 : psum L (r.1 :: t ++ [r.2]) = g r.1 - g r.2 := psum_pot hg r.1 r.2 t (by rw [ht] at hc; exact hc)
        have e2 : closeL w = (r.1 :: t) ++ r.2 :: [r.1] := by rw [ht]; simp [closeL]
        unfold csum at hz0
        rw [e2, psum_app, e1] at hz0
        have e3 : psum L [r.2, r.1] = L r.2 r.1 := by simp [psum]
        have e4 := hL r.1 r.2
        omega
      · exact g2 q hq
def toldRings (ps : List α) (rs : List (α × α)) : List (List α) := told ps [] rs
theorem laid_start {ps : List α} {rs : List (α × α)} (W : Web ps rs) : LaidOk ps rs [] rs := ⟨(fun _ h => nomatch h), W.one, fun _ h => h⟩
/-- a potential of the lead from an order to another one -/
def Pot (rs : List (α × α)) (L : α → α → Int) : Prop := ∃ f : α → Int, ∀ a b, adj rs a b = true → f a - f b = L a b
theorem pot_iff_told {ps : List α} {rs : List (α × α)} (W : Web ps rs) {L : α → α → Int} (hL : ∀ a b, L b a = - L a b) : Pot rs L ↔ ∀ l ∈ toldRings ps rs, csum L l = 0 := by
  constructor
  · rintro ⟨f, hf⟩ l hl
    exact csum_pot hf (told_rings W rs [] (laid_start W) l hl).1.chain
  · intro hz
    obtain ⟨g, _, g2, _⟩ := told_pot W hL rs [] (fun _ => 0) (laid_start W) (fun _ h => nomatch h) hz
    refine ⟨g, fun a b q => ?_⟩
    rcases adj_iff.mp q with q | q
    · exact g2 _ q
    · have := g2 _ q
      have e2 := hL b a
      simp only at this
      omega
end
end Km
/-! Text KmMathC -/
/-! Orders, moves, and that moves lead where there is a potential. -/
namespace Km
section
variable {α : Type} [DecidableEq α]

theorem bef_nil (a b : α) : bef [] a b = false := by simp [bef]
theorem bef_cons (x : α) (l : List α) (a b : α) : bef (x :: l) a b = if x = b then false else if x = a then true else bef l a b := by
  unfold bef
  rw [List.idxOf_cons, List.idxOf_cons]
  by_cases hb : x = b
  · simp [hb]
  · by_cases ha : x = a
    · subst ha
      have h2 : (x == b) = false := beq_eq_false_iff_ne.mpr hb
      simp [h2, hb]
    · have h1 : (x == a) = false := beq_eq_false_iff_ne.mpr ha
      have h2 : (x == b) = false := beq_eq_false_iff_ne.mpr hb
      simp [h1, h2, hb, ha]
theorem bef_swap {p q a b : α} (h : ¬ (a = p ∧ b = q)) (h' : ¬ (a = q ∧ b = p)) (v : List α) : ∀ u : List α, bef (u ++ p :: q :: v) a b = bef (u ++ q :: p :: v) a b
  | [] => by
    simp only [List.nil_append, bef_cons]
    by_cases h1 : p = b <;> by_cases h2 : p = a <;> by_cases h3 : q = b <;> by_cases h4 : q = a
    all_goals first
      | (exfalso; exact h ⟨h2.symm, h3.symm⟩)
      | (exfalso; exact h' ⟨h4.symm, h1.symm⟩)
      | simp [h1, h2, h3, h4]
    all_goals first
      | (intro e; exact absurd e.symm h1)
      | skip
  | x :: u => by
    have ih := bef_swap h h' v u
    simp only [List.cons_append, bef_cons, ih]
theorem bef_snoc {x a b : α} (ha : a ≠ x) (hb : b ≠ x) : ∀ l : List α, bef (l ++ [x]) a b = bef l a b
  | [] => by
    simp only [List.nil_append, bef_cons, bef_nil]
    rw [if_neg (Ne.symm hb), if_neg (Ne.symm ha)]
  | y :: l => by simp only [List.cons_append, bef_cons, bef_snoc ha hb l]
theorem bef_last {x b : α} : ∀ {l : List α}, x ∉ l → b ∈ l → bef (l ++ [x]) x b = false
  | [], _, h => nomatch h
  | y :: l, hx, hb => by
    simp only [List.cons_append, bef_cons]
    by_cases h : y = b
    · rw [if_pos h]
    · have h2 : ¬ y = x := fun e => hx (by rw [e]; exact List.mem_cons_self ..)
      rw [if_neg h, if_neg h2]
      exact bef_last (fun z => hx (List.mem_cons_of_mem _ z)) ((List.mem_cons.mp hb).resolve_left fun e => h e.symm)
theorem bef_tolast {x a : α} : ∀ {l : List α}, x ∉ l → a ∈ l → bef (l ++ [x]) a x = true
  | [], _, h => nomatch h
  | y :: l, hx, ha => by
    simp only [List.cons_append, bef_cons]
    have h2 : ¬ y = x := fun e => hx (by rw [e]; exact List.mem_cons_self ..)
    rw [if_neg h2]
    by_cases h : y = a
    · rw [if_pos h]
    · rw [if_neg h]
      exact bef_tolast (fun z => hx (List.mem_cons_of_mem _ z)) ((List.mem_cons.mp ha).resolve_left fun e => h e.symm)
/-- what stands ahead of p in a list without doubles -/
theorem bef_split {p q : α} : ∀ {u v : List α}, p ∉ u → (bef (u ++ p :: v) q p = true ↔ q ∈ u)
  | [], v, _ => by simp [bef_cons]
  | y :: u, v, h => by
    have h2 : ¬ y = p := fun e => h (by rw [e]; exact List.mem_cons_self ..)
    have ih := bef_split (q := q) (u := u) (v := v) fun z => h (List.mem_cons_of_mem _ z)
    simp only [List.cons_append, bef_cons, if_neg h2, List.mem_cons]
    by_cases hq : y = q
    · simp [hq]
    · rw [if_neg hq, ih]
      constructor
      · exact .inr
      · rintro (e | e)
        · exact absurd e.symm hq
        · exact e

/-! ### moves -/
def turned (o : List α) : List α := o.drop 1 ++ o.take 1
inductive Mv where
  | swap (i : Nat)
  | turn
  deriving DecidableEq
def appMv (rs : List (α × α)) (o : List α) : Mv → Option (List α)
  | .turn => some (turned o)
  | .swap i => match o.drop i with
    | a :: b :: r => if adj rs a b = true then none else some (o.take i ++ b :: a :: r)
    | _ => none
def run (rs : List (α × α)) : List α → List Mv → Option (List α)
  | o, [] => some o
  | o, m :: ms => match appMv rs o m with
    | some o' => run rs o' ms
    | none => none
theorem run_app (rs : List (α × α)) : ∀ (a b : List Mv) (o : List α), run rs o (a ++ b) = match run rs o a with
    | some o' => run rs o' b
    | none => none
  | [], b, o => rfl
  | m :: a, b, o => by
    simp only [List.cons_append, run]
    cases h : appMv rs o m with
    | none => rfl
    | some o' => exact run_app rs a b o'
theorem run_trans {rs : List (α × α)} {o o' o'' : List α} {a b : List Mv} (h : run rs o a = some o') (h' : run rs o' b = some o'') : run rs o (a ++ b) = some o'' := by
  rw [run_app, h]
  exact h'
theorem app_swap {rs : List (α × α)} (u v : List α) {a b : α} (h : adj rs a b = false) : appMv rs (u ++ a :: b :: v) (.swap u.length) = some (u ++ b :: a :: v) := by
  simp only [appMv, List.drop_left]
  simp [h]
theorem app_swap_inv {rs : List (α × α)} {o o' : List α} {i : Nat} (h : appMv rs o (.swap i) = some o') : ∃ u a b v, o = u ++ a :: b :: v ∧ o' = u ++ b :: a :: v ∧ adj rs a b = false ∧ u.length = i := by
  unfold appMv at h
  simp only at h
  split at h
  · rename_i a b r e
    split at h
    · cases h
    · rename_i hn
      have hl : i < o.length := by
        have := congrArg List.length e
        simp at this
        omega
      refine ⟨o.take i, a, b, r, ?_, (Option.some.inj h).symm, by simpa using hn, by simp; omega⟩
      rw [← e, List.take_append_drop]
  · cases h
theorem turned_perm (o : List α) : (turned o).Perm o := by
  have h : (o.drop 1 ++ o.take 1).Perm (o.take 1 ++ o.drop 1) := List.perm_append_comm
  rw [List.take_append_drop] at h
  exact h
theorem app_perm {rs : List (α × α)} {o o' : List α} {m : Mv} (h : appMv rs o m = some o') : o'.Perm o := by
  cases m with
  | turn =>
    have e := Option.some.inj h
    rw [← e]
    exact turned_perm o
  | swap i =>
    obtain ⟨u, a, b, v, rfl, rfl, _, _⟩ := app_swap_inv h
    exact List.Perm.append_left _ (List.Perm.swap ..)
theorem run_perm {rs : List (α × α)} : ∀ {ms : List Mv} {o o' : List α}, run rs o ms = some o' → o'.Perm o
  | [], o, o', h => by
    cases h
    exact .refl _
  | m :: ms, o, o', h => by
    unfold run at h
    cases e : appMv rs o m with
    | none =>
      rw [e] at h
      cases h
    | some o1 =>
      rw [e] at h
      exact (run_perm h).trans (app_perm e)

/-! ### a move has a potential -/
theorem Pot.trans {rs : List (α × α)} {o o' o'' : List α} (h : Pot rs (lead o o')) (h' : Pot rs (lead o' o'')) : Pot rs (lead o o'') := by
  obtain ⟨f, hf⟩ := h
  obtain ⟨g, hg⟩ := h'
  refine ⟨fun x => f x + g x, fun a b e => ?_⟩
  have h1 := hf a b e
  have h2 := hg a b e
  rw [lead_add o o' o'']
  show f a + g a - (f b + g b) = _
  omega
theorem Pot.same {rs : List (α × α)} {o o' : List α} (h : ∀ a b, adj rs a b = true → bef o a b = bef o' a b) : Pot rs (lead o o') := ⟨fun _ => 0, fun a b e => by unfold lead; rw [h a b e]; show (0 : Int) - 0 = _; omega⟩
theorem swap_bef {rs : List (α × α)} {p q : α} (h : adj rs p q = false) (u v : List α) (a b : α) (e : adj rs a b = true) : bef (u ++ p :: q :: v) a b = bef (u ++ q :: p :: v) a b := by
  refine bef_swap (fun z => ?_) (fun z => ?_) v u
  · rw [z.1, z.2, h] at e
    cases e
  · rw [z.1, z.2, adj_comm, h] at e
    cases e
/-- the lead of a turn -/
theorem turn_lead {x : α} {l : List α} (hn : (x :: l).Nodup) {a b : α} (ha : a ∈ x :: l) (hb : b ∈ x :: l) (hab : a ≠ b) :
    lead (x :: l) (l ++ [x]) a b = (if a = x then 1 else 0) - (if b = x then 1 else 0) := by
  have hx : x ∉ l := (List.nodup_cons.mp hn).1
  unfold lead
  rw [bef_cons]
  by_cases h1 : a = x
  · subst h1
    have hb' : b ∈ l := (List.mem_cons.mp hb).resolve_left fun e => hab e.symm
    rw [if_neg hab, if_pos rfl, bef_last hx hb', if_pos rfl, if_neg (Ne.symm hab)]
    rfl
  · by_cases h2 : b = x
    · subst h2
      have ha' : a ∈ l := (List.mem_cons.mp ha).resolve_left h1
      rw [if_pos rfl, bef_tolast hx ha', if_neg h1, if_pos rfl]
      rfl
    · rw [if_neg (Ne.symm h2), if_neg (Ne.symm h1), bef_snoc h1 h2, if_neg h1, if_neg h2]
      omega
theorem app_pot {ps : List α} {rs : List (α × α)} (W : Web ps rs) {o o' : List α} (ho : o.Perm ps) {m : Mv} (h : appMv rs o m = some o') : Pot rs (lead o o') := by
  cases m with
  | turn =>
    have e := Option.some.inj h
    rw [← e]
    cases o with
    | nil => exact Pot.same fun _ _ _ => rfl
    | cons x l =>
      refine ⟨fun a => if a = x then 1 else 0, fun a b e => ?_⟩
      obtain ⟨h1, h2, h3⟩ := W.adjE e
      have e2 : turned (x :: l) = l ++ [x] := by simp [turned]
      rw [e2]
      exact (turn_lead (ho.nodup_iff.mpr W.nd) (ho.mem_iff.mpr h1) (ho.mem_iff.mpr h2) h3).symm
  | swap i =>
    obtain ⟨u, a, b, v, rfl, rfl, hn, _⟩ := app_swap_inv h
    exact Pot.same (swap_bef hn u v)
theorem run_pot {ps : List α} {rs : List (α × α)} (W : Web ps rs) : ∀ {ms : List Mv} {o o' : List α}, o.Perm ps → run rs o ms = some o' → Pot rs (lead o o')
  | [], o, o', _, h => by
    cases h
    exact Pot.same fun _ _ _ => rfl
  | m :: ms, o, o', ho, h => by
    unfold run at h
    cases e : appMv rs o m with
    | none =>
      rw [e] at h
      cases h
    | some o1 =>
      rw [e] at h
      exact (app_pot W ho e).trans (run_pot W ((app_perm e).trans ho) h)

/-! ### a place brought ahead -/
/-- k + n - 1, .., k -/
def downs (k : Nat) : Nat → List Nat
  | 0 => []
  | n + 1 => (k + n) :: downs k n
theorem bubble {rs : List (α × α)} {p : α} (w : List α) : ∀ (n : Nat) (u v : List α), u.length = n → (∀ q ∈ u, adj rs p q = false) →
    run rs (w ++ u ++ p :: v) ((downs w.length n).map .swap) = some (w ++ p :: u ++ v) ∧ ∀ a b, adj rs a b = true → bef (w ++ u ++ p :: v) a b = bef (w ++ p :: u ++ v) a b
  | 0, u, v, hl, _ => by
    have e := List.eq_nil_of_length_eq_zero hl
    subst e
    simp [downs, run]
  | n + 1, u, v, hl, hu => by
    have hne : u ≠ [] := fun e => by
      rw [e] at hl
      cases hl
    have hs : u.dropLast ++ [u.getLast hne] = u := List.dropLast_concat_getLast hne
    generalize u.getLast hne = z at hs
    generalize u.dropLast = u' at hs
    subst hs
    have hl' : u'.length = n := by simpa using hl
    have hz : adj rs z p = false := by
      rw [adj_comm]
      exact hu z (by simp)
    obtain ⟨h1, h2⟩ := bubble w n u' (z :: v) hl' fun q hq => hu q (List.mem_append_left _ hq)
    have e1 : w ++ (u' ++ [z]) ++ p :: v = (w ++ u') ++ z :: p :: v := by simp
    have e2 : w ++ u' ++ p :: z :: v = (w ++ u') ++ p :: z :: v := by simp
    have e3 : w ++ p :: (u' ++ [z]) ++ v = w ++ p :: u' ++ z :: v := by simp
    have ea := app_swap (rs := rs) (w ++ u') v hz
    have el : (w ++ u').length = w.length + n := by simp [hl']
    rw [el] at ea
    refine ⟨?_, fun a b e => ?_⟩
    · show run rs (w ++ (u' ++ [z]) ++ p :: v) (.swap (w.length + n) :: (downs w.length n).map .swap) = _
      rw [e1, e3]
      unfold run
      rw [ea]
      exact h1
    · rw [e1, e3, swap_bef hz (w ++ u') v a b e]
      exact h2 a b e
/-- .. and turned -/
theorem turn_place {rs : List (α × α)} {p : α} {u v : List α} (hu : ∀ q ∈ u, adj rs p q = false) : run rs (u ++ p :: v) ((downs 0 u.length).map .swap ++ [.turn]) = some (u ++ v ++ [p]) := by
  have h := (bubble (rs := rs) (p := p) [] u.length u v rfl hu).1
  refine run_trans (o' := p :: (u ++ v)) ?_ ?_
  · simpa using h
  · simp [run, appMv, turned]
/-- the lead that is left falls by one at the place -/
structure Left (rs : List (α × α)) (ps : List α) (f : α → Int) (held other : List α) : Prop where
  pot : ∀ a b, adj rs a b = true → f a - f b = lead held other a b
  nn : ∀ a ∈ ps, 0 ≤ f a
def lessAt (f : α → Int) (p : α) : α → Int := fun a => if a = p then f a - 1 else f a
theorem Left.turn {ps : List α} {rs : List (α × α)} (W : Web ps rs) {f : α → Int} {p : α} {u v other : List α} (L : Left rs ps f (u ++ p :: v) other) (ho : (u ++ p :: v).Perm ps) (hu : ∀ q ∈ u, adj rs p q = false) (hp : 1 ≤ f p) :
    Left rs ps (lessAt f p) (u ++ v ++ [p]) other := by
  refine ⟨fun a b e => ?_, fun a ha => ?_⟩
  · have h1 := L.pot a b e
    have h2 := (bubble (rs := rs) (p := p) [] u.length u v rfl hu).2 a b e
    simp only [List.nil_append] at h2
    obtain ⟨ma, mb, hab⟩ := W.adjE e
    have pm : (p :: (u ++ v)).Perm (u ++ p :: v) := (List.perm_middle).symm
    have h3 := turn_lead (x := p) (l := u ++ v) ((pm.trans ho).nodup_iff.mpr W.nd) ((pm.trans ho).mem_iff.mpr ma) ((pm.trans ho).mem_iff.mpr mb) hab
    have h4 : lead (u ++ p :: v) (u ++ v ++ [p]) a b = lead (p :: (u ++ v)) (u ++ v ++ [p]) a b := by
      unfold lead
      rw [h2]
      rfl
    have h5 := lead_add (u ++ p :: v) (u ++ v ++ [p]) other a b
    unfold lessAt
    by_cases ea : a = p <;> by_cases eb : b = p <;> simp [ea, eb] at h3 ⊢ <;> simp [ea, eb] at h1 h4 h5 <;> omega
  · have := L.nn a ha
    unfold lessAt
    split
    · rename_i e
      rw [e]
      omega
    · exact this
/-- among the places with the greatest number the first in the order has none ahead -/
theorem Left.first {ps : List α} {rs : List (α × α)} (W : Web ps rs) {f : α → Int} {held other : List α} (L : Left rs ps f held other) (ho : held.Perm ps) {p : α} {u v : List α} (e : held = u ++ p :: v)
    (hmax : ∀ a ∈ ps, f a ≤ f p) (hfirst : ∀ q ∈ u, f q ≠ f p) : ∀ q ∈ u, adj rs p q = false := by
  intro q hq
  cases hc : adj rs p q with
  | false => rfl
  | true =>
    exfalso
    have hnd : (u ++ p :: v).Nodup := by
      rw [← e]
      exact ho.nodup_iff.mpr W.nd
    have hpu : p ∉ u := fun z => by
      have := (List.nodup_append.mp hnd).2.2 p z p (List.mem_cons_self ..)
      exact this rfl
    have hb : bef held q p = true := by
      rw [e]
      exact (bef_split hpu).mpr hq
    have h1 := L.pot q p (by rw [adj_comm]; exact hc)
    unfold lead at h1
    rw [hb] at h1
    have h2 := hmax q (ho.mem_iff.mp (by rw [e]; exact List.mem_append_left _ hq))
    have h3 := hfirst q hq
    have e1 : b2z true = 1 := rfl
    have e2 : b2z (bef other q p) ≤ 1 := by
      unfold b2z
      split <;> omega
    omega
/-- a first one there is -/
theorem split_first {f : α → Int} {m : Int} : ∀ {l : List α}, (∃ p ∈ l, f p = m) → ∃ u p v, l = u ++ p :: v ∧ f p = m ∧ ∀ q ∈ u, f q ≠ m
  | [], h => by obtain ⟨_, h, _⟩ := h; cases h
  | x :: l, h => by
    by_cases hx : f x = m
    · exact ⟨[], x, l, rfl, hx, fun _ h => nomatch h⟩
    · obtain ⟨p, hp, e⟩ := h
      have hp' : p ∈ l := (List.mem_cons.mp hp).resolve_left fun z => hx (z ▸ e)
      obtain ⟨u, q, v, h1, h2, h3⟩ := split_first (l := l) ⟨p, hp', e⟩
      refine ⟨x :: u, q, v, by rw [h1]; rfl, h2, fun y hy => ?_⟩
      rcases List.mem_cons.mp hy with z | hy
      · rw [z]
        exact hx
      · exact h3 y hy

/-! ### alike orders: exchanges alone -/
def AlikeO (rs : List (α × α)) (o o' : List α) : Prop := ∀ a b, adj rs a b = true → bef o a b = bef o' a b
theorem bef_pre {a b : α} : ∀ {w l : List α}, a ∉ w → b ∉ w → bef (w ++ l) a b = bef l a b
  | [], _, _, _ => rfl
  | x :: w, l, ha, hb => by
    have h1 : ¬ x = a := fun e => ha (by rw [e]; exact List.mem_cons_self ..)
    have h2 : ¬ x = b := fun e => hb (by rw [e]; exact List.mem_cons_self ..)
    simp only [List.cons_append, bef_cons, if_neg h1, if_neg h2]
    exact bef_pre (fun z => ha (List.mem_cons_of_mem _ z)) (fun z => hb (List.mem_cons_of_mem _ z))
/-- the next place is brought where it belongs -/
theorem follow_step {rs : List (α × α)} {w rem rest : List α} {x : α} (hn : (w ++ x :: rest).Nodup) (hp : rem.Perm (x :: rest)) (h : AlikeO rs (w ++ rem) (w ++ x :: rest)) :
    ∃ u v, rem = u ++ x :: v ∧ x ∉ u ∧ (∀ q ∈ u, adj rs x q = false) ∧ run rs (w ++ rem) ((downs w.length u.length).map .swap) = some (w ++ [x] ++ (u ++ v)) ∧ (u ++ v).Perm rest ∧ AlikeO rs (w ++ [x] ++ (u ++ v)) (w ++ [x] ++ rest) := by
  have hx : x ∈ rem := hp.mem_iff.mpr (List.mem_cons_self ..)
  have hnr : rem.Nodup := hp.nodup_iff.mpr (List.nodup_append.mp hn).2.1
  obtain ⟨u, v, e⟩ := List.append_of_mem hx
  subst e
  have hxu : x ∉ u := fun z => (List.nodup_append.mp hnr).2.2 x z x (List.mem_cons_self ..) rfl
  have hpw : ∀ y ∈ x :: rest, y ∉ w := fun y hy z => (List.nodup_append.mp hn).2.2 y z y hy rfl
  have hu : ∀ q ∈ u, adj rs x q = false := by
    intro q hq
    cases hc : adj rs x q with
    | false => rfl
    | true =>
      exfalso
      have hqm : q ∈ x :: rest := hp.mem_iff.mp (List.mem_append_left _ hq)
      have hqx : q ≠ x := fun e => hxu (e ▸ hq)
      have hr : q ∈ rest := (List.mem_cons.mp hqm).resolve_left hqx
      have h1 := h q x (by rw [adj_comm]; exact hc)
      rw [bef_pre (hpw q hqm) (hpw x (List.mem_cons_self ..)), bef_pre (hpw q hqm) (hpw x (List.mem_cons_self ..)), (bef_split hxu).mpr hq, bef_cons, if_pos rfl] at h1
      cases h1
  obtain ⟨b1, b2⟩ := bubble (rs := rs) (p := x) w u.length u v rfl hu
  have e1 : w ++ (u ++ x :: v) = w ++ u ++ x :: v := by simp
  have e2 : w ++ [x] ++ (u ++ v) = w ++ x :: u ++ v := by simp
  have e3 : w ++ [x] ++ rest = w ++ x :: rest := by simp
  refine ⟨u, v, rfl, hxu, hu, ?_, ?_, fun a b e => ?_⟩
  · rw [e1, e2]
    exact b1
  · have p1 : (x :: (u ++ v)).Perm (u ++ x :: v) := (List.perm_middle).symm
    exact List.Perm.cons_inv (p1.trans hp)
  · rw [e2, e3, ← b2 a b e, ← e1]
    exact h a b e
theorem alike_run {rs : List (α × α)} : ∀ (rest w rem : List α), (w ++ rest).Nodup → rem.Perm rest → AlikeO rs (w ++ rem) (w ++ rest) → ∃ ms, run rs (w ++ rem) ms = some (w ++ rest)
  | [], w, rem, _, hp, _ => by
    have e := List.Perm.eq_nil hp
    subst e
    exact ⟨[], rfl⟩
  | x :: rest, w, rem, hn, hp, h => by
    obtain ⟨u, v, _, _, _, hr, hp', h'⟩ := follow_step hn hp h
    have hn' : (w ++ [x] ++ rest).Nodup := by simpa using hn
    obtain ⟨ms, hms⟩ := alike_run rest (w ++ [x]) (u ++ v) hn' hp' h'
    exact ⟨_, by have := run_trans hr hms; simpa using this⟩
/-- THE MOVES -/
def isum (f : α → Int) : List α → Int
  | [] => 0
  | a :: l => f a + isum f l
theorem isum_less {f : α → Int} {p : α} : ∀ {l : List α}, l.Nodup → isum (lessAt f p) l = isum f l - (if p ∈ l then 1 else 0)
  | [], _ => by simp [isum]
  | a :: l, h => by
    obtain ⟨h1, h2⟩ := List.nodup_cons.mp h
    have ih := isum_less (f := f) (p := p) h2
    simp only [isum, ih]
    unfold lessAt
    by_cases e : a = p
    · subst e
      simp [h1]
      omega
    · have e2 : ¬ p = a := fun z => e z.symm
      simp only [if_neg e, List.mem_cons, e2, false_or]
      omega
theorem isum_nn {f : α → Int} : ∀ {l : List α}, (∀ a ∈ l, 0 ≤ f a) → 0 ≤ isum f l ∧ (isum f l = 0 → ∀ a ∈ l, f a = 0)
  | [], _ => ⟨Int.le_refl _, fun _ _ h => nomatch h⟩
  | x :: l, h => by
    obtain ⟨h1, h2⟩ := isum_nn fun a ha => h a (List.mem_cons_of_mem _ ha)
    have h3 := h x (List.mem_cons_self ..)
    refine ⟨by simp only [isum]; omega, fun e a ha => ?_⟩
    simp only [isum] at e
    rcases List.mem_cons.mp ha with z | ha
    · rw [z]
      omega
    · exact h2 (by omega) a ha
theorem Left.alike {ps : List α} {rs : List (α × α)} (W : Web ps rs) {f : α → Int} {held other : List α} (L : Left rs ps f held other) (hz : ∀ a ∈ ps, f a = 0) : AlikeO rs held other := by
  intro a b e
  obtain ⟨h1, h2, _⟩ := W.adjE e
  have := L.pot a b e
  rw [hz a h1, hz b h2] at this
  unfold lead at this
  cases x : bef held a b <;> cases y : bef other a b <;> rw [x, y] at this <;> simp [b2z] at this <;> rfl
theorem max_there {f : α → Int} : ∀ {l : List α}, l ≠ [] → ∃ p ∈ l, ∀ a ∈ l, f a ≤ f p
  | [], h => absurd rfl h
  | [x], _ => ⟨x, List.mem_singleton.mpr rfl, fun a ha => by rw [List.mem_singleton.mp ha]; exact Int.le_refl _⟩
  | x :: y :: r, _ => by
    obtain ⟨p, hp, hm⟩ := max_there (f := f) (l := y :: r) (List.cons_ne_nil _ _)
    by_cases h : f x ≤ f p
    · refine ⟨p, List.mem_cons_of_mem _ hp, fun a ha => ?_⟩
      rcases List.mem_cons.mp ha with z | ha
      · rw [z]
        exact h
      · exact hm a ha
    · refine ⟨x, List.mem_cons_self .., fun a ha => ?_⟩
      rcases List.mem_cons.mp ha with z | ha
      · rw [z]
        exact Int.le_refl _
      · have := hm a ha
        omega
theorem left_run {ps : List α} {rs : List (α × α)} (W : Web ps rs) {other : List α} (ho : other.Perm ps) : ∀ (n : Nat) (f : α → Int) (held : List α), (isum f ps).toNat = n → held.Perm ps → Left rs ps f held other → ∃ ms, run rs held ms = some other
  | 0, f, held, hn, hh, L => by
    obtain ⟨h1, h2⟩ := isum_nn L.nn
    have hz := h2 (by omega)
    have := alike_run (rs := rs) other [] held (by simpa using ho.nodup_iff.mpr W.nd) (hh.trans ho.symm) (by simpa using L.alike W hz)
    simpa using this
  | n + 1, f, held, hn, hh, L => by
    have hne : ps ≠ [] := fun e => by
      rw [e] at hn
      simp [isum] at hn
    obtain ⟨p0, hp0, hmax⟩ := max_there (f := f) hne
    obtain ⟨u, p, v, e, hp, hfirst⟩ := split_first (f := f) (m := f p0) (l := held) ⟨p0, hh.mem_iff.mpr hp0, rfl⟩
    have hpos : 1 ≤ f p := by
      rw [hp]
      obtain ⟨h1, h2⟩ := isum_nn L.nn
      have h3 := L.nn p0 hp0
      rcases Int.lt_or_le (f p0) 1 with c | c
      · exfalso
        have hz : ∀ a ∈ ps, f a = 0 := fun a ha => by
          have := hmax a ha
          have := L.nn a ha
          omega
        have key : ∀ l : List α, (∀ a ∈ l, f a = 0) → isum f l = 0 := by
          intro l
          induction l with
          | nil => intro _; rfl
          | cons x l ih =>
            intro h
            simp only [isum, ih fun a ha => h a (List.mem_cons_of_mem _ ha), h x (List.mem_cons_self ..)]
            rfl
        rw [key ps hz] at hn
        simp at hn
      · exact c
    have hu := L.first W hh e (p := p) (fun a ha => by rw [hp]; exact hmax a ha) (fun q hq => by rw [hp]; exact hfirst q hq)
    subst e
    have L' := L.turn W hh hu hpos
    have hpm : (u ++ v ++ [p]).Perm (u ++ p :: v) := by
      have h1 : (u ++ v ++ [p]).Perm ([p] ++ (u ++ v)) := List.perm_append_comm
      exact h1.trans (show ([p] ++ (u ++ v)).Perm (u ++ p :: v) from (List.perm_middle (a := p) (l₁ := u) (l₂ := v)).symm)
    have hsum : (isum (lessAt f p) ps).toNat = n := by
      rw [isum_less W.nd, if_pos (hh.mem_iff.mp (by simp))]
      omega
    obtain ⟨ms, hms⟩ := left_run W ho n (lessAt f p) (u ++ v ++ [p]) hsum (hpm.trans hh) L'
    exact ⟨_, run_trans (turn_place hu) hms⟩
theorem pot_run {ps : List α} {rs : List (α × α)} (W : Web ps rs) {o other : List α} (hh : o.Perm ps) (ho : other.Perm ps) (h : Pot rs (lead o other)) : ∃ ms, run rs o ms = some other := by
  obtain ⟨f, hf⟩ := h
  have key : ∀ l : List α, ∃ c : Int, ∀ a ∈ l, 0 ≤ f a + c := by
    intro l
    induction l with
    | nil => exact ⟨0, fun _ h => nomatch h⟩
    | cons x l ih =>
      obtain ⟨c, hc⟩ := ih
      refine ⟨c + (f x).natAbs + c.natAbs, fun a ha => ?_⟩
      rcases List.mem_cons.mp ha with z | ha
      · rw [z]
        omega
      · have := hc a ha
        omega
  obtain ⟨c, hc⟩ := key ps
  exact left_run W ho _ (fun a => f a + c) o rfl hh ⟨fun a b e => by have := hf a b e; show f a + c - (f b + c) = _; omega, hc⟩
theorem pot_iff_run {ps : List α} {rs : List (α × α)} (W : Web ps rs) {o other : List α} (hh : o.Perm ps) (ho : other.Perm ps) : Pot rs (lead o other) ↔ ∃ ms, run rs o ms = some other :=
  ⟨pot_run W hh ho, fun ⟨_, h⟩ => run_pot W hh h⟩
end
end Km
/-! Text KmMathD -/
/-! The law's side: its rings, its class, all orders; steps forward. -/
namespace Km
section
variable {α : Type} [DecidableEq α]

/-! ### steps forward -/
def pcnt (o : List α) : List α → Nat
  | x :: y :: r => (if bef o x y = true then 1 else 0) + pcnt o (y :: r)
  | _ => 0
def stepsN (o l : List α) : Nat := pcnt o (closeL l)
theorem pcnt_psum (o : List α) : ∀ l : List α, (pcnt o l : Int) = psum (fun a b => b2z (bef o a b)) l
  | [] => rfl
  | [_] => rfl
  | x :: y :: r => by
    have ih := pcnt_psum o (y :: r)
    simp only [pcnt, psum]
    rw [← ih]
    unfold b2z
    split <;> simp
theorem steps_csum (o o' l : List α) : (stepsN o l : Int) - (stepsN o' l : Int) = csum (lead o o') l := by
  unfold stepsN csum
  rw [pcnt_psum, pcnt_psum]
  exact (psum_sub _ _ _).symm
theorem steps_eq {o o' l : List α} : stepsN o l = stepsN o' l ↔ csum (lead o o') l = 0 := by
  have := steps_csum o o' l
  omega
/-- the law's count, by pairs -/
theorem zip_count (o : List α) (z : α) : ∀ (x : α) (r : List α), (((x :: r).zip (r ++ [z])).filter fun p => bef o p.1 p.2).length = pcnt o (x :: r ++ [z])
  | x, [] => by
    simp only [List.nil_append, List.zip_cons_cons, List.zip_nil_left, List.cons_append, pcnt]
    by_cases h : bef o x z = true
    · simp [h]
    · simp [h]
  | x, y :: r => by
    have ih := zip_count o z y r
    have e : (x :: y :: r).zip (y :: r ++ [z]) = (x, y) :: (y :: r).zip (r ++ [z]) := rfl
    rw [e, List.filter_cons]
    simp only [List.cons_append, pcnt] at ih ⊢
    by_cases h : bef o x y = true
    · rw [if_pos h, if_pos h, List.length_cons, ih]
      omega
    · rw [if_neg h, if_neg h, ih]
      omega
theorem law_steps (o : List α) : ∀ l : List α, ((l.zip (l.drop 1 ++ l.take 1)).filter fun p => bef o p.1 p.2).length = stepsN o l
  | [] => rfl
  | x :: r => zip_count o x x r
/-- the program's count, by places of the ring -/
def prevAt (l : List α) (i : Nat) : Nat := if i = 0 then l.length - 1 else i - 1
theorem range_count (o : List α) : ∀ (x : α) (r : List α), ((List.range r.length).filter fun i => bef o ((x :: r).getD i x) ((x :: r).getD (i + 1) x)).length = pcnt o (x :: r)
  | x, [] => rfl
  | x, y :: r => by
    have ih := range_count o y r
    rw [List.length_cons, List.range_succ_eq_map, List.filter_cons, List.filter_map, ]
    have e : (fun i => bef o ((x :: y :: r).getD i x) ((x :: y :: r).getD (i + 1) x)) ∘ Nat.succ = fun i => bef o ((y :: r).getD i x) ((y :: r).getD (i + 1) x) := by
      funext i
      rfl
    have e2 : ((List.range r.length).filter fun i => bef o ((y :: r).getD i x) ((y :: r).getD (i + 1) x)) = (List.range r.length).filter fun i => bef o ((y :: r).getD i y) ((y :: r).getD (i + 1) y) := by
      refine List.filter_congr fun i hi => ?_
      have hi' : i < r.length := List.mem_range.mp hi
      have h1 : ∀ d : α, (y :: r).getD i d = (y :: r)[i]'(by simp; omega) := fun d => by rw [List.getD_eq_getElem?_getD, List.getElem?_eq_getElem (by simp; omega)]; rfl
      have h2 : ∀ d : α, (y :: r).getD (i + 1) d = (y :: r)[i + 1]'(by simp; omega) := fun d => by rw [List.getD_eq_getElem?_getD, List.getElem?_eq_getElem (by simp; omega)]; rfl
      rw [h1 x, h1 y, h2 x, h2 y]
    have e3 : (x :: y :: r).getD 0 x = x := rfl
    have e4 : (x :: y :: r).getD (0 + 1) x = y := rfl
    rw [e, e3, e4]
    simp only [pcnt]
    by_cases h : bef o x y = true
    · rw [if_pos h, if_pos h, List.length_cons, List.length_map, e2, ih]
      omega
    · rw [if_neg h, if_neg h, List.length_map, e2, ih]
      omega
theorem prog_steps (o : List α) : ∀ (l : List α) (d : α), ((List.range l.length).filter fun i => bef o (l.getD (prevAt l i) d) (l.getD i d)).length = stepsN o l
  | [], _ => rfl
  | x :: r, d => by
    have h := range_count o x r
    rw [List.length_cons, List.range_succ_eq_map, List.filter_cons, List.filter_map]
    have gd : ∀ (i : Nat) (a b : α), i < (x :: r).length → (x :: r).getD i a = (x :: r).getD i b := fun i a b hi => by
      simp [List.getD_eq_getElem?_getD, List.getElem?_eq_getElem hi]
    have e : ((List.range r.length).filter ((fun i => bef o ((x :: r).getD (prevAt (x :: r) i) d) ((x :: r).getD i d)) ∘ Nat.succ)) = (List.range r.length).filter fun i => bef o ((x :: r).getD i x) ((x :: r).getD (i + 1) x) := by
      refine List.filter_congr fun i hi => ?_
      have hi' : i < r.length := List.mem_range.mp hi
      have e1 : prevAt (x :: r) (Nat.succ i) = i := by simp [prevAt]
      simp only [Function.comp]
      rw [e1, gd i d x (by simp; omega), gd (Nat.succ i) d x (by simp; omega)]
    have e0 : prevAt (x :: r) 0 = r.length := by simp [prevAt]
    have el : (x :: r).getD r.length d = (x :: r).getLast (List.cons_ne_nil _ _) := by
      rw [List.getLast_eq_getElem]
      simp [List.getD_eq_getElem?_getD]
    have ex : (x :: r).getD 0 d = x := rfl
    rw [e0, el, ex]
    -- the pairs of the closed list
    have key : stepsN o (x :: r) = pcnt o (x :: r) + (if bef o ((x :: r).getLast (List.cons_ne_nil _ _)) x = true then 1 else 0) := by
      have hs : (x :: r).dropLast ++ [(x :: r).getLast (List.cons_ne_nil _ _)] = x :: r := List.dropLast_concat_getLast _
      have papp : ∀ (a : List α) (y : α) (b : List α), pcnt o (a ++ y :: b) = pcnt o (a ++ [y]) + pcnt o (y :: b) := fun a y b => by
        have h1 := psum_app (fun a b => b2z (bef o a b)) y b a
        rw [← pcnt_psum, ← pcnt_psum, ← pcnt_psum] at h1
        omega
      unfold stepsN
      have ec : closeL (x :: r) = (x :: r).dropLast ++ (x :: r).getLast (List.cons_ne_nil _ _) :: [x] := by
        show x :: r ++ [x] = _
        have : (x :: r).dropLast ++ (x :: r).getLast (List.cons_ne_nil _ _) :: [x] = ((x :: r).dropLast ++ [(x :: r).getLast (List.cons_ne_nil _ _)]) ++ [x] := by simp
        rw [this, hs]
      rw [ec, papp, hs]
      simp [pcnt]
    rw [key]
    by_cases hb : bef o ((x :: r).getLast (List.cons_ne_nil _ _)) x = true
    · rw [if_pos hb, if_pos hb, List.length_cons, List.length_map, e, h]
    · rw [if_neg hb, if_neg hb, List.length_map, e, h]
      omega

/-! ### the law's rings; ways are kept turned about -/
def nbrs (ps : List α) (rs : List (α × α)) (x : α) : List α := ps.filter fun q => adj rs x q
def rgo (ps : List α) (w : List α) (s q : α) : Bool := decide (q ∉ w) && decide (ps.idxOf s < ps.idxOf q)
def rclose (ps : List α) (w : List α) (x s q : α) : Bool := decide (q = s) && (decide (2 < w.length) && decide (ps.idxOf (w.reverse.getD 1 x) < ps.idxOf x))
def rheads (ps : List α) (rs : List (α × α)) (w : List α) (x s : α) : List α := (nbrs ps rs x).filter (rgo ps w s)
def rexts (ps : List α) (rs : List (α × α)) (w : List α) (x s : α) : List (List α) := (rheads ps rs w x s).map fun t => t :: w
def rgot (ps : List α) (rs : List (α × α)) (w : List α) (x s : α) : List (List α) := ((nbrs ps rs x).filter (rclose ps w x s)).map fun _ => w.reverse
def startOf (x : α) (u : List α) : α := (x :: u).getLast (List.cons_ne_nil _ _)
def ringsGo (ps : List α) (rs : List (α × α)) (most : Nat) : Nat → List (List α) → List (List α) → Option (List (List α))
  | 0, _, _ => none
  | _ + 1, [], got => some got
  | n + 1, w :: st, got => if got.length < most then (match w with
    | [] => some got
    | x :: u => ringsGo ps rs most n ((rexts ps rs (x :: u) x (startOf x u)).reverse ++ st) (got ++ rgot ps rs (x :: u) x (startOf x u))) else some got
theorem nbrs_mem {ps : List α} {rs : List (α × α)} {x q : α} : q ∈ nbrs ps rs x ↔ q ∈ ps ∧ adj rs x q = true := List.mem_filter
def avail (ps : List α) (w : List α) (s : α) : List α := ps.filter (rgo ps w s)
def rw8 (ps : List α) (w : List α) : Nat := match w with
  | [] => 1
  | x :: u => wt (avail ps (x :: u) (startOf x u)).length
def rsum (ps : List α) (st : List (List α)) : Nat := (st.map (rw8 ps)).sum
theorem rsum_app (ps : List α) (a b : List (List α)) : rsum ps (a ++ b) = rsum ps a + rsum ps b := by simp [rsum]
theorem start_cons (t x : α) (u : List α) : startOf t (x :: u) = startOf x u := by simp [startOf]
theorem avail_cons {ps : List α} (hn : ps.Nodup) {w : List α} {s t : α} (ht : t ∈ avail ps w s) : (avail ps (t :: w) s).length + 1 = (avail ps w s).length := by
  obtain ⟨h1, h2⟩ := List.mem_filter.mp ht
  have e : avail ps (t :: w) s = (avail ps w s).filter fun q => decide (q ≠ t) := by
    unfold avail
    rw [List.filter_filter]
    refine List.filter_congr fun q _ => ?_
    unfold rgo
    by_cases hq : q = t
    · simp [hq]
    · simp [hq]
  rw [e]
  have hnd : (avail ps w s).Nodup := hn.sublist List.filter_sublist
  generalize avail ps w s = l at ht hnd
  clear e h1 h2
  induction l with
  | nil => cases ht
  | cons y l ih =>
    obtain ⟨h1, h2⟩ := List.nodup_cons.mp hnd
    rw [List.filter_cons]
    by_cases hy : y = t
    · subst hy
      have e2 : l.filter (fun q => decide (q ≠ y)) = l := List.filter_eq_self.mpr fun a ha => by
        have : a ≠ y := fun z => h1 (z ▸ ha)
        simp [this]
      have e3 : decide (y ≠ y) = false := by simp
      rw [e3]
      show (l.filter fun q => decide (q ≠ y)).length + 1 = l.length + 1
      rw [e2]
    · have ht' : t ∈ l := (List.mem_cons.mp ht).resolve_left fun z => hy z.symm
      have := ih ht' h2
      simp [hy] at this ⊢
      omega
theorem rgot_len {ps : List α} (hn : ps.Nodup) (rs : List (α × α)) (w : List α) (x s : α) : (rgot ps rs w x s).length ≤ 1 := by
  unfold rgot
  rw [List.length_map]
  have hnd : (nbrs ps rs x).Nodup := hn.sublist List.filter_sublist
  have h : ((nbrs ps rs x).filter (rclose ps w x s)).Nodup := hnd.sublist List.filter_sublist
  have hs : ∀ y ∈ (nbrs ps rs x).filter (rclose ps w x s), y = s := fun y hy => by
    have := (List.mem_filter.mp hy).2
    unfold rclose at this
    simp at this
    exact this.1
  have := List.Nodup.length_le_of_subset (l₂ := [s]) h fun y hy => List.mem_singleton.mpr (hs y hy)
  simpa using this
theorem rsum_exts {ps : List α} (hn : ps.Nodup) (x : α) (u : List α) : ∀ l : List α, (∀ t ∈ l, t ∈ avail ps (x :: u) (startOf x u)) → rsum ps ((l.map fun t => t :: x :: u).reverse) = l.length * wt ((avail ps (x :: u) (startOf x u)).length - 1)
  | [], _ => by simp [rsum]
  | t :: l, h => by
    have ih := rsum_exts hn x u l fun y hy => h y (List.mem_cons_of_mem _ hy)
    have ha := avail_cons hn (h t (List.mem_cons_self ..))
    have e : rw8 ps (t :: x :: u) = wt ((avail ps (x :: u) (startOf x u)).length - 1) := by
      show wt (avail ps (t :: x :: u) (startOf t (x :: u))).length = _
      rw [start_cons]
      congr 1
      omega
    rw [List.map_cons, List.reverse_cons, rsum_app, ih]
    show _ + rsum ps [t :: x :: u] = _
    simp only [rsum, List.map_cons, List.map_nil, List.sum_cons, List.sum_nil, e, List.length_cons, Nat.add_mul]
    omega
theorem rsum_step {ps : List α} (hn : ps.Nodup) (rs : List (α × α)) (x : α) (u : List α) (st : List (List α)) :
    rsum ps ((rexts ps rs (x :: u) x (startOf x u)).reverse ++ st) + 1 ≤ rsum ps ((x :: u) :: st) := by
  have hsub : (rheads ps rs (x :: u) x (startOf x u)).Sublist (avail ps (x :: u) (startOf x u)) := by
    unfold rheads avail nbrs
    exact List.filter_sublist.filter _
  have hl := hsub.length_le
  rw [rsum_app]
  unfold rexts
  rw [rsum_exts hn x u _ fun t ht => hsub.subset ht]
  have e : rsum ps ((x :: u) :: st) = wt (avail ps (x :: u) (startOf x u)).length + rsum ps st := by simp [rsum, rw8]
  rw [e]
  cases hd : (avail ps (x :: u) (startOf x u)).length with
  | zero =>
    rw [hd] at hl
    have h0 : (rheads ps rs (x :: u) x (startOf x u)).length = 0 := by omega
    rw [h0, Nat.zero_mul]
    have := wt_pos 0
    omega
  | succ d =>
    rw [hd] at hl
    have h4 : (rheads ps rs (x :: u) x (startOf x u)).length * wt d ≤ (d + 1) * wt d := Nat.mul_le_mul_right _ hl
    show _ * wt (d + 1 - 1) + _ + 1 ≤ 1 + (d + 1) * wt d + _
    rw [show d + 1 - 1 = d by omega]
    omega
/-- a way of the law's search -/
structure LWay (ps : List α) (rs : List (α × α)) (w : List α) : Prop where
  ne : w ≠ []
  nd : w.Nodup
  ch : chn (adj rs) w
  mem : ∀ y ∈ w, y ∈ ps
theorem LWay.ext {ps : List α} {rs : List (α × α)} {x t : α} {u : List α} (h : LWay ps rs (x :: u)) (ht : t ∈ rheads ps rs (x :: u) x (startOf x u)) : LWay ps rs (t :: x :: u) := by
  obtain ⟨h1, h2⟩ := List.mem_filter.mp ht
  obtain ⟨h3, h4⟩ := nbrs_mem.mp h1
  unfold rgo at h2
  simp at h2
  refine ⟨List.cons_ne_nil _ _, List.nodup_cons.mpr ⟨by simpa using h2.1, h.nd⟩, ⟨by rw [adj_comm]; exact h4, h.ch⟩, fun y hy => ?_⟩
  rcases List.mem_cons.mp hy with e | hy
  · rw [e]
    exact h3
  · exact h.mem y hy
theorem close_turned (d : List α) (s : α) : closeL (d ++ [s]).reverse = (s :: (d ++ [s])).reverse := by
  simp [closeL]
/-- what the search gives: enough turns, all of it, rings alone -/
theorem ringsGo_spec {ps : List α} {rs : List (α × α)} (W : Web ps rs) (most : Nat) : ∀ (n : Nat) (st got : List (List α)), (∀ w ∈ st, LWay ps rs w) → rsum ps st < n → got.length + rsum ps st < most → (∀ l ∈ got, IsRing rs l) →
    ∃ res, ringsGo ps rs most n st got = some res ∧ (∀ l ∈ got, l ∈ res) ∧ (∀ l ∈ res, IsRing rs l) ∧ res.length < most ∧
      ∀ x u, (x :: u) ∈ st → ∀ (t : List α) (y : α) (v : List α), t ++ x :: u = y :: v → (∀ q ∈ t, ps.idxOf (startOf x u) < ps.idxOf q) → LWay ps rs (y :: v) → adj rs y (startOf x u) = true → 2 < (y :: v).length → ps.idxOf ((y :: v).reverse.getD 1 y) < ps.idxOf y → (y :: v).reverse ∈ res
  | 0, _, _, _, h, _, _ => absurd h (Nat.not_lt_zero _)
  | n + 1, [], got, _, _, hm, hg => ⟨got, rfl, fun _ h => h, hg, by simpa [rsum] using hm, fun _ _ h => nomatch h⟩
  | n + 1, [] :: st, got, hw, _, _, _ => absurd rfl (hw [] (List.mem_cons_self ..)).ne
  | n + 1, (x :: u) :: st, got, hw, hl, hm, hg => by
    have hW := hw _ (List.mem_cons_self ..)
    have hs := rsum_step W.nd rs x u st
    have hgl := rgot_len W.nd rs (x :: u) x (startOf x u)
    have hgot : ∀ l ∈ got ++ rgot ps rs (x :: u) x (startOf x u), IsRing rs l := fun l hlm => by
      rcases List.mem_append.mp hlm with h | h
      · exact hg l h
      · obtain ⟨q, hq, e⟩ := List.mem_map.mp h
        obtain ⟨h1, h2⟩ := List.mem_filter.mp hq
        unfold rclose at h2
        simp at h2
        obtain ⟨e1, h3, h4⟩ := h2
        obtain ⟨_, h5⟩ := nbrs_mem.mp h1
        rw [e1] at h5
        rw [← e]
        -- the way turned about, closed
        have hs2 : (x :: u).dropLast ++ [startOf x u] = x :: u := List.dropLast_concat_getLast _
        refine ⟨?_, (List.reverse_perm _).nodup_iff.mpr hW.nd, by simp; omega⟩
        have ec : closeL (x :: u).reverse = (startOf x u :: x :: u).reverse := by
          have h6 := close_turned (x :: u).dropLast (startOf x u)
          rw [hs2] at h6
          exact h6
        rw [ec]
        refine chn_rev (fun a b => adj_comm rs a b) ⟨?_, hW.ch⟩
        rw [adj_comm]
        exact h5
    have hst : ∀ w ∈ (rexts ps rs (x :: u) x (startOf x u)).reverse ++ st, LWay ps rs w := fun w hwm => by
      rcases List.mem_append.mp hwm with h | h
      · obtain ⟨t, ht, e⟩ := List.mem_map.mp (List.mem_reverse.mp h)
        rw [← e]
        exact hW.ext ht
      · exact hw w (List.mem_cons_of_mem _ h)
    obtain ⟨res, r1, r2, r3, r4, r5⟩ := ringsGo_spec W most n _ _ hst (by omega) (by rw [List.length_append]; omega) hgot
    refine ⟨res, ?_, fun l h => r2 l (List.mem_append_left _ h), r3, r4, ?_⟩
    · unfold ringsGo
      rw [if_pos (by omega)]
      exact r1
    · intro x' u' hmem t y v e hidx hL hadj hlen hlt
      rcases List.mem_cons.mp hmem with q | hmem
      · cases q
        by_cases ht : t = []
        · subst ht
          cases e
          refine r2 _ (List.mem_append_right _ (List.mem_map.mpr ⟨startOf x u, List.mem_filter.mpr ⟨?_, ?_⟩, rfl⟩))
          · exact nbrs_mem.mpr ⟨(W.adjE hadj).2.1, hadj⟩
          · unfold rclose
            simp only [decide_true, Bool.true_and, Bool.and_eq_true, decide_eq_true_eq]
            exact ⟨hlen, hlt⟩
        · have hs2 : t.dropLast ++ [t.getLast ht] = t := List.dropLast_concat_getLast ht
          generalize t.getLast ht = q at hs2
          generalize t.dropLast = t' at hs2
          subst hs2
          have e1 : t' ++ q :: x :: u = y :: v := by rw [← e]; simp
          have hq : (q :: x :: u) ∈ (rexts ps rs (x :: u) x (startOf x u)).reverse ++ st := by
            refine List.mem_append_left _ (List.mem_reverse.mpr (List.mem_map.mpr ⟨q, List.mem_filter.mpr ⟨?_, ?_⟩, rfl⟩))
            · have h1 := hL.ch
              rw [← e1] at h1
              have h2 := (chn_suffix t' h1).1
              exact nbrs_mem.mpr ⟨hL.mem q (by rw [← e1]; simp), by rw [adj_comm]; exact h2⟩
            · have h1 := hL.nd
              rw [← e1] at h1
              have h2 := (List.nodup_cons.mp (List.nodup_append.mp h1).2.1).1
              have h3 := hidx q (by simp)
              unfold rgo
              simp only [Bool.and_eq_true, decide_eq_true_eq]
              exact ⟨h2, h3⟩
          refine r5 q (x :: u) hq t' y v e1 (fun z hz => ?_) hL ?_ hlen hlt
          · rw [start_cons]
            exact hidx z (List.mem_append_left _ hz)
          · rw [start_cons]
            exact hadj
      · exact r5 x' u' (List.mem_append_right _ hmem) t y v e hidx hL hadj hlen hlt
end
end Km
/-! Text KmMathE -/
/-! The law's rings hold every told ring; all orders; the class; what is asked. -/
namespace Km
section
variable {α : Type} [DecidableEq α]

/-! ### the law's rings -/
def wts : Nat → Nat
  | 0 => 0
  | n + 1 => wt n + wts n
theorem avail_one {pre post : List α} {p : α} (hn : (pre ++ p :: post).Nodup) : avail (pre ++ p :: post) [p] p = post := by
  obtain ⟨n1, n2, n3⟩ := List.nodup_append.mp hn
  obtain ⟨n4, n5⟩ := List.nodup_cons.mp n2
  have hp : p ∉ pre := fun z => n3 p z p (List.mem_cons_self ..) rfl
  have hb : ∀ q, decide ((pre ++ p :: post).idxOf p < (pre ++ p :: post).idxOf q) = bef (pre ++ p :: post) p q := fun _ => rfl
  unfold avail
  rw [List.filter_append, List.filter_cons]
  have e1 : pre.filter (rgo (pre ++ p :: post) [p] p) = [] := List.filter_eq_nil_iff.mpr fun q hq => by
    have h1 : bef (pre ++ p :: post) q p = true := (bef_split hp).mpr hq
    have h2 : (pre ++ p :: post).idxOf q < (pre ++ p :: post).idxOf p := of_decide_eq_true h1
    unfold rgo
    have h3 : ¬ (pre ++ p :: post).idxOf p < (pre ++ p :: post).idxOf q := by omega
    simp [h3]
  have e2 : rgo (pre ++ p :: post) [p] p p = false := by simp [rgo]
  have e3 : post.filter (rgo (pre ++ p :: post) [p] p) = post := List.filter_eq_self.mpr fun q hq => by
    have hqp : q ≠ p := fun z => n4 (z ▸ hq)
    have hqpre : q ∉ pre := fun z => n3 q z q (List.mem_cons_of_mem _ hq) rfl
    unfold rgo
    rw [hb, bef_pre hp hqpre, bef_cons, if_neg (Ne.symm hqp), if_pos rfl]
    simp [hqp]
  rw [e1, e2, e3]
  simp
theorem rsum_start {ps : List α} (hn : ps.Nodup) : ∀ (post pre : List α), ps = pre ++ post → rsum ps (post.map fun p => [p]) = wts post.length
  | [], _, _ => rfl
  | p :: post, pre, e => by
    have ih := rsum_start hn post (pre ++ [p]) (by rw [e]; simp)
    have h1 : rw8 ps [p] = wt post.length := by
      show wt (avail ps [p] p).length = _
      rw [e, avail_one (e ▸ hn)]
    have h2 : rsum ps ((p :: post).map fun p => [p]) = rw8 ps [p] + rsum ps (post.map fun p => [p]) := by simp [rsum]
    rw [h2, h1, ih]
    rfl
theorem rsum_rev (ps : List α) (l : List (List α)) : rsum ps l.reverse = rsum ps l := by
  unfold rsum
  rw [List.map_reverse, List.sum_reverse]
theorem wts_mono : ∀ {n m : Nat}, n ≤ m → wts n ≤ wts m
  | n, m, h => by
    induction h with
    | refl => exact Nat.le_refl _
    | @step m _ ih => exact Nat.le_trans ih (Nat.le_add_left _ _)
/-- the law's rings of a web of at most five places -/
structure LawRings (ps : List α) (rs : List (α × α)) (res : List (List α)) : Prop where
  ring : ∀ l ∈ res, IsRing rs l
  all : ∀ l, IsRing rs l → Canon ps l → (∀ y ∈ l, y ∈ ps) → l ∈ res
  few : res.length < 200
theorem rings_there {ps : List α} {rs : List (α × α)} (W : Web ps rs) (h5 : ps.length ≤ 5) : ∃ res, ringsGo ps rs 200 100 ((ps.map fun p => [p]).reverse) [] = some res ∧ LawRings ps rs res := by
  have hs : rsum ps ((ps.map fun p => [p]).reverse) ≤ 89 := by
    rw [rsum_rev, rsum_start W.nd ps [] rfl]
    exact Nat.le_trans (wts_mono h5) (by decide)
  obtain ⟨res, r1, _, r3, r4, r5⟩ := ringsGo_spec W 200 100 ((ps.map fun p => [p]).reverse) [] (fun w hw => by
    obtain ⟨p, hp, e⟩ := List.mem_map.mp (List.mem_reverse.mp hw)
    rw [← e]
    exact ⟨by simp, by simp, True.intro, fun y hy => by rw [List.mem_singleton.mp hy]; exact hp⟩) (by omega) (by simp; omega) (fun _ h => nomatch h)
  refine ⟨res, r1, r3, fun l hl hc hm => ?_, r4⟩
  obtain ⟨s, a, m, z, e, h1, h2⟩ := hc.ex
  -- turned about: z first, s last
  have er : l.reverse = z :: (m.reverse ++ [a, s]) := by rw [e]; simp
  have hsp : s ∈ ps := hm s (by rw [e]; simp)
  have hend : closeL l = (s :: a :: m) ++ z :: [s] := by rw [e]; simp [closeL]
  have hch := hl.chain
  rw [hend, chn_app] at hch
  have hadj : adj rs z s = true := hch.2.1
  have hchl : chn (adj rs) l := by
    have e2 : s :: a :: m ++ [z] = l := by rw [e]; rfl
    rw [← e2]
    exact hch.1
  have hL : LWay ps rs (z :: (m.reverse ++ [a, s])) := by
    rw [← er]
    exact ⟨by rw [er]; simp, (List.reverse_perm l).nodup_iff.mpr hl.nd, chn_rev (fun a b => adj_comm rs a b) hchl, fun y hy => hm y (List.mem_reverse.mp hy)⟩
  have := r5 s [] (List.mem_reverse.mpr (List.mem_map.mpr ⟨s, hsp, rfl⟩)) (z :: (m.reverse ++ [a])) z (m.reverse ++ [a, s]) (by simp) (fun q hq => h1 q (by
      simp at hq ⊢
      rcases hq with h | h | h
      · exact .inr (.inr h)
      · exact .inr (.inl h)
      · exact .inl h)) hL hadj (by simp) (by
      rw [← er, List.reverse_reverse, e]
      exact h2)
  rw [← er, List.reverse_reverse] at this
  exact this

/-! ### all orders -/
def ordsN : Nat → List α → List (List α)
  | 0, _ => [[]]
  | n + 1, l => (List.range l.length).flatMap fun i => match l[i]? with
    | some x => (ordsN n (l.eraseIdx i)).map fun r => x :: r
    | none => []
theorem erase_perm {l : List α} {i : Nat} {x : α} (h : l[i]? = some x) : (x :: l.eraseIdx i).Perm l := by
  obtain ⟨hi, e⟩ := List.getElem?_eq_some_iff.mp h
  have h1 : l = l.take i ++ x :: l.drop (i + 1) := by
    rw [← e, ← List.drop_eq_getElem_cons hi, List.take_append_drop]
  have h2 : l.eraseIdx i = l.take i ++ l.drop (i + 1) := List.eraseIdx_eq_take_drop_succ ..
  rw [h2]
  conv => rhs; rw [h1]
  exact (List.perm_middle).symm
theorem ordsN_mem : ∀ (n : Nat) (l : List α), l.length = n → ∀ o, o ∈ ordsN n l ↔ o.Perm l
  | 0, l, hl, o => by
    have e := List.eq_nil_of_length_eq_zero hl
    subst e
    simp [ordsN]
  | n + 1, l, hl, o => by
    unfold ordsN
    rw [List.mem_flatMap]
    constructor
    · rintro ⟨i, _, h⟩
      cases hx : l[i]? with
      | none =>
        rw [hx] at h
        cases h
      | some x =>
        rw [hx] at h
        obtain ⟨r, hr, e⟩ := List.mem_map.mp h
        have hlen : (l.eraseIdx i).length = n := by
          obtain ⟨hi, _⟩ := List.getElem?_eq_some_iff.mp hx
          rw [List.length_eraseIdx, if_pos hi]
          omega
        have := (ordsN_mem n (l.eraseIdx i) hlen r).mp hr
        rw [← e]
        exact (List.Perm.cons x this).trans (erase_perm hx)
    · intro h
      cases o with
      | nil =>
        have := h.length_eq
        simp at this
        omega
      | cons x r =>
        have hx : x ∈ l := h.mem_iff.mp (List.mem_cons_self ..)
        obtain ⟨i, hi⟩ := List.mem_iff_getElem?.mp hx
        obtain ⟨hil, _⟩ := List.getElem?_eq_some_iff.mp hi
        refine ⟨i, List.mem_range.mpr hil, ?_⟩
        rw [hi]
        have hlen : (l.eraseIdx i).length = n := by
          rw [List.length_eraseIdx, if_pos hil]
          omega
        refine List.mem_map.mpr ⟨r, (ordsN_mem n _ hlen r).mpr ?_, rfl⟩
        exact List.Perm.cons_inv (h.trans (erase_perm hi).symm)
theorem nodup_flat {β : Type} (f : β → List (List α)) (hn : ∀ i, (f i).Nodup) : ∀ (l : List β), (∀ i ∈ l, True) → l.Pairwise (fun i j => ∀ y, y ∈ f i → y ∉ f j) → (l.flatMap f).Nodup
  | [], _, _ => by simp
  | i :: l, _, h => by
    obtain ⟨h1, h2⟩ := List.pairwise_cons.mp h
    rw [List.flatMap_cons, List.nodup_append]
    refine ⟨hn i, nodup_flat f hn l (fun _ _ => trivial) h2, fun a ha b hb e => ?_⟩
    obtain ⟨j, hj, hbj⟩ := List.mem_flatMap.mp hb
    exact h1 j hj a ha (e ▸ hbj)
theorem nodup_map_cons (x : α) : ∀ {l : List (List α)}, l.Nodup → (l.map fun r => x :: r).Nodup
  | [], _ => by simp
  | a :: l, h => by
    obtain ⟨h1, h2⟩ := List.nodup_cons.mp h
    rw [List.map_cons]
    refine List.nodup_cons.mpr ⟨fun hm => ?_, nodup_map_cons x h2⟩
    obtain ⟨b, hb, e⟩ := List.mem_map.mp hm
    exact h1 ((List.cons.inj e).2 ▸ hb)
theorem ordsN_nodup : ∀ (n : Nat) (l : List α), l.Nodup → (ordsN n l).Nodup
  | 0, _, _ => by simp [ordsN]
  | n + 1, l, h => by
    unfold ordsN
    refine nodup_flat _ (fun i => ?_) _ (fun _ _ => trivial) ?_
    · cases hx : l[i]? with
      | none => simp
      | some x => exact nodup_map_cons x (ordsN_nodup n _ (h.sublist (List.eraseIdx_sublist ..)))
    · refine List.Pairwise.imp ?_ (List.pairwise_lt_range (n := l.length))
      intro i j hij y hy hy2
      cases hi : l[i]? with
      | none =>
        rw [hi] at hy
        cases hy
      | some a =>
        cases hj : l[j]? with
        | none =>
          rw [hj] at hy2
          cases hy2
        | some b =>
          rw [hi] at hy
          rw [hj] at hy2
          obtain ⟨r, _, e1⟩ := List.mem_map.mp hy
          obtain ⟨q, _, e2⟩ := List.mem_map.mp hy2
          rw [← e1] at e2
          have e3 : b = a := (List.cons.inj e2).1
          obtain ⟨h1, h2⟩ := List.getElem?_eq_some_iff.mp hi
          obtain ⟨h3, h4⟩ := List.getElem?_eq_some_iff.mp hj
          have : i = j := (List.getElem_inj h).mp (h2.trans (e3.symm.trans h4.symm))
          omega
def fct : Nat → Nat
  | 0 => 1
  | n + 1 => (n + 1) * fct n
theorem ordsN_len : ∀ (n : Nat) (l : List α), l.length = n → (ordsN n l).length = fct n
  | 0, _, _ => rfl
  | n + 1, l, hl => by
    unfold ordsN
    rw [List.length_flatMap]
    have key : ∀ k, k ≤ l.length → ((List.range k).map fun i => (match l[i]? with
      | some x => (ordsN n (l.eraseIdx i)).map fun r => x :: r
      | none => ([] : List (List α))).length).sum = k * fct n := by
      intro k
      induction k with
      | zero => intro _; simp
      | succ k ih =>
        intro hk
        rw [List.range_succ, List.map_append, List.sum_append, ih (by omega)]
        have hx : l[k]? = some (l[k]'(by omega)) := List.getElem?_eq_getElem (by omega)
        simp only [List.map_cons, List.map_nil, List.sum_cons, List.sum_nil, hx, List.length_map]
        rw [ordsN_len n (l.eraseIdx k) (by rw [List.length_eraseIdx, if_pos (by omega)]; omega), Nat.add_mul]
        omega
    rw [key l.length (Nat.le_refl _), hl]
    rfl
theorem fct_mono {n m : Nat} (h : n ≤ m) : fct n ≤ fct m := by
  induction h with
  | refl => exact Nat.le_refl _
  | @step m _ ih =>
    refine Nat.le_trans ih ?_
    show fct m ≤ (m + 1) * fct m
    have : 1 * fct m ≤ (m + 1) * fct m := Nat.mul_le_mul_right _ (by omega)
    omega

/-! ### the class -/
/-- what the search of the class has at its end -/
structure ClassOk (rs : List (α × α)) (o : List α) (got : List (List α)) : Prop where
  nd : got.Nodup
  start : o ∈ got
  reach : ∀ p ∈ got, ∃ ms, run rs o ms = some p
  closed : ∀ p ∈ got, ∀ m q, appMv rs p m = some q → q ∈ got
theorem ClassOk.run {rs : List (α × α)} {o : List α} {got : List (List α)} (C : ClassOk rs o got) : ∀ (ms : List Mv) (p q : List α), p ∈ got → run rs p ms = some q → q ∈ got
  | [], p, q, hp, h => by
    cases h
    exact hp
  | m :: ms, p, q, hp, h => by
    unfold Km.run at h
    cases e : appMv rs p m with
    | none =>
      rw [e] at h
      cases h
    | some p1 =>
      rw [e] at h
      exact C.run ms p1 q (C.closed p hp m p1 e) h
theorem ClassOk.iff {ps : List α} {rs : List (α × α)} (W : Web ps rs) {o : List α} (ho : o.Perm ps) {got : List (List α)} (C : ClassOk rs o got) {other : List α} (hp : other.Perm ps) : other ∈ got ↔ Pot rs (lead o other) := by
  rw [pot_iff_run W ho hp]
  exact ⟨C.reach other, fun ⟨ms, h⟩ => C.run ms o other C.start h⟩

/-! ### what is asked -/
section
variable {ps : List α} {rs : List (α × α)} (W : Web ps rs) {o other : List α} (ho : o.Perm ps) (hp : other.Perm ps)
include W ho hp
theorem lead_anti' (a b : α) : lead o other b a = - lead o other a b := lead_anti (fun x => by rw [ho.mem_iff, hp.mem_iff]) a b
theorem told_iff : (∀ l ∈ toldRings ps rs, stepsN o l = stepsN other l) ↔ Pot rs (lead o other) := by
  rw [pot_iff_told W (lead_anti' W ho hp)]
  exact ⟨fun h l hl => steps_eq.mp (h l hl), fun h l hl => steps_eq.mpr (h l hl)⟩
theorem law_iff {res : List (List α)} (R : LawRings ps rs res) : (∀ l ∈ res, stepsN o l = stepsN other l) ↔ Pot rs (lead o other) := by
  constructor
  · intro h
    rw [← told_iff W ho hp]
    intro l hl
    obtain ⟨h1, h2, h3⟩ := told_rings W rs [] (laid_start W) l hl
    exact h l (R.all l h1 h2 h3)
  · rintro ⟨f, hf⟩ l hl
    exact steps_eq.mpr (csum_pot hf (R.ring l hl).chain)
end
/-- of a web without rings there are all orders -/
theorem class_all {ps : List α} {rs : List (α × α)} (W : Web ps rs) {o : List α} (ho : o.Perm ps) {got res : List (List α)} (C : ClassOk rs o got) (R : LawRings ps rs res) (h0 : res = []) : got.length = (ordsN ps.length ps).length := by
  have h1 : ∀ p, p ∈ got ↔ p ∈ ordsN ps.length ps := fun p => by
    rw [ordsN_mem ps.length ps rfl]
    constructor
    · intro h
      obtain ⟨ms, hm⟩ := C.reach p h
      exact (run_perm hm).trans ho
    · intro h
      refine (C.iff W ho h).mpr ((law_iff W ho h R).mp ?_)
      rw [h0]
      exact fun _ h => nomatch h
  have h2 := List.Nodup.length_le_of_subset C.nd fun p hp => (h1 p).mp hp
  have h3 := List.Nodup.length_le_of_subset (ordsN_nodup ps.length ps W.nd) fun p hp => (h1 p).mpr hp
  omega
end
end Km
/-! Text KmTac -/
/-! One step of the small logic, by the reading's head. -/
namespace Km
open PySem PySem.Spec PyProof.Rows L2 LamX
section
variable {Tb : List (Addr × Str)} {te ta tb : TE} {t u : TT} {tr : L2.TA} {δ : List Sl} {ω : Om} {Φ : Sl → Om → Prop} {Θ : Bool → Om → Prop}
def isUn : Sl → Bool
  | .un => true
  | _ => false
theorem ex_v {i : Nat} {s : Sl} (hi : δ[i]? = some s) (hs : isUn s = false) (q : Φ s ω) : EX Tb (tVar i) δ ω Φ := ex_var hi q fun z => by
  subst z
  cases hs
theorem ux_neg {i : Int} (q : Φ (.dt (.int (-i))) ω) : UX Tb (rU fun i => .int (-i)) (.dt (.int i)) ω Φ := fun B H x Q S k1 k => ⟨i, k1.data.intv, k _ _ ω H q (TupEx.refl H) (slDt (.int _)) S⟩
/-- a test's outcome by an iff -/
theorem dec_of {b : Bool} {p : Prop} [Decidable p] (h : b = true ↔ p) : b = decide p := by
  cases b with
  | true => rw [decide_eq_true (h.mp rfl)]
  | false => rw [decide_eq_false fun z => nomatch h.mpr z]
end
/-- of a def's end -/
theorem kp_end {ω ω' : Om} {Φ : Sl → Om → Prop} {s : Sl} (k : Kp ω ω') (q : Φ s ω') : ∃ ω'', Kp ω ω'' ∧ Φ s ω'' := ⟨ω', k, q⟩
/-! ### the data -/
abbrev tS (l : List Str) : PyData := .tuple (l.map .str)
abbrev rdD (p : Str × Str) : PyData := .tuple [.str p.1, .str p.2]
abbrev webD (ps : List Str) (rs : List (Str × Str)) : PyData := .tuple [tS ps, .tuple (rs.map rdD)]
def few (n : Nat) : Prop := n ≤ 1000
theorem few_line {n : Nat} (h : n ≤ 1000000) : n ≤ sizeLine := by
  rw [sizeLine_eq]
  omega
theorem few_lt {n : Nat} (h : n ≤ 1000000) : n < sizeLine := by
  rw [sizeLine_eq]
  omega
theorem atI_nn {l : List PyData} {i : Nat} {d : PyData} (h : l[i]? = some d) : atI l (i : Int) = some d := atI_nat h
theorem atI_neg1 {l : List PyData} {d : PyData} (h : l.getLast? = some d) : atI l (-1) = some d := by
  obtain ⟨ys, e⟩ := List.getLast?_eq_some_iff.mp h
  rw [e]
  exact atI_last ys d
end Km
namespace Km
open PySem PySem.Spec PyProof.Rows L2 LamX
section
variable {Tb : List (Addr × Str)} {ω : Om} {Φ : Sl → Om → Prop} {α : Type}
theorem atI_map (f : α → PyData) (l : List α) (i : Int) : atI (l.map f) i = (atI l i).map f := by
  unfold atI
  rw [List.length_map]
  cases ixN l.length i with
  | none => rfl
  | some j => simp
theorem ox_ixM (K : PySem.W.Frag) {f : α → PyData} {l : List α} {i : Int} {z : α} (h : atI l i = some z) (q : Φ (.dt (f z)) ω) : OX Tb (rIxT K) (.dt (.tuple (l.map f))) (.dt (.int i)) ω Φ :=
  ox_ixT K (by rw [atI_map, h]; rfl) q
theorem atI_n {l : List α} {j : Nat} {z : α} (h : l[j]? = some z) : atI l (j : Int) = some z := atI_nat h
theorem atI_s {l : List α} {j : Nat} {z : α} (h : l[j + 1]? = some z) : atI l ((j : Int) + 1) = some z := atI_nat (j := j + 1) h
theorem atI_e {l : List α} {z : α} (h : l.getLast? = some z) : atI l (-1) = some z := by
  obtain ⟨ys, e⟩ := List.getLast?_eq_some_iff.mp h
  rw [e]
  exact atI_last ys z
theorem cut_to (f : α → PyData) (l : List α) (k : Nat) : cutD (l.map f) none (some (k : Int)) = (l.take k).map f := by rw [cutD_to, List.map_take]
theorem cut_from (f : α → PyData) (l : List α) (k : Nat) : cutD (l.map f) (some (k : Int)) none = (l.drop k).map f := by rw [cutD_from, List.map_drop]
theorem cut_fromS (f : α → PyData) (l : List α) (k j : Nat) : cutD (l.map f) (some ((k : Int) + (j : Int))) none = (l.drop (k + j)).map f := by
  rw [show (k : Int) + (j : Int) = ((k + j : Nat) : Int) from rfl]
  exact cut_from f l (k + j)
/-- two tuples of one kind, added -/
theorem ox_catM (K : PySem.W.Frag) {f : α → PyData} {l m : List α} (hz : l.length + m.length ≤ 1000000) (q : Φ (.dt (.tuple ((l ++ m).map f))) ω) : OX Tb (rCatF K) (.dt (.tuple (l.map f))) (.dt (.tuple (m.map f))) ω Φ :=
  ox_cat K (by rw [List.length_map, List.length_map]; exact few_line hz) (by rw [← List.map_append]; exact q)
end
/-- texts that the model may lay -/
def Lawful (l : List Str) : Prop := ∀ z ∈ l, PyData.strOk z = true
theorem okd_tS {l : List Str} (h : Lawful l) : okd 1 (tS l) = true := okd_tup fun x hx => by
  obtain ⟨z, hz, rfl⟩ := List.mem_map.mp hx
  simpa [okd] using h z hz
theorem okd_rd {p : Str × Str} (h1 : PyData.strOk p.1 = true) (h2 : PyData.strOk p.2 = true) : okd 1 (rdD p) = true := okd_tup fun x hx => by
  simp only [List.mem_cons, List.not_mem_nil, or_false] at hx
  rcases hx with rfl | rfl
  · simpa [okd] using h1
  · simpa [okd] using h2
def LawfulR (rs : List (Str × Str)) : Prop := ∀ p ∈ rs, PyData.strOk p.1 = true ∧ PyData.strOk p.2 = true
theorem okd_rds {rs : List (Str × Str)} (h : LawfulR rs) : okd 2 (.tuple (rs.map rdD)) = true := okd_tup fun x hx => by
  obtain ⟨p, hp, rfl⟩ := List.mem_map.mp hx
  exact okd_rd (h p hp).1 (h p hp).2
theorem mem_tS {z : Str} {l : List Str} : PyData.str z ∈ l.map PyData.str ↔ z ∈ l := by
  rw [List.mem_map]
  constructor
  · rintro ⟨y, hy, e⟩
    cases e
    exact hy
  · exact fun h => ⟨z, h, rfl⟩
theorem mem_rds {a b : Str} {rs : List (Str × Str)} : PyData.tuple [.str a, .str b] ∈ rs.map rdD ↔ (a, b) ∈ rs := by
  rw [List.mem_map]
  constructor
  · rintro ⟨⟨c, d⟩, hy, e⟩
    cases e
    exact hy
  · exact fun h => ⟨(a, b), h, rfl⟩
theorem tS_inj {l m : List Str} : tS l = tS m ↔ l = m := by
  constructor
  · intro h
    have e : l.map PyData.str = m.map PyData.str := PyData.tuple.inj h
    exact (List.map_inj_right (fun a b z => PyData.str.inj z)).mp e
  · exact fun h => by rw [h]
theorem hv_of {A : Around} {k : Nat} (hr : Room (k + 1) A) : A.units + 65 < cLine := by
  have h := hr.in1.units
  have e : A.in1.units = A.units + 1 := rfl
  omega
theorem nb_dt {d : PyData} {A : Prop} (h : A) : (∀ o, Sl.dt d ≠ .bo o) ∧ A := ⟨(fun _ z => nomatch z), h⟩
theorem nb_pt {a : Addr} {A : Prop} (h : A) : (∀ o, Sl.pt a ≠ .bo o) ∧ A := ⟨(fun _ z => nomatch z), h⟩
theorem tup0 {X : List PyData → Prop} (h : X []) : ∃ ds : List PyData, [] = ds.map Sl.dt ∧ ds.length ≤ sizeLine ∧ X ds := ⟨[], rfl, few_line (by decide), h⟩
theorem tup1 {a : PyData} {X : List PyData → Prop} (h : X [a]) : ∃ ds : List PyData, [Sl.dt a] = ds.map Sl.dt ∧ ds.length ≤ sizeLine ∧ X ds := ⟨[a], rfl, few_line (by show 1 ≤ 1000000; decide), h⟩
theorem tup2 {a b : PyData} {X : List PyData → Prop} (h : X [a, b]) : ∃ ds : List PyData, [Sl.dt a, Sl.dt b] = ds.map Sl.dt ∧ ds.length ≤ sizeLine ∧ X ds := ⟨[a, b], rfl, few_line (by show 2 ≤ 1000000; decide), h⟩
theorem tup3 {a b c : PyData} {X : List PyData → Prop} (h : X [a, b, c]) : ∃ ds : List PyData, [Sl.dt a, Sl.dt b, Sl.dt c] = ds.map Sl.dt ∧ ds.length ≤ sizeLine ∧ X ds := ⟨[a, b, c], rfl, few_line (by show 3 ≤ 1000000; decide), h⟩
theorem arg1 {a : PyData} {X : List PyData → Prop} (h : X [a]) : ∃ ds : List PyData, [Sl.dt a] = ds.map Sl.dt ∧ ds.length = 1 ∧ X ds := ⟨[a], rfl, rfl, h⟩
theorem arg2 {a b : PyData} {X : List PyData → Prop} (h : X [a, b]) : ∃ ds : List PyData, [Sl.dt a, Sl.dt b] = ds.map Sl.dt ∧ ds.length = 2 ∧ X ds := ⟨[a, b], rfl, rfl, h⟩
theorem arg3 {a b c : PyData} {X : List PyData → Prop} (h : X [a, b, c]) : ∃ ds : List PyData, [Sl.dt a, Sl.dt b, Sl.dt c] = ds.map Sl.dt ∧ ds.length = 3 ∧ X ds := ⟨[a, b, c], rfl, rfl, h⟩
theorem arg4 {a b c d : PyData} {X : List PyData → Prop} (h : X [a, b, c, d]) : ∃ ds : List PyData, [Sl.dt a, Sl.dt b, Sl.dt c, Sl.dt d] = ds.map Sl.dt ∧ ds.length = 4 ∧ X ds := ⟨[a, b, c, d], rfl, rfl, h⟩
theorem one_bool {b : Bool} {X : Bool → Prop} (h : X b) : ∃ c : Bool, Sl.dt (.bool b) = Sl.dt (.bool c) ∧ X c := ⟨b, rfl, h⟩
theorem okd_s {z : Str} (n : Nat) (h : PyData.strOk z = true) : okd n (.str z) = true := by cases n <;> simpa [okd] using h
theorem okd_i {i : Int} (n : Nat) : okd n (.int i) = true := by cases n <;> simp [okd]
theorem okd_n (n : Nat) : okd n .none = true := by cases n <;> simp [okd]
theorem rd_in {a b : Str} {rs : List (Str × Str)} : PyData.tuple [.str a, .str b] = rdD (a, b) := rfl
/-! ### comprehensions over data of one kind -/
section
variable {Tb : List (Addr × Str)} {ω : Om} {δ : List Sl} {Φ : Sl → Om → Prop} {α β : Type} {wi : TI} {gg : TG} {te : TE} {tt : TT} {vs : List Nat}
theorem ex_lcM (Dr : DrT) (f : α → PyData) (inj : ∀ a b, f a = f b → a = b) (g : β → PyData) (l : List α) (h : α → Option β) (H : IX Dr Tb wi δ ω fun ds C ω1 => ds = l.map f ∧ l.length ≤ 1000000 ∧ (∀ p, C (p :: ω1)) ∧
      (∀ z ∈ l, ∃ js δ2, GX Dr gg (f z) js (wipeS δ vs) δ2 ∧ (∀ j ∈ js, j ∈ vs) ∧ ∀ D acc, ET Tb tt δ2 ((D, .ls acc) :: ω1) fun b ω2 => if b = true then EX Tb te δ2 ω2 fun s ω3 => ∃ e, s = .dt (g e) ∧ h z = some e ∧ Kp ω3 ((D, .ls acc) :: ω1) else h z = none ∧ Kp ω2 ((D, .ls acc) :: ω1)) ∧
      ∀ p, Φ (.pt p) ((p, .ls ((l.filterMap h).map g)) :: ω1)) : EX Tb (tLc wi gg tt te vs) δ ω Φ := by
  classical
  let F : PyData → Option PyData := fun d => if e : ∃ z, f z = d then (h e.choose).map g else none
  have hF : ∀ z, F (f z) = (h z).map g := fun z => by
    have e : ∃ y, f y = f z := ⟨z, rfl⟩
    show (if e : ∃ y, f y = f z then (h e.choose).map g else none) = _
    rw [dif_pos e, inj _ _ e.choose_spec]
  have hm : ∀ l : List α, (l.map f).filterMap F = (l.filterMap h).map g := by
    intro l
    induction l with
    | nil => rfl
    | cons z l ih =>
      rw [List.map_cons, List.filterMap_cons, hF, List.filterMap_cons]
      cases h z with
      | none => exact ih
      | some y => simp [ih]
  refine ex_lc Dr F fun B σ Hh R S k => H B σ Hh R S fun J ds C ω1 H1 q => k J ds C ω1 H1 ?_
  obtain ⟨rfl, q1, q2, q3, q4⟩ := q
  refine ⟨by rw [List.length_map]; exact few_line q1, q2, fun d hd => ?_, fun p => by rw [hm]; exact q4 p⟩
  obtain ⟨z, hz, rfl⟩ := List.mem_map.mp hd
  obtain ⟨js, δ2, r1, r2, r3⟩ := q3 z hz
  refine ⟨js, δ2, r1, r2, fun D acc => (r3 D acc).imp fun b ω2 r => ?_⟩
  cases b with
  | true =>
    rw [if_pos rfl] at r ⊢
    refine r.imp fun s ω3 r => ?_
    obtain ⟨e, r1, r2, r3⟩ := r
    exact ⟨g e, r1, by rw [hF, r2]; rfl, r3⟩
  | false => exact ⟨by rw [hF, r.1]; rfl, r.2⟩
theorem lc_name {j : Nat} {d : PyData} {X : List Sl → Prop} (hj : j ∈ vs) (h : X (δ.set j (.dt d))) : ∃ js δ2, GX T (gName j) d js δ δ2 ∧ (∀ i ∈ js, i ∈ vs) ∧ X δ2 :=
  ⟨_, _, gx_name, fun i hi => by rw [List.mem_singleton.mp hi]; exact hj, h⟩
theorem lc_pair {K : PySem.W.Frag} {i j : Nat} {d1 d2 : PyData} {X : List Sl → Prop} (hi : i ∈ vs) (hj : j ∈ vs) (h : X ((δ.set i (.dt d1)).set j (.dt d2))) : ∃ js δ2, GX T (gTup K 2 (gCons (gName i) (gCons (gName j) gNil))) (.tuple [d1, d2]) js δ δ2 ∧ (∀ i ∈ js, i ∈ vs) ∧ X δ2 :=
  ⟨_, _, gx_pair, fun k hk => by
    simp only [List.mem_cons, List.not_mem_nil, or_false] at hk
    rcases hk with rfl | rfl
    · exact hi
    · exact hj, h⟩
theorem lc_new {K : PySem.W.Frag} {i j : Nat} {d1 d2 : PyData} {X : List Sl → Prop} (hi : i ∈ vs) (hj : j ∈ vs) (h : X ((δ.set i (.dt d1)).set j (.dt d2))) : ∃ js δ2, GX TP (gTup K 2 (gCons (gName i) (gCons (gName j) gNil))) (.tuple [d1, d2]) js δ δ2 ∧ (∀ i ∈ js, i ∈ vs) ∧ X δ2 :=
  ⟨_, _, gx_new, fun k hk => by
    simp only [List.mem_cons, List.not_mem_nil, or_false] at hk
    rcases hk with rfl | rfl
    · exact hi
    · exact hj, h⟩
theorem for_name {j : Nat} {d : PyData} {X : List Sl → Prop} (h : X (δ.set j (.dt d))) : ∃ js δ2, GX T (gName j) d js δ δ2 ∧ X δ2 := ⟨_, _, gx_name, h⟩
theorem for_pair {K : PySem.W.Frag} {i j : Nat} {d1 d2 : PyData} {X : List Sl → Prop} (h : X ((δ.set i (.dt d1)).set j (.dt d2))) : ∃ js δ2, GX T (gTup K 2 (gCons (gName i) (gCons (gName j) gNil))) (.tuple [d1, d2]) js δ δ2 ∧ X δ2 := ⟨_, _, gx_pair, h⟩
theorem for_new {K : PySem.W.Frag} {i j : Nat} {d1 d2 : PyData} {X : List Sl → Prop} (h : X ((δ.set i (.dt d1)).set j (.dt d2))) : ∃ js δ2, GX TP (gTup K 2 (gCons (gName i) (gCons (gName j) gNil))) (.tuple [d1, d2]) js δ δ2 ∧ X δ2 := ⟨_, _, gx_new, h⟩
theorem isLs_hd {p : Addr} {ds : List PyData} : IsLs ((p, .ls ds) :: ω) (.pt p) ds := .inl ⟨p, rfl, List.mem_cons_self ..⟩
theorem isLs_tl {q : Addr × Ob} {s : Sl} {ds : List PyData} (h : IsLs ω s ds) : IsLs (q :: ω) s ds := by
  rcases h with ⟨a, e, m⟩ | e
  · exact .inl ⟨a, e, List.mem_cons_of_mem _ m⟩
  · exact .inr e
theorem isLs_bo {ds : List PyData} : IsLs ω (.bo (.ls ds)) ds := .inr rfl
end
theorem str_inj : ∀ a b : Str, PyData.str a = PyData.str b → a = b := fun _ _ h => PyData.str.inj h
theorem tS_inj' : ∀ a b : List Str, tS a = tS b → a = b := fun _ _ h => tS_inj.mp h
theorem rd_inj : ∀ a b : Str × Str, rdD a = rdD b → a = b := fun ⟨a, b⟩ ⟨c, d⟩ h => by
  cases h
  rfl
/-- a web as the law draws it -/
structure WebV (ps : List Str) (rs : List (Str × Str)) : Prop where
  web : Web ps rs
  p5 : ps.length ≤ 5
  p1 : 1 ≤ ps.length
  r10 : rs.length ≤ 14
  law : Lawful ps
theorem WebV.lr {ps : List Str} {rs : List (Str × Str)} (W : WebV ps rs) : LawfulR rs := fun p hp => ⟨W.law _ (W.web.ends p hp).1, W.law _ (W.web.ends p hp).2.1⟩
theorem WebV.okd {ps : List Str} {rs : List (Str × Str)} (W : WebV ps rs) {o : List Str} (h : ∀ y ∈ o, y ∈ ps) : Lawful o := fun z hz => W.law z (h z hz)
/-! ### the feed that the law draws from -/
def FeedN (m : Nat) (a b c : Int) : Prop := 0 ≤ a ∧ 0 ≤ b ∧ b < 2 ^ 140 ∧ 0 ≤ c ∧ c ≤ m
def Feed (m : Nat) (o : Ob) : Prop := ∃ a b c : Int, o = .ls [.int a, .int b, .int c] ∧ FeedN m a b c
theorem Feed.mono {m n : Nat} {o : Ob} (h : Feed m o) (hn : m ≤ n) : Feed n o := by
  obtain ⟨a, b, c, e, h1, h2, h3, h4, h5⟩ := h
  exact ⟨a, b, c, e, h1, h2, h3, h4, by omega⟩
abbrev feedR (Pm : Nat → List Sl → (Nat → Sl → Om → Prop) → Prop) : Prm := fun δ ω Φ => ∃ f o m δr, δ = .pt f :: δr ∧ ω = [(f, o)] ∧ Feed m o ∧ Pm m δr fun m' s ωn => ∀ o', Feed m' o' → Φ s ((f, o') :: ωn)
theorem ex_goF {Tb : List (Addr × Str)} {t : L2.TA} {δ : List Sl} {ω : Om} {Φ : Sl → Om → Prop} {n : Nat} {Pm : Nat → List Sl → (Nat → Sl → Om → Prop) → Prop} (h : EA Tb t δ ω fun ss ω1 => ∃ f o m pre post ssr δr, ss = .pt f :: ssr ∧ ω1 = pre ++ (f, o) :: post ∧ ss.length = n ∧ Feed m o ∧ Conv (pre ++ post) ssr δr ∧
    Pm m δr fun m' s ωn => ∀ o', Feed m' o' → Φ s ((f, o') :: (ωn ++ (pre ++ post)))) : EX Tb (tGo Tb n (feedR Pm) t) δ ω Φ := ex_go fun B σ H Q S k => h B σ H Q S fun vs ss ω1 H1 q e kk p => by
  obtain ⟨f, o, m, pre, post, ssr, δr, rfl, rfl, hn, hf, hc, hp⟩ := q
  have pm : ([(f, o)] ++ (pre ++ post)).Perm (pre ++ (f, o) :: post) := by
    show ((f, o) :: (pre ++ post)).Perm (pre ++ (f, o) :: post)
    exact List.perm_middle.symm
  exact k vs _ _ H1 ⟨hn, [(f, o)], pre ++ post, .pt f :: δr, fun s ω' => Φ s (ω' ++ (pre ++ post)), pm, .pt hc, ⟨f, o, m, δr, rfl, rfl, hf, hp⟩, fun s ω' _ z => z⟩ e kk p
theorem Kp.perm {ω ω' : Om} (h : ω'.Perm ω) : Kp ω ω' := ⟨ω', List.Sublist.refl _, h⟩
theorem rot3 {x y z : Addr × Ob} : Kp [x, y, z] [z, x, y] := .perm (List.perm_append_comm (l₁ := [z]) (l₂ := [x, y]))
theorem toNat_len {α : Type} (l : List α) : ((l.length : Nat) : Int).toNat = l.length := Int.toNat_natCast _
theorem perm_of_map {α β : Type} {f : α → β} {m k : List β} (h : m.Perm k) : ∀ {l : List α}, k = l.map f → ∃ l' : List α, l'.Perm l ∧ m = l'.map f := by
  induction h with
  | nil =>
    intro l e
    exact ⟨l, .refl _, e⟩
  | cons x _ ih =>
    intro l e
    cases l with
    | nil => cases e
    | cons z l =>
      rw [List.map_cons] at e
      obtain ⟨e1, e2⟩ := List.cons.inj e
      obtain ⟨l', p, q⟩ := ih e2
      exact ⟨z :: l', p.cons z, by rw [List.map_cons, e1, q]⟩
  | swap x y r =>
    intro l e
    match l, e with
    | a :: b :: l, e =>
      rw [List.map_cons, List.map_cons] at e
      obtain ⟨e1, e2⟩ := List.cons.inj e
      obtain ⟨e3, e4⟩ := List.cons.inj e2
      exact ⟨b :: a :: l, .swap _ _ _, by rw [List.map_cons, List.map_cons, e1, e3, e4]⟩
  | trans _ _ ih1 ih2 =>
    intro l e
    obtain ⟨l2, p2, q2⟩ := ih2 e
    obtain ⟨l1, p1, q1⟩ := ih1 q2
    exact ⟨l1, p1.trans p2, q1⟩
end Km
/-! Text KmF1 -/
namespace Km
open PySem PySem.Spec PyProof.Rows L2 LamX
local macro_rules
  | `(tactic| walk_at "km1") => `(tactic| first
    | ((with_reducible apply ex_v); (focus rfl); (focus rfl))
    | with_reducible refine ex_int ?_
    | with_reducible refine ex_str ?_
    | with_reducible refine ex_bl ?_
    | with_reducible refine ex_non ?_
    | with_reducible refine ex_op ?_
    | with_reducible refine ex_un ?_
    | with_reducible refine ux_neg ?_
    | with_reducible refine ox_i0I ?_
    | with_reducible refine ox_i0B ?_
    | with_reducible refine ex_tup ?_
    | with_reducible refine ex_lst ?_
    | with_reducible refine ex_slT _ ?_
    | with_reducible refine ex_slL _ ?_
    | with_reducible refine px_none ?_
    | with_reducible refine px_some ?_
    | with_reducible refine ea_nil ?_
    | with_reducible refine ea_cons ?_
    | with_reducible refine ex_isi _ ?_
    | with_reducible refine ex_cb ?_
    | with_reducible refine ex_isN ?_
    | with_reducible refine ex_notN ?_
    | with_reducible refine ex_chain ?_
    | with_reducible refine ex_if ?_
    | with_reducible refine ex_and ?_
    | with_reducible refine ex_or ?_
    | with_reducible refine ex_not ?_
    | with_reducible refine ex_tix _ ?_
    | with_reducible refine ex_goD ?_
    | with_reducible refine ex_goN ?_
    | with_reducible refine ex_goF ?_
    | with_reducible refine ex_dget ?_
    | with_reducible refine ex_din ?_
    | with_reducible refine ex_dnotin ?_
    | with_reducible refine ex_dnew ?_
    | with_reducible refine et_test ?_
    | with_reducible refine et_val ?_
    | with_reducible refine et_and ?_
    | with_reducible refine et_or ?_
    | with_reducible refine et_not ?_
    | with_reducible refine et_yes ?_
    | with_reducible refine rr_seq ?_
    | with_reducible refine rr_asg ?_
    | with_reducible refine rr_ret ?_
    | with_reducible refine rr_retN ?_
    | with_reducible refine rr_drop ?_
    | with_reducible refine rr_if ?_
    | with_reducible refine rr_par ?_
    | with_reducible refine rr_next ?_
    | with_reducible refine rr_break ?_
    | with_reducible refine ix_tup _ ?_
    | with_reducible refine ix_range1 ?_
    | with_reducible refine ix_range2 ?_
    | with_reducible refine ix_down ?_
    | with_reducible refine ix_str ?_
    | with_reducible refine ix_keys ?_
    | with_reducible refine nb_dt ?_
    | with_reducible refine nb_pt ?_
    | with_reducible refine lc_name (by simp) ?_
    | with_reducible refine lc_pair (by simp) (by simp) ?_
    | with_reducible refine lc_new (by simp) (by simp) ?_
    | with_reducible refine for_name ?_
    | with_reducible refine for_pair ?_
    | with_reducible refine for_new ?_
    | with_reducible refine tup0 ?_
    | with_reducible refine tup1 ?_
    | with_reducible refine tup2 ?_
    | with_reducible refine tup3 ?_
    | with_reducible refine arg1 ?_
    | with_reducible refine arg2 ?_
    | with_reducible refine arg3 ?_
    | with_reducible refine arg4 ?_
    | with_reducible refine ⟨_, rfl, ?_⟩
    | with_reducible refine ⟨_, _, rfl, ?_⟩)
local macro_rules
  | `(tactic| walk_at "kms") => `(tactic| try simp (maxSteps := 2000) only [wipeS, List.map_cons, List.map_nil, List.set_cons_zero, List.set_cons_succ, Bool.false_eq_true, Bool.not_true, Bool.not_false, reduceIte])
local macro_rules
  | `(tactic| walk_at "km") => `(tactic| repeat (walk_at "km1"; walk_at "kms"))
local macro_rules
  | `(tactic| walk_at "kp") => `(tactic| repeat (first | exact Kp.refl _ | refine Kp.cons2 ?_ | refine Kp.cons ?_))
local macro_rules
  | `(tactic| walk_at "ls") => `(tactic| repeat (first | exact isLs_hd | exact isLs_bo | refine isLs_tl ?_))

variable {Tb : List (Addr × Str)} {P : Program} {w : World} {K : PySem.W.Frag} {mg : Str → Option Value} {base : Heap} {C : Addr}
/-! exchanged(order, index) -/
abbrev R_exchanged : Prm := pureR fun ds k => ∃ u a b v, ds = [tS (u ++ a :: b :: v), .int (u.length : Nat)] ∧ few (u.length + v.length) ∧ k (tS (u ++ b :: a :: v))
theorem ok_exchanged (G : Glob Tb base K mg C) : OkF Tb P w K mg base 1 "exchanged" ["order", "index"] R_exchanged := by
  refine okF_of 0 G.d_exchanged sc_exchanged (fun F => F.bindsN fun _ _ _ _ _ _ us hl => match us, hl with | [_, _], _ => rfl) (fun f cdv A outer s H E hr => ?_)
  have sc := sc_exchanged
  refine ⟨_, (pss_one (ps_ret (pe_op op_catF (pe_op op_catF (pe_slice sl_tupF (pv 0) po_none (po_some (pv 1))) (pe_tupF (pa_cons (pe_ix L2.ix_tup (pv 0) (pe_op op_add (pv 1) pe_int) (fun _ _ => rfl)) (pa_cons (pe_ix L2.ix_tup (pv 0) (pv 1) (fun _ _ => rfl)) pa_nil)))) (pe_slice sl_tupF (pv 0) (po_some (pe_op op_add (pv 1) pe_int)) po_none)))), ?_⟩
  rintro δ ω Φ ⟨rfl, ds, rfl, u, a, b, v, rfl, hf, q⟩
  show RR Tb _ [.dt (tS (u ++ a :: b :: v)), .dt (.int (u.length : Nat))] [] _
  unfold few at hf
  walk_at "km"
  refine ox_ixM _ (z := b) (atI_s (by simp)) ?_
  walk_at "km"
  refine ox_ixM _ (z := a) (atI_n (by simp)) ?_
  walk_at "km"
  rw [cut_to]
  refine ox_catM _ (m := [b, a]) (by simp; omega) ?_
  walk_at "km"
  rw [show (2 : Int) = ((2 : Nat) : Int) from rfl, cut_fromS]
  refine ox_catM _ (by simp; omega) ?_
  refine ⟨(fun _ z => nomatch z), kp_end (Kp.refl _) ?_⟩
  have e : List.take u.length (u ++ a :: b :: v) ++ [b, a] ++ List.drop (u.length + 2) (u ++ a :: b :: v) = u ++ b :: a :: v := by
    rw [List.take_left, show u ++ a :: b :: v = (u ++ [a, b]) ++ v by simp, show u.length + 2 = (u ++ [a, b]).length by simp, List.drop_left]
    simp
  rw [e]
  exact q
/-! turned(order) -/
abbrev R_turned : Prm := pureR fun ds k => ∃ o : List Str, ds = [tS o] ∧ few o.length ∧ k (tS (turned o))
theorem ok_turned (G : Glob Tb base K mg C) : OkF Tb P w K mg base 1 "turned" ["order"] R_turned := by
  refine okF_of 0 G.d_turned sc_turned (fun F => F.bindsN fun _ _ _ _ _ _ us hl => match us, hl with | [_], _ => rfl) (fun f cdv A outer s H E hr => ?_)
  have sc := sc_turned
  refine ⟨_, (pss_one (ps_ret (pe_op op_catF (pe_slice sl_tupF (pv 0) (po_some pe_int) po_none) (pe_slice sl_tupF (pv 0) po_none (po_some pe_int))))), ?_⟩
  rintro δ ω Φ ⟨rfl, ds, rfl, o, rfl, hf, q⟩
  show RR Tb _ [.dt (tS o)] [] _
  unfold few at hf
  walk_at "km"
  rw [show (1 : Int) = ((1 : Nat) : Int) from rfl, cut_from, cut_to]
  refine ox_catM _ (by simp; omega) ?_
  exact ⟨(fun _ z => nomatch z), kp_end (Kp.refl _) q⟩
/-! are_apart, have_road -/
abbrev R_are_apart : Prm := pureR fun ds k => ∃ ps rs a b, ds = [webD ps rs, .str a, .str b] ∧ LawfulR rs ∧ PyData.strOk a = true ∧ PyData.strOk b = true ∧ k (.bool (!adj rs a b))
theorem ok_are_apart (G : Glob Tb base K mg C) : OkF Tb P w K mg base 2 "are_apart" ["web", "one", "other"] R_are_apart := by
  refine okF_of 1 G.d_are_apart sc_are_apart (fun F => F.bindsN fun _ _ _ _ _ _ us hl => match us, hl with | [_, _, _], _ => rfl) (fun f cdv A outer s H E hr => ?_)
  have sc := sc_are_apart
  have hv := hv_of hr
  refine ⟨_, (pss_one (ps_ret (pe_and (pe_cmpR (op_notInTp hv) (pe_tupF (pa_cons (pv 1) (pa_cons (pv 2) pa_nil))) (pe_ix L2.ix_tup (pv 0) pe_int (fun _ _ => rfl)) (by rfl)) (pe_one (pe_cmpR (op_notInTp hv) (pe_tupF (pa_cons (pv 2) (pa_cons (pv 1) pa_nil))) (pe_ix L2.ix_tup (pv 0) pe_int (fun _ _ => rfl)) (by rfl)))))), ?_⟩
  rintro δ ω Φ ⟨rfl, ds, rfl, ps, rs, a, b, rfl, hl, ha, hb, q⟩
  show RR Tb _ [.dt (webD ps rs), .dt (.str a), .dt (.str b)] [] _
  walk_at "km"
  refine ox_ixT _ (atI_n (j := 1) rfl) ?_
  refine ox_notin _ 2 (okd_le (by decide) (okd_rd (p := (a, b)) ha hb)) (okd_rds hl) (by decide) fun b1 h1 => ?_
  refine one_bool ?_
  rw [mem_rds] at h1
  cases b1 with
  | true =>
    have e : adj rs a b = true := adj_iff.mpr (.inl (h1.mp rfl))
    rw [e] at q
    exact ⟨(fun _ z => nomatch z), kp_end (Kp.refl _) q⟩
  | false =>
    walk_at "kms"
    try simp only [Bool.not_false, reduceIte]
    walk_at "km"
    refine ox_ixT _ (atI_n (j := 1) rfl) ?_
    refine ox_notin _ 2 (okd_le (by decide) (okd_rd (p := (b, a)) hb ha)) (okd_rds hl) (by decide) fun b2 h2 => ?_
    rw [mem_rds] at h2
    have e : adj rs a b = b2 := by
      cases b2 with
      | true => exact adj_iff.mpr (.inr (h2.mp rfl))
      | false =>
        cases e : adj rs a b with
        | false => rfl
        | true => rcases adj_iff.mp e with z | z
                  · exact absurd (h1.mpr z) (by decide)
                  · exact absurd (h2.mpr z) (by decide)
    rw [e] at q
    exact ⟨(fun _ z => nomatch z), kp_end (Kp.refl _) q⟩
abbrev R_have_road : Prm := pureR fun ds k => ∃ ps rs a b, ds = [webD ps rs, .str a, .str b] ∧ LawfulR rs ∧ PyData.strOk a = true ∧ PyData.strOk b = true ∧ k (.bool (adj rs a b))
theorem ok_have_road (G : Glob Tb base K mg C) : OkF Tb P w K mg base 2 "have_road" ["web", "place", "other"] R_have_road := by
  refine okF_of 1 G.d_have_road sc_have_road (fun F => F.bindsN fun _ _ _ _ _ _ us hl => match us, hl with | [_, _, _], _ => rfl) (fun f cdv A outer s H E hr => ?_)
  have sc := sc_have_road
  have hv := hv_of hr
  refine ⟨_, (pss_one (ps_ret (pe_or (pe_cmpR (op_inTp hv) (pe_tupF (pa_cons (pv 1) (pa_cons (pv 2) pa_nil))) (pe_ix L2.ix_tup (pv 0) pe_int (fun _ _ => rfl)) (by rfl)) (pe_one (pe_cmpR (op_inTp hv) (pe_tupF (pa_cons (pv 2) (pa_cons (pv 1) pa_nil))) (pe_ix L2.ix_tup (pv 0) pe_int (fun _ _ => rfl)) (by rfl)))))), ?_⟩
  rintro δ ω Φ ⟨rfl, ds, rfl, ps, rs, a, b, rfl, hl, ha, hb, q⟩
  show RR Tb _ [.dt (webD ps rs), .dt (.str a), .dt (.str b)] [] _
  walk_at "km"
  refine ox_ixT _ (atI_n (j := 1) rfl) ?_
  refine ox_in _ 2 (okd_le (by decide) (okd_rd (p := (a, b)) ha hb)) (okd_rds hl) (by decide) fun b1 h1 => ?_
  refine one_bool ?_
  rw [mem_rds] at h1
  cases b1 with
  | true =>
    have e : adj rs a b = true := adj_iff.mpr (.inl (h1.mp rfl))
    rw [e] at q
    exact ⟨(fun _ z => nomatch z), kp_end (Kp.refl _) q⟩
  | false =>
    walk_at "kms"
    walk_at "km"
    refine ox_ixT _ (atI_n (j := 1) rfl) ?_
    refine ox_in _ 2 (okd_le (by decide) (okd_rd (p := (b, a)) hb ha)) (okd_rds hl) (by decide) fun b2 h2 => ?_
    rw [mem_rds] at h2
    have e : adj rs a b = b2 := by
      cases b2 with
      | true => exact adj_iff.mpr (.inr (h2.mp rfl))
      | false =>
        cases e : adj rs a b with
        | false => rfl
        | true => rcases adj_iff.mp e with z | z
                  · exact absurd (h1.mpr z) (by decide)
                  · exact absurd (h2.mpr z) (by decide)
    rw [e] at q
    exact ⟨(fun _ z => nomatch z), kp_end (Kp.refl _) q⟩
end Km
/-! Text KmF2 -/
namespace Km
open PySem PySem.Spec PyProof.Rows L2 LamX
local macro_rules
  | `(tactic| walk_at "km1") => `(tactic| first
    | ((with_reducible apply ex_v); (focus rfl); (focus rfl))
    | with_reducible refine ex_int ?_
    | with_reducible refine ex_str ?_
    | with_reducible refine ex_bl ?_
    | with_reducible refine ex_non ?_
    | with_reducible refine ex_op ?_
    | with_reducible refine ex_un ?_
    | with_reducible refine ux_neg ?_
    | with_reducible refine ox_i0I ?_
    | with_reducible refine ox_i0B ?_
    | with_reducible refine ex_tup ?_
    | with_reducible refine ex_lst ?_
    | with_reducible refine ex_slT _ ?_
    | with_reducible refine ex_slL _ ?_
    | with_reducible refine px_none ?_
    | with_reducible refine px_some ?_
    | with_reducible refine ea_nil ?_
    | with_reducible refine ea_cons ?_
    | with_reducible refine ex_isi _ ?_
    | with_reducible refine ex_cb ?_
    | with_reducible refine ex_isN ?_
    | with_reducible refine ex_notN ?_
    | with_reducible refine ex_chain ?_
    | with_reducible refine ex_if ?_
    | with_reducible refine ex_and ?_
    | with_reducible refine ex_or ?_
    | with_reducible refine ex_not ?_
    | with_reducible refine ex_tix _ ?_
    | with_reducible refine ex_goD ?_
    | with_reducible refine ex_goN ?_
    | with_reducible refine ex_goF ?_
    | with_reducible refine ex_dget ?_
    | with_reducible refine ex_din ?_
    | with_reducible refine ex_dnotin ?_
    | with_reducible refine ex_dnew ?_
    | with_reducible refine et_test ?_
    | with_reducible refine et_val ?_
    | with_reducible refine et_and ?_
    | with_reducible refine et_or ?_
    | with_reducible refine et_not ?_
    | with_reducible refine et_yes ?_
    | with_reducible refine rr_seq ?_
    | with_reducible refine rr_asg ?_
    | with_reducible refine rr_ret ?_
    | with_reducible refine rr_retN ?_
    | with_reducible refine rr_drop ?_
    | with_reducible refine rr_if ?_
    | with_reducible refine rr_par ?_
    | with_reducible refine rr_next ?_
    | with_reducible refine rr_break ?_
    | with_reducible refine ix_tup _ ?_
    | with_reducible refine ix_range1 ?_
    | with_reducible refine ix_range2 ?_
    | with_reducible refine ix_down ?_
    | with_reducible refine ix_str ?_
    | with_reducible refine ix_keys ?_
    | with_reducible refine nb_dt ?_
    | with_reducible refine nb_pt ?_
    | with_reducible refine lc_name (by simp) ?_
    | with_reducible refine lc_pair (by simp) (by simp) ?_
    | with_reducible refine lc_new (by simp) (by simp) ?_
    | with_reducible refine for_name ?_
    | with_reducible refine for_pair ?_
    | with_reducible refine for_new ?_
    | with_reducible refine tup0 ?_
    | with_reducible refine tup1 ?_
    | with_reducible refine tup2 ?_
    | with_reducible refine tup3 ?_
    | with_reducible refine arg1 ?_
    | with_reducible refine arg2 ?_
    | with_reducible refine arg3 ?_
    | with_reducible refine arg4 ?_
    | with_reducible refine ⟨_, rfl, ?_⟩
    | with_reducible refine ⟨_, _, rfl, ?_⟩)
local macro_rules
  | `(tactic| walk_at "kms") => `(tactic| try simp (maxSteps := 2000) only [wipeS, List.map_cons, List.map_nil, List.set_cons_zero, List.set_cons_succ, Bool.false_eq_true, Bool.not_true, Bool.not_false, reduceIte])
local macro_rules
  | `(tactic| walk_at "km") => `(tactic| repeat (walk_at "km1"; walk_at "kms"))
local macro_rules
  | `(tactic| walk_at "kp") => `(tactic| repeat (first | exact Kp.refl _ | refine Kp.cons2 ?_ | refine Kp.cons ?_))
local macro_rules
  | `(tactic| walk_at "ls") => `(tactic| repeat (first | exact isLs_hd | exact isLs_bo | refine isLs_tl ?_))

variable {Tb : List (Addr × Str)} {P : Program} {w : World} {K : PySem.W.Frag} {mg : Str → Option Value} {base : Heap} {C : Addr}
/-! neighbours_of(web, place) -/
abbrev R_neighbours_of : Prm := pureR fun ds k => ∃ ps rs x, ds = [webD ps rs, .str x] ∧ WebV ps rs ∧ x ∈ ps ∧ k (tS (nbrs ps rs x))
theorem ok_neighbours_of (G : Glob Tb base K mg C) : OkF Tb P w K mg base 3 "neighbours_of" ["web", "place"] R_neighbours_of := by
  refine okF_of 2 G.d_neighbours_of sc_neighbours_of (fun F => F.bindsN fun _ _ _ _ _ _ us hl => match us, hl with | [_, _], _ => rfl) (fun f cdv A outer s H E hr => ?_)
  have sc := sc_neighbours_of
  have hv := hv_of hr
  have hu := hu_of hr
  have ok_have_road_ := ok_have_road (Tb := Tb) (P := P) (w := w) (base := base) G
  refine ⟨_, (pss_one (ps_ret (pe_callTy call_tupF (by rfl) G.f_tuple (by decide +kernel) (pa_cons (pe_lc (own := [("other", 2)]) (g := (gName 2)) rfl sc.nd (pi_tup (pe_ix L2.ix_tup (pv 0) pe_int (fun _ _ => rfl))) (blkOk_by (N := N_neighbours_of) (sc := defScope s_neighbours_of) (by decide +kernel)) (fun _ _ _ _ _ => (pg_name (i := 2) sc.nd rfl (Or.inl rfl))) (fun _ _ _ _ _ => pts_one (pt_val (pe_go 3 ok_have_road_ (hr.mono (by decide)) rfl (pa_cons (pv 0) (pa_cons (pv 1) (pa_cons (pv 2) pa_nil)))))) (fun _ _ _ _ _ => (pv 2))) pa_nil)))), ?_⟩
  clear sc hu
  rintro δ ω Φ ⟨rfl, ds, rfl, ps, rs, x, rfl, W, hx, q⟩
  show RR Tb _ [.dt (webD ps rs), .dt (.str x), .un] [] _
  walk_at "km"
  refine ex_lcM T PyData.str str_inj PyData.str ps (fun y => if adj rs x y = true then some y else none) ?_
  walk_at "km"
  refine ox_ixT _ (atI_n (j := 0) rfl) ?_
  refine ⟨_, rfl, rfl, Nat.le_trans W.p5 (by decide), fun _ => True.intro, fun y hy => ?_, fun p => ?_⟩
  · walk_at "km"
    intro D acc
    walk_at "km"
    refine ⟨ps, rs, x, y, rfl, W.lr, W.law x hx, W.law y hy, ?_⟩
    walk_at "km"
    cases e : adj rs x y with
    | true =>
      walk_at "kms"
      walk_at "km"
      exact ⟨by simp, Kp.refl _⟩
    | false =>
      walk_at "kms"
      exact ⟨by simp, Kp.refl _⟩
  · walk_at "km"
    refine kx_tuple _ isLs_hd ?_
    walk_at "km"
    refine kp_end (Kp.cons (Kp.refl _)) ?_
    have e : List.filterMap (fun y => if adj rs x y = true then some y else none) ps = nbrs ps rs x := by
      unfold nbrs
      rw [← List.filterMap_eq_filter]
      rfl
    rw [e]
    exact q
end Km
/-! Text KmF3 -/
namespace Km
open PySem PySem.Spec PyProof.Rows L2 LamX
local macro_rules
  | `(tactic| walk_at "km1") => `(tactic| first
    | ((with_reducible apply ex_v); (focus rfl); (focus rfl))
    | with_reducible refine ex_int ?_
    | with_reducible refine ex_str ?_
    | with_reducible refine ex_bl ?_
    | with_reducible refine ex_non ?_
    | with_reducible refine ex_op ?_
    | with_reducible refine ex_un ?_
    | with_reducible refine ux_neg ?_
    | with_reducible refine ox_i0I ?_
    | with_reducible refine ox_i0B ?_
    | with_reducible refine ex_tup ?_
    | with_reducible refine ex_lst ?_
    | with_reducible refine ex_slT _ ?_
    | with_reducible refine ex_slL _ ?_
    | with_reducible refine px_none ?_
    | with_reducible refine px_some ?_
    | with_reducible refine ea_nil ?_
    | with_reducible refine ea_cons ?_
    | with_reducible refine ex_isi _ ?_
    | with_reducible refine ex_cb ?_
    | with_reducible refine ex_isN ?_
    | with_reducible refine ex_notN ?_
    | with_reducible refine ex_chain ?_
    | with_reducible refine ex_if ?_
    | with_reducible refine ex_and ?_
    | with_reducible refine ex_or ?_
    | with_reducible refine ex_not ?_
    | with_reducible refine ex_tix _ ?_
    | with_reducible refine ex_goD ?_
    | with_reducible refine ex_goN ?_
    | with_reducible refine ex_goF ?_
    | with_reducible refine ex_dget ?_
    | with_reducible refine ex_din ?_
    | with_reducible refine ex_dnotin ?_
    | with_reducible refine ex_dnew ?_
    | with_reducible refine et_test ?_
    | with_reducible refine et_val ?_
    | with_reducible refine et_and ?_
    | with_reducible refine et_or ?_
    | with_reducible refine et_not ?_
    | with_reducible refine et_yes ?_
    | with_reducible refine rr_seq ?_
    | with_reducible refine rr_asg ?_
    | with_reducible refine rr_ret ?_
    | with_reducible refine rr_retN ?_
    | with_reducible refine rr_drop ?_
    | with_reducible refine rr_if ?_
    | with_reducible refine rr_par ?_
    | with_reducible refine rr_next ?_
    | with_reducible refine rr_break ?_
    | with_reducible refine ix_tup _ ?_
    | with_reducible refine ix_range1 ?_
    | with_reducible refine ix_range2 ?_
    | with_reducible refine ix_down ?_
    | with_reducible refine ix_str ?_
    | with_reducible refine ix_keys ?_
    | with_reducible refine nb_dt ?_
    | with_reducible refine nb_pt ?_
    | with_reducible refine lc_name (by simp) ?_
    | with_reducible refine lc_pair (by simp) (by simp) ?_
    | with_reducible refine lc_new (by simp) (by simp) ?_
    | with_reducible refine for_name ?_
    | with_reducible refine for_pair ?_
    | with_reducible refine for_new ?_
    | with_reducible refine tup0 ?_
    | with_reducible refine tup1 ?_
    | with_reducible refine tup2 ?_
    | with_reducible refine tup3 ?_
    | with_reducible refine arg1 ?_
    | with_reducible refine arg2 ?_
    | with_reducible refine arg3 ?_
    | with_reducible refine arg4 ?_
    | with_reducible refine ⟨_, rfl, ?_⟩
    | with_reducible refine ⟨_, _, rfl, ?_⟩)
local macro_rules
  | `(tactic| walk_at "kms") => `(tactic| try simp (maxSteps := 2000) only [wipeS, List.map_cons, List.map_nil, List.set_cons_zero, List.set_cons_succ, Bool.false_eq_true, Bool.not_true, Bool.not_false, reduceIte])
local macro_rules
  | `(tactic| walk_at "km") => `(tactic| repeat (walk_at "km1"; walk_at "kms"))
local macro_rules
  | `(tactic| walk_at "kp") => `(tactic| repeat (first | exact Kp.refl _ | refine Kp.cons2 ?_ | refine Kp.cons ?_))
local macro_rules
  | `(tactic| walk_at "ls") => `(tactic| repeat (first | exact isLs_hd | exact isLs_bo | refine isLs_tl ?_))

variable {Tb : List (Addr × Str)} {P : Program} {w : World} {K : PySem.W.Frag} {mg : Str → Option Value} {base : Heap} {C : Addr}
theorem fmod_nn {a b : Int} (h : 0 < b) : 0 ≤ a.fmod b ∧ a.fmod b < b := by
  rw [Int.fmod_eq_emod_of_nonneg _ (Int.le_of_lt h)]
  exact ⟨Int.emod_nonneg _ (by omega), Int.emod_lt_of_pos _ h⟩
/-! _law_feed(script, k) -/
theorem kx_lenSq (K : PySem.W.Frag) {ω : Om} {Φ : Sl → Om → Prop} {ns : List Int} (q : Φ (.dt (.int (ns.length : Nat))) ω) : KX Tb (rLenQ K) [.bo (.sq K ns)] ω Φ := fun B H vs Q S h k => by
  obtain ⟨v, rfl, hv⟩ := one_of h
  obtain ⟨a, rfl, ha⟩ := isSq S hv
  exact ⟨a, _, rfl, .inl ha, k _ _ ω H q (TupEx.refl H) (slDt (by rw [List.length_map]; exact .int _)) S⟩
theorem ex_slSq (K : PySem.W.Frag) {te : TE} {tl th : TO} {δ : List Sl} {ω : Om} {Φ : Sl → Om → Prop} (h : EX Tb te δ ω fun s ω1 => PX Tb tl δ ω1 fun lo ω2 => PX Tb th δ ω2 fun hi ω3 => ∃ ns : List Int, s = .bo (.sq K ns) ∧ ∀ p, Φ (.pt p) ((p, .ls (cutD (ns.map .int) lo hi)) :: ω3)) : EX Tb (tSl (rSlL K) te tl th) δ ω Φ := fun B σ H Q S k =>
  h B σ H _ S fun v s ω1 H1 q e k1 p1 => by
    refine q B σ H1 _ (S.re e p1) fun lo ω2 H2 q2 e2 p2 => q2 B σ H2 _ ((S.re e p1).re e2 p2) fun hi ω3 H3 q3 e3 p3 => ?_
    obtain ⟨ns, rfl, q4⟩ := q3
    obtain ⟨a, rfl, ha⟩ := isSq p3 (k1.mono (e2.trans e3))
    refine ⟨a, _, rfl, ha, fun p hp => ?_⟩
    have se := same_new (H := H3) (o := .lst (cutV (ns.map V.int) lo hi)) hp
    have te3 : TupEx H3 _ := (Ext.of se).tup
    exact k (.ref p) (.pt p) _ _ (q4 p) (((e.trans e2).trans e3).trans te3) rfl (p3.new se hp ⟨_, upd_same, (TAs.ofInts ns).cut lo hi⟩)
theorem ox_ixSq (K : PySem.W.Frag) {ω : Om} {Φ : Sl → Om → Prop} {ns : List Int} {i z : Int} (h : atI (ns.map V.int) i = some (.int z)) (q : Φ (.dt (.int z)) ω) : OX Tb (rIxL K) (.bo (.sq K ns)) (.dt (.int i)) ω Φ := fun B H x y Q S k1 k2 k => by
  obtain ⟨a, rfl, ha⟩ := isSq S k1
  exact ⟨a, _, i, _, rfl, k2.data.intv, ha, h, k _ _ ω H q (TupEx.refl H) (slDt (.int z)) S⟩
abbrev R_law_feed (K : PySem.W.Frag) : Prm := fun δ ω Φ => ω = [] ∧ ∃ (ns : List Int) (k : Nat), δ = [.bo (.sq K ns), .dt (.int k)] ∧ ∀ p o, Feed 0 o → Φ (.pt p) [(p, o)]
theorem ok_law_feed (G : Glob Tb base K mg C) : OkF Tb P w K mg base 2 "_law_feed" ["_law_script", "_law_k"] (R_law_feed K) := by
  refine okF_of 1 G.d_law_feed sc_law_feed (fun F => F.bindsN fun _ _ _ _ _ _ us hl => match us, hl with | [_, _], _ => rfl) (fun f cdv A outer s H E hr => ?_)
  have sc := sc_law_feed
  have hv := hv_of hr
  have hu := hu_of hr
  refine ⟨_, (pss_cons (ps_set (i := 2) sc.nd rfl (Or.inl rfl) (pe_op op_add (pe_op op_mul pe_int (pv 1)) (pe_callB (cr_sum rfl) (by rfl) G.f_sum (by decide +kernel) (pa_cons (pe_slice sl_list (pv 0) po_none (po_some pe_int)) pa_nil))))
  (pss_cons (ps_if (pt_cmpR op_lt (pv 1) (pe_callB cr_lenQ (by rfl) G.f_len (by decide +kernel) (pa_cons (pv 0) pa_nil)) (nomark _)) (pss_one (ps_set (i := 2) sc.nd rfl (Or.inl rfl) (pe_ix L2.ix_list (pv 0) (pv 1) (fun _ _ => rfl)))) pss_nil)
  (pss_one (ps_ret (pe_lst (pa_cons (pe_callB (cr_max2 rfl) (by rfl) G.f_max (by decide +kernel) (pa_cons pe_int (pa_cons (pe_op op_sub (pv 2) (pe_op op_pow pe_int pe_int)) pa_nil))) (pa_cons (pe_op op_modN (pe_callTy cr_int1 (by rfl) G.f_int (by decide +kernel) (pa_cons (pe_op op_add (pe_op op_mul (pv 2) pe_int) (pe_op op_mul pe_int (pv 1))) pa_nil)) (pe_op op_add (pe_op op_pow pe_int pe_int) pe_int)) (pa_cons pe_int pa_nil)))))))), ?_⟩
  clear sc hu
  rintro δ ω Φ ⟨rfl, ns, k, rfl, q⟩
  show RR Tb _ [.bo (.sq K ns), .dt (.int (k : Nat)), .un] [] _
  refine rr_cut (fun δ' ω' => ∃ c : Int, δ' = [.bo (.sq K ns), .dt (.int (k : Nat)), .dt (.int c)] ∧ Kp ω' []) ?_ ?_
  · walk_at "km"
    refine ox_iI (.inl ⟨by decide, by decide⟩) ?_
    refine ex_cb ?_
    refine ea_cons ?_
    refine ex_slSq _ ?_
    walk_at "km"
    intro p
    rw [show (1 : Int) = ((1 : Nat) : Int) from rfl, cut_to]
    walk_at "km"
    refine kx_sum _ isLs_hd ?_
    walk_at "km"
    exact Kp.cons (Kp.refl _)
  · rintro δ' ω' ⟨c, rfl, kp⟩
    refine rr_kp kp ?_
    refine rr_cut (fun δ' ω' => ∃ c : Int, δ' = [.bo (.sq K ns), .dt (.int (k : Nat)), .dt (.int c)] ∧ ω' = []) ?_ ?_
    · walk_at "km"
      refine kx_lenSq _ ?_
      walk_at "km"
      by_cases h : k < ns.length
      · have e : decide ((k : Int) < (ns.length : Nat)) = true := by
          exact decide_eq_true (by omega)
        rw [e]
        walk_at "kms"
        walk_at "km"
        refine ox_ixSq _ (z := ns[k]) (atI_nat (by rw [List.getElem?_map, List.getElem?_eq_getElem h]; rfl)) ?_
        walk_at "kms"
        try exact ⟨_, rfl, by simp⟩
      · have e : decide ((k : Int) < (ns.length : Nat)) = false := by
          exact decide_eq_false (by omega)
        rw [e]
        walk_at "kms"
        walk_at "km"
        try exact ⟨_, rfl, by simp⟩
    · rintro δ' ω' ⟨c, rfl, rfl⟩
      walk_at "km"
      refine ox_iI ⟨by decide, by decide, by decide⟩ ?_
      walk_at "km"
      refine kx_max2 ?_
      walk_at "km"
      refine ox_iI (.inr ⟨by decide, by decide⟩) ?_
      walk_at "km"
      refine ox_iI (.inl ⟨by decide, by decide⟩) ?_
      walk_at "km"
      refine kx_intI ?_
      walk_at "km"
      refine ox_iI ⟨by decide, by decide, by decide⟩ ?_
      walk_at "km"
      have pos : (0 : Int) < 10 ^ (39 : Int).toNat + 23 := by decide
      refine ox_iI (C := fun _ j => j ≠ 0) (by omega) ?_
      walk_at "km"
      intro p
      refine ⟨(fun _ z => nomatch z), kp_end (Kp.refl _) (q p _ ⟨_, _, _, rfl, ?_, ?_, ?_, ?_, ?_⟩)⟩
      · split <;> omega
      · exact (fmod_nn pos).1
      · exact Int.lt_trans (fmod_nn pos).2 (by decide)
      · decide
      · decide
theorem mulW_ok {x y : Int} {a b : Nat} (hx : 0 ≤ x ∧ x < 2 ^ a) (hy : 0 ≤ y ∧ y < 2 ^ b) (h0 : 0 < a) (h1 : 0 < b) (h : a + b ≤ 1000000) : CMulW x y ∧ 0 ≤ x * y ∧ x * y < 2 ^ (a + b) := by
  have nat : ∀ {z : Int} {n : Nat}, 0 ≤ z ∧ z < 2 ^ n → z.natAbs < 2 ^ n := fun {z n} hz => by
    have e : ((z.natAbs : Nat) : Int) = z := Int.natAbs_of_nonneg hz.1
    have e2 : ((2 ^ n : Nat) : Int) = 2 ^ n := by push_cast; rfl
    omega
  refine ⟨wide_mul (nat hx) (nat hy) h0 h1 h, Int.mul_nonneg hx.1 hy.1, ?_⟩
  rw [Int.pow_add]
  have p : (0 : Int) < 2 ^ b := Int.lt_of_le_of_lt hy.1 hy.2
  exact Int.lt_of_le_of_lt (Int.mul_le_mul_of_nonneg_left (Int.le_of_lt hy.2) hx.1) (Int.mul_lt_mul_of_pos_right hx.2 p)
/-! _law_draw(feed, many) -/
abbrev R_law_draw : Prm := feedR fun m δr k => ∃ n : Nat, δr = [.dt (.int n)] ∧ m ≤ 100000 ∧ 1 ≤ n ∧ n ≤ 1000 ∧ ∀ r : Nat, r < n → k (m + 1) (.dt (.int r)) []
theorem ok_law_draw (G : Glob Tb base K mg C) : OkF Tb P w K mg base 2 "_law_draw" ["_law_feed_here", "_law_many"] R_law_draw := by
  refine okF_of 1 G.d_law_draw sc_law_draw (fun F => F.bindsN fun _ _ _ _ _ _ us hl => match us, hl with | [_, _], _ => rfl) (fun f cdv A outer s H E hr => ?_)
  have sc := sc_law_draw
  have hv := hv_of hr
  have hu := hu_of hr
  refine ⟨_, (pss_cons (ps_if (pt_cmpR op_gt (pe_ix L2.ix_list (pv 0) pe_int (fun _ _ => rfl)) pe_int (nomark _)) (pss_cons (ps_set (i := 2) sc.nd rfl (Or.inl rfl) (pe_op op_fdivN (pe_ix L2.ix_list (pv 0) pe_int (fun _ _ => rfl)) (pv 1)))
  (pss_cons (ps_set (i := 3) sc.nd rfl (Or.inl rfl) (pe_op op_sub (pe_ix L2.ix_list (pv 0) pe_int (fun _ _ => rfl)) (pe_op op_mul (pv 2) (pv 1))))
  (pss_cons (ps_asg (pv 2) (pg_sub (pv 0) pe_int set_list))
  (pss_one (ps_ret (pv 3)))))) pss_nil)
  (pss_cons (ps_asg (pe_op op_add (pe_ix L2.ix_list (pv 0) pe_int (fun _ _ => rfl)) pe_int) (pg_sub (pv 0) pe_int set_list))
  (pss_cons (ps_set (i := 4) sc.nd rfl (Or.inl rfl) (pe_op op_add (pe_ix L2.ix_list (pv 0) pe_int (fun _ _ => rfl)) (pe_op op_mul pe_int (pe_ix L2.ix_list (pv 0) pe_int (fun _ _ => rfl)))))
  (pss_cons (ps_set (i := 4) sc.nd rfl (Or.inl rfl) (pe_op op_modN (pe_callTy cr_int1 (by rfl) G.f_int (by decide +kernel) (pa_cons (pe_op op_add (pe_op op_mulW (pe_op op_mulW (pv 4) (pv 4)) (pv 4)) (pe_op op_mul pe_int (pe_ix L2.ix_list (pv 0) pe_int (fun _ _ => rfl)))) pa_nil)) (pe_op op_add (pe_op op_pow pe_int pe_int) pe_int)))
  (pss_cons (ps_set (i := 4) sc.nd rfl (Or.inl rfl) (pe_op op_modN (pe_callTy cr_int1 (by rfl) G.f_int (by decide +kernel) (pa_cons (pe_op op_add (pe_op op_mulW (pv 4) (pv 4)) pe_int) pa_nil)) (pe_op op_add (pe_op op_pow pe_int pe_int) pe_int)))
  (pss_one (ps_ret (pe_op op_modN (pe_callTy cr_int1 (by rfl) G.f_int (by decide +kernel) (pa_cons (pe_op op_fdivN (pv 4) (pe_op op_pow pe_int pe_int)) pa_nil)) (pv 1))))))))), ?_⟩
  clear sc hu
  rintro δ ω Φ ⟨f0, o, m, δr, rfl, rfl, ⟨a, b, c, rfl, h1, h2, h3, h4, h5⟩, n, rfl, hm, n1, n2, q⟩
  show RR Tb _ [.pt f0, .dt (.int (n : Nat)), .un, .un, .un] [(f0, .ls [.int a, .int b, .int c])] _
  have hn : (0 : Int) < n := by omega
  refine rr_cut (fun δ' ω' => ∃ s2 s3 s4, δ' = [.pt f0, .dt (.int (n : Nat)), s2, s3, s4] ∧ ω' = [(f0, .ls [.int a, .int b, .int c])]) ?_ ?_
  · walk_at "km"
    refine ox_ixL _ isLs_hd (d := .int a) rfl ?_
    walk_at "km"
    by_cases h : 0 < a
    · rw [decide_eq_true h]
      walk_at "kms"
      walk_at "km"
      refine ox_ixL _ isLs_hd (d := .int a) rfl ?_
      walk_at "km"
      refine ox_iI ⟨by omega, by omega⟩ ?_
      walk_at "km"
      refine ox_ixL _ isLs_hd (d := .int a) rfl ?_
      walk_at "km"
      refine ox_iI (.inr ⟨by omega, by omega⟩) ?_
      walk_at "km"
      refine rr_lput 0 0 ?_
      walk_at "km"
      refine ⟨_, _, _, rfl, rfl, rfl, rfl, by simp, ?_⟩
      walk_at "kms"
      walk_at "km"
      have e : a - a.fdiv n * n = a.fmod n := by
        have := Int.fmod_add_mul_fdiv a n
        rw [Int.mul_comm] at this
        omega
      rw [e]
      have hr0 := fmod_nn (a := a) hn
      have er : a.fmod n = ((a.fmod n).toNat : Nat) := by omega
      rw [er]
      refine kp_end (Kp.refl _) (q (a.fmod n).toNat (by omega) _ ⟨_, _, _, rfl, ?_, h2, h3, h4, by omega⟩)
      rw [Int.fdiv_eq_ediv_of_nonneg _ (by omega)]
      exact Int.ediv_nonneg h1 (by omega)
    · rw [decide_eq_false h]
      walk_at "kms"
      walk_at "km"
      exact ⟨_, _, _, rfl, by simp⟩
  · rintro δ' ω' ⟨s2, s3, s4, rfl, rfl⟩
    walk_at "km"
    refine rr_lput 0 2 ?_
    walk_at "km"
    refine ox_ixL _ isLs_hd (d := .int c) rfl ?_
    walk_at "km"
    refine ⟨_, _, _, rfl, rfl, rfl, rfl, by simp, ?_⟩
    walk_at "kms"
    walk_at "km"
    refine ox_ixL _ isLs_hd (d := .int b) rfl ?_
    walk_at "km"
    refine ox_ixL _ isLs_hd (d := .int (c + 1)) rfl ?_
    refine ox_iI (.inl ⟨by decide, by decide⟩) ?_
    walk_at "km"
    have b1 : 0 ≤ b + 6700417 * (c + 1) ∧ b + 6700417 * (c + 1) < 2 ^ 141 := by
      constructor <;> omega
    generalize b + 6700417 * (c + 1) = x1 at b1 ⊢
    obtain ⟨w1, b2⟩ := mulW_ok (x := x1) (y := x1) (a := 141) (b := 141) b1 b1 (by decide) (by decide) (by decide)
    obtain ⟨w2, b3⟩ := mulW_ok (x := x1 * x1) (y := x1) (a := 282) (b := 141) b2 b1 (by decide) (by decide) (by decide)
    refine ox_iI w1 ?_
    walk_at "km"
    refine ox_iI w2 ?_
    walk_at "km"
    refine ox_ixL _ isLs_hd (d := .int (c + 1)) rfl ?_
    refine ox_iI (.inl ⟨by decide, by decide⟩) ?_
    walk_at "km"
    refine kx_intI ?_
    walk_at "km"
    refine ox_iI ⟨by decide, by decide, by decide⟩ ?_
    walk_at "km"
    have p1 : (0 : Int) < 10 ^ (43 : Int).toNat + 57 := by decide
    refine ox_iI (C := fun _ j => j ≠ 0) (by omega) ?_
    walk_at "km"
    have b4 := fmod_nn (a := x1 * x1 * x1 + 15485863 * (c + 1)) p1
    have b5 : 0 ≤ (x1 * x1 * x1 + 15485863 * (c + 1)).fmod (10 ^ (43 : Int).toNat + 57) ∧ (x1 * x1 * x1 + 15485863 * (c + 1)).fmod (10 ^ (43 : Int).toNat + 57) < 2 ^ 144 := ⟨b4.1, Int.lt_trans b4.2 (by decide)⟩
    generalize (x1 * x1 * x1 + 15485863 * (c + 1)).fmod (10 ^ (43 : Int).toNat + 57) = x2 at b5 ⊢
    obtain ⟨w3, b6⟩ := mulW_ok (x := x2) (y := x2) (a := 144) (b := 144) b5 b5 (by decide) (by decide) (by decide)
    refine ox_iI w3 ?_
    walk_at "km"
    refine kx_intI ?_
    walk_at "km"
    refine ox_iI ⟨by decide, by decide, by decide⟩ ?_
    walk_at "km"
    have p2 : (0 : Int) < 10 ^ (38 : Int).toNat + 133 := by decide
    refine ox_iI (C := fun _ j => j ≠ 0) (by omega) ?_
    walk_at "km"
    generalize (x2 * x2 + 32452843).fmod (10 ^ (38 : Int).toNat + 133) = x3
    refine ox_iI ⟨by decide, by decide, by decide⟩ ?_
    refine ox_iI ⟨by decide, by decide⟩ ?_
    walk_at "km"
    refine kx_intI ?_
    walk_at "km"
    generalize x3.fdiv (10 ^ (9 : Int).toNat) = x4
    refine ox_iI (C := fun _ j => j ≠ 0) (by omega) ?_
    walk_at "km"
    have hr0 := fmod_nn (a := x4) hn
    have er : x4.fmod n = ((x4.fmod n).toNat : Nat) := by omega
    rw [er]
    exact kp_end (Kp.refl _) (q (x4.fmod n).toNat (by omega) _ ⟨_, _, _, rfl, h1, h2, h3, by omega, by omega⟩)
end Km
/-! Text KmF4 -/
namespace Km
open PySem PySem.Spec PyProof.Rows L2 LamX
local macro_rules
  | `(tactic| walk_at "km1") => `(tactic| first
    | ((with_reducible apply ex_v); (focus rfl); (focus rfl))
    | with_reducible refine ex_int ?_
    | with_reducible refine ex_str ?_
    | with_reducible refine ex_bl ?_
    | with_reducible refine ex_non ?_
    | with_reducible refine ex_op ?_
    | with_reducible refine ex_un ?_
    | with_reducible refine ux_neg ?_
    | with_reducible refine ox_i0I ?_
    | with_reducible refine ox_i0B ?_
    | with_reducible refine ex_tup ?_
    | with_reducible refine ex_lst ?_
    | with_reducible refine ex_slT _ ?_
    | with_reducible refine ex_slL _ ?_
    | with_reducible refine px_none ?_
    | with_reducible refine px_some ?_
    | with_reducible refine ea_nil ?_
    | with_reducible refine ea_cons ?_
    | with_reducible refine ex_isi _ ?_
    | with_reducible refine ex_cb ?_
    | with_reducible refine ex_isN ?_
    | with_reducible refine ex_notN ?_
    | with_reducible refine ex_chain ?_
    | with_reducible refine ex_if ?_
    | with_reducible refine ex_and ?_
    | with_reducible refine ex_or ?_
    | with_reducible refine ex_not ?_
    | with_reducible refine ex_tix _ ?_
    | with_reducible refine ex_goD ?_
    | with_reducible refine ex_goN ?_
    | with_reducible refine ex_goF ?_
    | with_reducible refine ex_dget ?_
    | with_reducible refine ex_din ?_
    | with_reducible refine ex_dnotin ?_
    | with_reducible refine ex_dnew ?_
    | with_reducible refine et_test ?_
    | with_reducible refine et_val ?_
    | with_reducible refine et_and ?_
    | with_reducible refine et_or ?_
    | with_reducible refine et_not ?_
    | with_reducible refine et_yes ?_
    | with_reducible refine rr_seq ?_
    | with_reducible refine rr_asg ?_
    | with_reducible refine rr_ret ?_
    | with_reducible refine rr_retN ?_
    | with_reducible refine rr_drop ?_
    | with_reducible refine rr_if ?_
    | with_reducible refine rr_par ?_
    | with_reducible refine rr_next ?_
    | with_reducible refine rr_break ?_
    | with_reducible refine ix_tup _ ?_
    | with_reducible refine ix_range1 ?_
    | with_reducible refine ix_range2 ?_
    | with_reducible refine ix_down ?_
    | with_reducible refine ix_str ?_
    | with_reducible refine ix_keys ?_
    | with_reducible refine nb_dt ?_
    | with_reducible refine nb_pt ?_
    | with_reducible refine lc_name (by simp) ?_
    | with_reducible refine lc_pair (by simp) (by simp) ?_
    | with_reducible refine lc_new (by simp) (by simp) ?_
    | with_reducible refine for_name ?_
    | with_reducible refine for_pair ?_
    | with_reducible refine for_new ?_
    | with_reducible refine tup0 ?_
    | with_reducible refine tup1 ?_
    | with_reducible refine tup2 ?_
    | with_reducible refine tup3 ?_
    | with_reducible refine arg1 ?_
    | with_reducible refine arg2 ?_
    | with_reducible refine arg3 ?_
    | with_reducible refine arg4 ?_
    | with_reducible refine ⟨_, rfl, ?_⟩
    | with_reducible refine ⟨_, _, rfl, ?_⟩)
local macro_rules
  | `(tactic| walk_at "kms") => `(tactic| try simp (maxSteps := 2000) only [wipeS, List.map_cons, List.map_nil, List.set_cons_zero, List.set_cons_succ, Bool.false_eq_true, Bool.not_true, Bool.not_false, reduceIte])
local macro_rules
  | `(tactic| walk_at "km") => `(tactic| repeat (walk_at "km1"; walk_at "kms"))
local macro_rules
  | `(tactic| walk_at "kp") => `(tactic| repeat (first | exact Kp.refl _ | refine Kp.cons2 ?_ | refine Kp.cons ?_))
local macro_rules
  | `(tactic| walk_at "ls") => `(tactic| repeat (first | exact isLs_hd | exact isLs_bo | refine isLs_tl ?_))

variable {Tb : List (Addr × Str)} {P : Program} {w : World} {K : PySem.W.Frag} {mg : Str → Option Value} {base : Heap} {C : Addr}
theorem erase_perm0 {α : Type} {l : List α} {i : Nat} (h : i < l.length) : (l[i] :: l.eraseIdx i).Perm l := by
  have e : l = l.take i ++ l[i] :: l.drop (i + 1) := by rw [List.getElem_cons_drop, List.take_append_drop]
  rw [List.eraseIdx_eq_take_drop_succ]
  refine List.Perm.trans ?_ (List.Perm.of_eq e.symm)
  exact List.perm_middle.symm
/-! _law_one(feed, things) -/
abbrev R_law_one : Prm := feedR fun m δr k => ∃ es : List PyData, δr = [.bo (.ls es)] ∧ m ≤ 100000 ∧ 1 ≤ es.length ∧ es.length ≤ 1000 ∧ ∀ e ∈ es, k (m + 1) (.dt e) []
theorem ok_law_one (G : Glob Tb base K mg C) : OkF Tb P w K mg base 3 "_law_one" ["_law_feed_here", "_law_things"] R_law_one := by
  refine okF_of 2 G.d_law_one sc_law_one (fun F => F.bindsN fun _ _ _ _ _ _ us hl => match us, hl with | [_, _], _ => rfl) (fun f cdv A outer s H E hr => ?_)
  have sc := sc_law_one
  have hv := hv_of hr
  have hu := hu_of hr
  have ok_law_draw_ := ok_law_draw (Tb := Tb) (P := P) (w := w) (base := base) G
  refine ⟨_, (pss_one (ps_ret (pe_ix L2.ix_list (pv 1) (pe_go 2 ok_law_draw_ (hr.mono (by decide)) rfl (pa_cons (pv 0) (pa_cons (pe_callB cr_lenQ (by rfl) G.f_len (by decide +kernel) (pa_cons (pv 1) pa_nil)) pa_nil))) (fun _ _ => rfl)))), ?_⟩
  clear sc hu
  rintro δ ω Φ ⟨f0, o, m, δr, rfl, rfl, hf, es, rfl, hm, n1, n2, q⟩
  show RR Tb _ [.pt f0, .bo (.ls es)] [(f0, o)] _
  walk_at "km"
  refine kx_lenL _ isLs_bo ?_
  walk_at "km"
  refine ⟨f0, o, m, [], [], [.dt (.int (es.length : Nat))], [.dt (.int (es.length : Nat))], rfl, rfl, rfl, hf, .dt .nil, es.length, rfl, hm, n1, n2, fun r hr o' ho => ?_⟩
  refine ox_ixL _ isLs_bo (d := es[r]) (atI_n (List.getElem?_eq_getElem hr)) ?_
  exact ⟨(fun _ z => nomatch z), kp_end (Kp.refl _) (q _ (List.getElem_mem hr) o' ho)⟩
/-! _law_mixed(feed, things) -/
abbrev R_law_mixed : Prm := feedR fun m δr k => ∃ es : List PyData, (δr = [.bo (.ls es)] ∨ δr = [.dt (.tuple es)]) ∧ m + es.length ≤ 100000 ∧ es.length ≤ 1000 ∧ ∀ es', es'.Perm es → ∀ p, k (m + es.length) (.pt p) [(p, .ls es')]
theorem ok_law_mixed (G : Glob Tb base K mg C) : OkF Tb P w K mg base 3 "_law_mixed" ["_law_feed_here", "_law_things"] R_law_mixed := by
  refine okF_of 2 G.d_law_mixed sc_law_mixed (fun F => F.bindsN fun _ _ _ _ _ _ us hl => match us, hl with | [_, _], _ => rfl) (fun f cdv A outer s H E hr => ?_)
  have sc := sc_law_mixed
  have hv := hv_of hr
  have hu := hu_of hr
  have ok_law_draw_ := ok_law_draw (Tb := Tb) (P := P) (w := w) (base := base) G
  refine ⟨_, (pss_cons (ps_par (i := 2) (j := 3) (by rfl) sc.nd rfl rfl (by decide) rfl rfl (pa_cons (pe_callTy cr_listO (by rfl) G.f_list (by decide +kernel) (pa_cons (pv 1) pa_nil)) (pa_cons (pe_lst pa_nil) pa_nil)) (by rfl))
  (pss_cons (ps_for PassesOwn.never rfl (pi_range1 rfl G.f_range (pa_cons (pe_callB cr_lenQ (by rfl) G.f_len (by decide +kernel) (pa_cons (pv 1) pa_nil)) pa_nil)) (pg_name (i := 4) sc.nd rfl (Or.inl rfl)) (pss_one (ps_expr (pe_bm (PySem.F.plainAttrs_list) (PySem.F.slot_list_append) (PySem.F.type_list_append) mt_append (pv 3) (pa_cons (pe_bm (PySem.F.plainAttrs_list) (PySem.F.slot_list_pop) (PySem.F.type_list_pop) mt_popAt (pv 2) (pa_cons (pe_go 2 ok_law_draw_ (hr.mono (by decide)) rfl (pa_cons (pv 0) (pa_cons (pe_callB cr_lenQ (by rfl) G.f_len (by decide +kernel) (pa_cons (pv 2) pa_nil)) pa_nil))) pa_nil)) pa_nil)))))
  (pss_one (ps_ret (pv 3))))), ?_⟩
  clear sc hu
  rintro δ ω Φ ⟨f0, o, m, δr, rfl, rfl, hf, es, hδ, hm, n2, q⟩
  obtain ⟨sr, rfl, hsr⟩ : ∃ sr, δr = [sr] ∧ (sr = .bo (.ls es) ∨ sr = .dt (.tuple es)) := by
    rcases hδ with rfl | rfl
    · exact ⟨_, rfl, .inl rfl⟩
    · exact ⟨_, rfl, .inr rfl⟩
  have hun : isUn sr = false := by rcases hsr with rfl | rfl <;> rfl
  show RR Tb _ [.pt f0, sr, .un, .un, .un] [(f0, o)] _
  refine rr_cut (fun δ' ω' => ∃ p g, δ' = [.pt f0, sr, .pt p, .pt g, .un] ∧ ω' = [(g, .ls []), (p, .ls es), (f0, o)]) ?_ ?_
  · walk_at "km"
    refine ex_v rfl hun ?_
    walk_at "km"
    rcases hsr with rfl | rfl
    · refine kx_listL _ isLs_bo fun p => ?_
      walk_at "km"
      intro g
      walk_at "km"
      try exact ⟨p, g, rfl, by simp⟩
    · refine kx_listT _ fun p => ?_
      walk_at "km"
      intro g
      walk_at "km"
      try exact ⟨p, g, rfl, by simp⟩
  · rintro δ' ω' ⟨p, g, rfl, rfl⟩
    refine rr_kp (Kp.perm (List.perm_append_comm (l₁ := [(f0, o)]) (l₂ := [(g, .ls []), (p, .ls es)]))) ?_
    refine rr_cut (fun δ' ω' => ∃ o' got s, Feed (m + es.length) o' ∧ got.Perm es ∧ δ' = [.pt f0, sr, .pt p, .pt g, s] ∧ ω' = [(f0, o'), (g, .ls got), (p, .ls [])]) ?_ ?_
    · refine rr_for T (fun i δ' ω' => ∃ o' got pool s, Feed (m + i) o' ∧ (got ++ pool).Perm es ∧ got.length = i ∧ δ' = [.pt f0, sr, .pt p, .pt g, s] ∧ ω' = [(f0, o'), (g, .ls got), (p, .ls pool)]) ?_
      walk_at "km"
      refine ex_v rfl hun ?_
      walk_at "km"
      have fin : ∀ {Ψ : Sl → Om → Prop} {ω : Om}, Ψ (.dt (.int (es.length : Nat))) ω → KX Tb (rLenQ K) [sr] ω Ψ := fun {Ψ ω} h => by
        rcases hsr with rfl | rfl
        · exact kx_lenL _ isLs_bo h
        · exact kx_lenT _ h
      refine fin ?_
      walk_at "km"
      refine ⟨by omega, by omega, ⟨o, [], es, .un, hf, List.Perm.refl _, rfl, rfl, rfl⟩, fun _ _ _ _ => True.intro, ?_, ?_⟩
      · rintro i d δ' ω' hd ⟨o', got, pool, s0, hf', hp, hl, rfl, rfl⟩
        have hi : i < es.length := by
          have := (List.getElem?_eq_some_iff.mp hd).1
          rwa [rangeD_len, toNat_len] at this
        have hlen := hp.length_eq
        rw [List.length_append] at hlen
        walk_at "km"
        refine ex_append _ 1 ?_
        walk_at "km"
        refine ⟨⟨got, by simp⟩, ?_⟩
        walk_at "km"
        refine ex_popAt _ 2 ?_
        walk_at "km"
        refine ⟨⟨pool, by simp⟩, ?_⟩
        walk_at "km"
        refine kx_lenL _ (isLs_tl (isLs_tl isLs_hd)) ?_
        walk_at "km"
        refine ⟨f0, o', m + i, [], [(g, .ls got), (p, .ls pool)], [.dt (.int (pool.length : Nat))], [.dt (.int (pool.length : Nat))], rfl, rfl, rfl, hf', .dt .nil, pool.length, rfl, by omega, by omega, by omega, fun r hr o2 ho2 => ?_⟩
        walk_at "km"
        refine ⟨pool, pool[r], rfl, by omega, List.getElem?_eq_getElem hr, ?_⟩
        walk_at "km"
        refine ⟨few_lt (by omega), ?_⟩
        refine ⟨_, Kp.refl _, o2, got ++ [pool[r]], pool.eraseIdx r, .dt d, ho2, ?_, by simp [hl], rfl, rfl⟩
        rw [List.append_assoc]
        exact (List.Perm.append_left got (erase_perm0 hr)).trans hp
      · rintro δ' ω' ⟨o', got, pool, s0, hf', hp, hl, rfl, rfl⟩
        rw [rangeD_len, toNat_len] at hl hf'
        have hlen := hp.length_eq
        rw [List.length_append] at hlen
        have e : pool = [] := List.eq_nil_of_length_eq_zero (by omega)
        subst e
        exact ⟨o', got, s0, hf', by simpa using hp, rfl, rfl⟩
    · rintro δ' ω' ⟨o', got, s0, hf', hp, rfl, rfl⟩
      walk_at "km"
      exact kp_end (Kp.cons2 (Kp.cons2 (Kp.cons (Kp.refl _)))) (q got hp g o' hf')
/-! _law_names(feed, many) -/
def theNames : List Str := ["a", "b10", "b", "zz", "a1", "q1w2e3r4", "b9", "x", "m0", "road", "k", "a1b"]
abbrev R_law_names : Prm := feedR fun m δr k => ∃ n : Nat, δr = [.dt (.int n)] ∧ n ≤ 5 ∧ m ≤ 50000 ∧ ∀ l : List Str, l.Nodup → (∀ z ∈ l, z ∈ theNames) → l.length = n → ∀ p, k (m + 12) (.pt p) [(p, .ls (l.map .str))]
theorem ok_law_names (G : Glob Tb base K mg C) : OkF Tb P w K mg base 4 "_law_names" ["_law_feed_here", "_law_many"] R_law_names := by
  refine okF_of 3 G.d_law_names sc_law_names (fun F => F.bindsN fun _ _ _ _ _ _ us hl => match us, hl with | [_, _], _ => rfl) (fun f cdv A outer s H E hr => ?_)
  have sc := sc_law_names
  have hv := hv_of hr
  have hu := hu_of hr
  have ok_law_mixed_ := ok_law_mixed (Tb := Tb) (P := P) (w := w) (base := base) G
  refine ⟨_, (pss_one (ps_ret (pe_slice sl_list (pe_go 2 ok_law_mixed_ (hr.mono (by decide)) rfl (pa_cons (pv 0) (pa_cons (pe_lst (pa_cons pe_str (pa_cons pe_str (pa_cons pe_str (pa_cons pe_str (pa_cons pe_str (pa_cons pe_str (pa_cons pe_str (pa_cons pe_str (pa_cons pe_str (pa_cons pe_str (pa_cons pe_str (pa_cons pe_str pa_nil))))))))))))) pa_nil))) po_none (po_some (pv 1))))), ?_⟩
  clear sc hu
  rintro δ ω Φ ⟨f0, o, m, δr, rfl, rfl, hf, n, rfl, n5, hm, q⟩
  show RR Tb _ [.pt f0, .dt (.int n)] [(f0, o)] _
  walk_at "km"
  refine ⟨theNames.map .str, rfl, few_line (by decide), fun p => ?_⟩
  walk_at "km"
  refine ⟨f0, o, m, [(p, .ls (theNames.map .str))], [], [.pt p], [.bo (.ls (theNames.map .str))], rfl, rfl, rfl, hf, .lend (by simp) .nil, theNames.map .str, .inl rfl, ?_, by decide, fun es' hp r o' ho => ?_⟩
  · show m + 12 ≤ 100000
    omega
  · obtain ⟨l, hl, rfl⟩ := perm_of_map hp rfl
    walk_at "km"
    refine ⟨_, isLs_tl isLs_hd, fun p2 => ?_⟩
    rw [cut_to]
    have hl2 := hl.length_eq
    have e12 : theNames.length = 12 := rfl
    refine ⟨(fun _ z => nomatch z), kp_end (ω' := [(f0, o'), (p2, .ls ((l.take n).map .str))]) ?_ (q (l.take n) ?_ ?_ ?_ p2 o' ho)⟩
    · exact ⟨[(f0, o'), (p2, .ls ((l.take n).map .str)), (r, .ls (l.map .str)), (p, .ls (theNames.map .str))], by simp, List.Perm.swap _ _ _⟩
    · exact (hl.nodup_iff.mpr (by decide)).sublist (List.take_sublist _ _)
    · exact fun z hz => hl.mem_iff.mp (List.mem_of_mem_take hz)
    · rw [List.length_take]
      omega
/-! _law_order(feed, web) -/
abbrev R_law_order : Prm := feedR fun m δr k => ∃ ps rs, δr = [.dt (webD ps rs)] ∧ ps.length ≤ 5 ∧ m ≤ 50000 ∧ ∀ o : List Str, o.Perm ps → k (m + 5) (.dt (tS o)) []
theorem ok_law_order (G : Glob Tb base K mg C) : OkF Tb P w K mg base 4 "_law_order" ["_law_feed_here", "_law_web_here"] R_law_order := by
  refine okF_of 3 G.d_law_order sc_law_order (fun F => F.bindsN fun _ _ _ _ _ _ us hl => match us, hl with | [_, _], _ => rfl) (fun f cdv A outer s H E hr => ?_)
  have sc := sc_law_order
  have hv := hv_of hr
  have hu := hu_of hr
  have ok_law_mixed_ := ok_law_mixed (Tb := Tb) (P := P) (w := w) (base := base) G
  refine ⟨_, (pss_one (ps_ret (pe_callTy call_tupF (by rfl) G.f_tuple (by decide +kernel) (pa_cons (pe_go 2 ok_law_mixed_ (hr.mono (by decide)) rfl (pa_cons (pv 0) (pa_cons (pe_ix L2.ix_tup (pv 1) pe_int (fun _ _ => rfl)) pa_nil))) pa_nil)))), ?_⟩
  clear sc hu
  rintro δ ω Φ ⟨f0, o, m, δr, rfl, rfl, hf, ps, rs, rfl, p5, hm, q⟩
  show RR Tb _ [.pt f0, .dt (webD ps rs)] [(f0, o)] _
  walk_at "km"
  refine ox_ixT _ (atI_n (j := 0) rfl) ?_
  walk_at "km"
  refine ⟨f0, o, m, [], [], [.dt (tS ps)], [.dt (tS ps)], rfl, rfl, rfl, hf, .dt .nil, ps.map .str, .inr rfl, ?_, ?_, fun es' hp r o' ho => ?_⟩
  · rw [List.length_map]
    omega
  · rw [List.length_map]
    omega
  · obtain ⟨l, hl, rfl⟩ := perm_of_map hp rfl
    walk_at "km"
    refine kx_tuple _ (isLs_tl isLs_hd) ?_
    walk_at "km"
    refine kp_end (Kp.cons2 (Kp.cons (Kp.refl _))) (q l hl o' (ho.mono ?_))
    rw [List.length_map]
    omega
end Km
/-! Text KmF5 -/
namespace Km
open PySem PySem.Spec PyProof.Rows L2 LamX
local macro_rules
  | `(tactic| walk_at "km1") => `(tactic| first
    | ((with_reducible apply ex_v); (focus rfl); (focus rfl))
    | with_reducible refine ex_int ?_
    | with_reducible refine ex_str ?_
    | with_reducible refine ex_bl ?_
    | with_reducible refine ex_non ?_
    | with_reducible refine ex_op ?_
    | with_reducible refine ex_un ?_
    | with_reducible refine ux_neg ?_
    | with_reducible refine ox_i0I ?_
    | with_reducible refine ox_i0B ?_
    | with_reducible refine ex_tup ?_
    | with_reducible refine ex_lst ?_
    | with_reducible refine ex_slT _ ?_
    | with_reducible refine ex_slL _ ?_
    | with_reducible refine px_none ?_
    | with_reducible refine px_some ?_
    | with_reducible refine ea_nil ?_
    | with_reducible refine ea_cons ?_
    | with_reducible refine ex_isi _ ?_
    | with_reducible refine ex_cb ?_
    | with_reducible refine ex_isN ?_
    | with_reducible refine ex_notN ?_
    | with_reducible refine ex_chain ?_
    | with_reducible refine ex_if ?_
    | with_reducible refine ex_and ?_
    | with_reducible refine ex_or ?_
    | with_reducible refine ex_not ?_
    | with_reducible refine ex_tix _ ?_
    | with_reducible refine ex_goD ?_
    | with_reducible refine ex_goN ?_
    | with_reducible refine ex_goF ?_
    | with_reducible refine ex_dget ?_
    | with_reducible refine ex_din ?_
    | with_reducible refine ex_dnotin ?_
    | with_reducible refine ex_dnew ?_
    | with_reducible refine et_test ?_
    | with_reducible refine et_val ?_
    | with_reducible refine et_and ?_
    | with_reducible refine et_or ?_
    | with_reducible refine et_not ?_
    | with_reducible refine et_yes ?_
    | with_reducible refine rr_seq ?_
    | with_reducible refine rr_asg ?_
    | with_reducible refine rr_ret ?_
    | with_reducible refine rr_retN ?_
    | with_reducible refine rr_drop ?_
    | with_reducible refine rr_if ?_
    | with_reducible refine rr_par ?_
    | with_reducible refine rr_next ?_
    | with_reducible refine rr_break ?_
    | with_reducible refine ix_tup _ ?_
    | with_reducible refine ix_range1 ?_
    | with_reducible refine ix_range2 ?_
    | with_reducible refine ix_down ?_
    | with_reducible refine ix_str ?_
    | with_reducible refine ix_keys ?_
    | with_reducible refine nb_dt ?_
    | with_reducible refine nb_pt ?_
    | with_reducible refine lc_name (by simp) ?_
    | with_reducible refine lc_pair (by simp) (by simp) ?_
    | with_reducible refine lc_new (by simp) (by simp) ?_
    | with_reducible refine for_name ?_
    | with_reducible refine for_pair ?_
    | with_reducible refine for_new ?_
    | with_reducible refine tup0 ?_
    | with_reducible refine tup1 ?_
    | with_reducible refine tup2 ?_
    | with_reducible refine tup3 ?_
    | with_reducible refine arg1 ?_
    | with_reducible refine arg2 ?_
    | with_reducible refine arg3 ?_
    | with_reducible refine arg4 ?_
    | with_reducible refine ⟨_, rfl, ?_⟩
    | with_reducible refine ⟨_, _, rfl, ?_⟩)
local macro_rules
  | `(tactic| walk_at "kms") => `(tactic| try simp (maxSteps := 2000) only [wipeS, List.map_cons, List.map_nil, List.set_cons_zero, List.set_cons_succ, Bool.false_eq_true, Bool.not_true, Bool.not_false, reduceIte])
local macro_rules
  | `(tactic| walk_at "km") => `(tactic| repeat (walk_at "km1"; walk_at "kms"))
local macro_rules
  | `(tactic| walk_at "kp") => `(tactic| repeat (first | exact Kp.refl _ | refine Kp.cons2 ?_ | refine Kp.cons ?_))
local macro_rules
  | `(tactic| walk_at "ls") => `(tactic| repeat (first | exact isLs_hd | exact isLs_bo | refine isLs_tl ?_))

variable {Tb : List (Addr × Str)} {P : Program} {w : World} {K : PySem.W.Frag} {mg : Str → Option Value} {base : Heap} {C : Addr}
theorem ox_ixLM {ω : Om} {Φ : Sl → Om → Prop} {α : Type} {s : Sl} (K : PySem.W.Frag) {f : α → PyData} {l : List α} {i : Int} {z : α} (hl : IsLs ω s (l.map f)) (h : atI l i = some z) (q : Φ (.dt (f z)) ω) : OX Tb (rIxL K) s (.dt (.int i)) ω Φ :=
  ox_ixL K hl (by rw [atI_map, h]; rfl) q
theorem filterMap_some {α β : Type} (f : α → β) : ∀ l : List α, l.filterMap (fun x => some (f x)) = l.map f
  | [] => rfl
  | x :: l => by rw [List.filterMap_cons, List.map_cons, filterMap_some f l]
theorem filterMap_if {α : Type} (p : α → Bool) : ∀ l : List α, l.filterMap (fun x => if p x = true then some x else none) = l.filter p
  | [] => rfl
  | x :: l => by
    rw [List.filterMap_cons, List.filter_cons, filterMap_if p l]
    cases p x <;> simp
theorem nat_inj : ∀ a b : Nat, PyData.int ((0 : Int) + (a : Nat)) = PyData.int ((0 : Int) + (b : Nat)) → a = b := fun a b h => by
  have := PyData.int.inj h
  omega
theorem atI_mapG {α β : Type} (f : α → β) (l : List α) (i : Int) : atI (l.map f) i = (atI l i).map f := by
  unfold atI
  rw [List.length_map]
  cases ixN l.length i with
  | none => rfl
  | some j => simp
theorem atI_prev (l : List Str) {i : Nat} (hi : i < l.length) : atI l ((0 : Int) + (i : Nat) - 1) = some (l.getD (prevAt l i) default) := by
  have key : ∀ j, j < l.length → l[j]? = some (l.getD j default) := fun j hj => by
    rw [List.getD_eq_getElem?_getD, List.getElem?_eq_getElem hj]
    rfl
  unfold prevAt
  by_cases h : i = 0
  · subst h
    rw [if_pos rfl]
    refine atI_e (l := l) ?_
    rw [List.getLast?_eq_getElem?]
    exact key _ (by omega)
  · rw [if_neg h]
    have e : (0 : Int) + (i : Nat) - 1 = ((i - 1 : Nat) : Int) := by omega
    rw [e]
    exact atI_n (key _ (by omega))
theorem atI_here (l : List Str) {i : Nat} (hi : i < l.length) : atI l ((0 : Int) + (i : Nat)) = some (l.getD i default) := by
  have e : (0 : Int) + (i : Nat) = ((i : Nat) : Int) := by omega
  rw [e]
  refine atI_n ?_
  rw [List.getD_eq_getElem?_getD, List.getElem?_eq_getElem hi]
  rfl
theorem dec_bef (o : List Str) (a b : Str) : decide (((o.idxOf a : Nat) : Int) < ((o.idxOf b : Nat) : Int)) = bef o a b := by
  unfold bef
  by_cases h : o.idxOf a < o.idxOf b
  · rw [decide_eq_true h, decide_eq_true (by omega)]
  · rw [decide_eq_false h, decide_eq_false (by omega)]
/-! lead_of(order, other, one, two) -/
abbrev R_lead_of : Prm := pureR fun ds k => ∃ (o o' : List Str) (a b : Str), ds = [tS o, tS o', .str a, .str b] ∧ (a ∈ o ∧ b ∈ o ∧ a ∈ o' ∧ b ∈ o') ∧ k (.int (lead o o' a b))
theorem ok_lead_of (G : Glob Tb base K mg C) : OkF Tb P w K mg base 2 "lead_of" ["order", "other", "one", "two"] R_lead_of := by
  refine okF_of 1 G.d_lead_of sc_lead_of (fun F => F.bindsN fun _ _ _ _ _ _ us hl => match us, hl with | [_, _, _, _], _ => rfl) (fun f cdv A outer s H E hr => ?_)
  have sc := sc_lead_of
  have hv := hv_of hr
  have hu := hu_of hr
  refine ⟨_, (pss_cons (ps_set (i := 4) sc.nd rfl (Or.inl rfl) (pe_cmpR op_lt (pe_tix (pv 0) (pa_cons (pv 2) pa_nil)) (pe_tix (pv 0) (pa_cons (pv 3) pa_nil)) (nomark _)))
  (pss_cons (ps_set (i := 5) sc.nd rfl (Or.inl rfl) (pe_cmpR op_lt (pe_tix (pv 1) (pa_cons (pv 2) pa_nil)) (pe_tix (pv 1) (pa_cons (pv 3) pa_nil)) (nomark _)))
  (pss_one (ps_ret (pe_op op_sub (pe_callTy cr_int1 (by rfl) G.f_int (by decide +kernel) (pa_cons (pv 4) pa_nil)) (pe_callTy cr_int1 (by rfl) G.f_int (by decide +kernel) (pa_cons (pv 5) pa_nil))))))), ?_⟩
  clear sc hu
  rintro δ ω Φ ⟨rfl, ds, rfl, o, o', a, b, rfl, ⟨h1, h2, h3, h4⟩, q⟩
  show RR Tb _ [.dt (tS o), .dt (tS o'), .dt (.str a), .dt (.str b), .un, .un] [] _
  walk_at "km"
  refine ⟨h1, ?_⟩
  walk_at "km"
  refine ⟨h2, ?_⟩
  walk_at "km"
  refine ⟨h3, ?_⟩
  walk_at "km"
  refine ⟨h4, ?_⟩
  walk_at "km"
  refine kx_intB ?_
  walk_at "km"
  refine kx_intB ?_
  walk_at "km"
  refine kp_end (Kp.refl _) ?_
  rw [dec_bef, dec_bef]
  exact q
/-! steps_forward(order, ring) -/
abbrev R_steps_forward : Prm := pureR fun ds k => ∃ (o l : List Str), ds = [tS o, tS l] ∧ (∀ y ∈ l, y ∈ o) ∧ l.length ≤ 1000 ∧ k (.int (stepsN o l : Nat))
theorem ok_steps_forward (G : Glob Tb base K mg C) : OkF Tb P w K mg base 2 "steps_forward" ["order", "ring"] R_steps_forward := by
  refine okF_of 1 G.d_steps_forward sc_steps_forward (fun F => F.bindsN fun _ _ _ _ _ _ us hl => match us, hl with | [_, _], _ => rfl) (fun f cdv A outer s H E hr => ?_)
  have sc := sc_steps_forward
  have hv := hv_of hr
  have hu := hu_of hr
  refine ⟨_, (pss_cons (ps_set (i := 2) sc.nd rfl (Or.inr rfl) (pe_lc (own := [("place", 3)]) (g := (gName 3)) rfl sc.nd (pi_tup (pv 1)) (blkOk_by (N := N_steps_forward) (sc := defScope s_steps_forward) (by decide +kernel)) (fun _ _ _ _ _ => (pg_name (i := 3) sc.nd rfl (Or.inl rfl))) (fun _ _ _ _ _ => pts_nil) (fun _ _ _ _ _ => (pe_tix (K0 := K) (pv 0) (pa_cons (pv 3) pa_nil)))))
  (pss_one (ps_ret (pe_callB cr_lenQ (by rfl) G.f_len (by decide +kernel) (pa_cons (pe_lc (own := [("at", 4)]) (g := (gName 4)) rfl sc.nd (pi_range1 rfl G.f_range (pa_cons (pe_callB cr_lenQ (by rfl) G.f_len (by decide +kernel) (pa_cons (pv 2) pa_nil)) pa_nil)) (blkOk_by (N := N_steps_forward) (sc := defScope s_steps_forward) (by decide +kernel)) (fun _ _ _ _ _ => (pg_name (i := 4) sc.nd rfl (Or.inl rfl))) (fun _ _ _ _ _ => pts_one (pt_cmpR op_lt (pe_ix (r := rIxL K) L2.ix_list (pv 2) (pe_op op_sub (pv 4) pe_int) (fun _ _ => rfl)) (pe_ix (r := rIxL K) L2.ix_list (pv 2) (pv 4) (fun _ _ => rfl)) (nomark _))) (fun _ _ _ _ _ => (pv 4))) pa_nil))))), ?_⟩
  clear sc hu
  rintro δ ω Φ ⟨rfl, ds, rfl, o, l, rfl, hs, hf, q⟩
  show RR Tb _ [.dt (tS o), .dt (tS l), .un, .un, .un] [] _
  refine rr_cut (fun δ' ω' => ∃ p, δ' = [.dt (tS o), .dt (tS l), .pt p, .un, .un] ∧ ω' = [(p, .ls ((l.map o.idxOf).map fun i : Nat => PyData.int i))]) ?_ ?_
  · walk_at "km"
    refine ex_lcM T PyData.str str_inj (fun i : Nat => PyData.int i) l (fun y => some (o.idxOf y)) ?_
    walk_at "km"
    refine ⟨by first | rfl | trivial, by omega, fun _ => True.intro, fun y hy => ?_, fun p => ?_⟩
    · walk_at "km"
      intro D acc
      walk_at "km"
      refine ⟨hs y hy, ?_⟩
      walk_at "km"
      exact ⟨trivial, Kp.refl _⟩
    · walk_at "km"
      rw [filterMap_some]
      try exact ⟨p, rfl, rfl⟩
  · rintro δ' ω' ⟨p, rfl, rfl⟩
    walk_at "km"
    refine ex_lcM T (fun i : Nat => PyData.int ((0 : Int) + (i : Nat))) nat_inj (fun i : Nat => PyData.int ((0 : Int) + (i : Nat))) (List.range l.length) (fun i => if bef o (l.getD (prevAt l i) default) (l.getD i default) = true then some i else none) ?_
    walk_at "km"
    refine kx_lenL _ isLs_hd ?_
    walk_at "km"
    have hlen : (List.map (fun i : Nat => PyData.int i) (List.map (fun a => List.idxOf a o) l)).length = l.length := by simp
    rw [hlen]
    refine ⟨by omega, by omega, by rw [toNat_len]; rfl, by rw [List.length_range]; omega, fun _ => True.intro, fun i hi => ?_, fun p2 => ?_⟩
    · have hi' : i < l.length := List.mem_range.mp hi
      walk_at "km"
      intro D acc
      walk_at "km"
      refine ox_ixLM _ (isLs_tl isLs_hd) (z := o.idxOf (l.getD (prevAt l i) default)) (by rw [atI_mapG, atI_prev l hi']; rfl) ?_
      walk_at "km"
      refine ox_ixLM _ (isLs_tl isLs_hd) (z := o.idxOf (l.getD i default)) (by rw [atI_mapG, atI_here l hi']; rfl) ?_
      walk_at "km"
      rw [dec_bef]
      cases e : bef o (l.getD (prevAt l i) default) (l.getD i default) with
      | true =>
        walk_at "kms"
        walk_at "km"
        exact ⟨trivial, Kp.refl _⟩
      | false =>
        walk_at "kms"
        exact ⟨by simp, Kp.refl _⟩
    · walk_at "km"
      refine kx_lenL _ isLs_hd ?_
      walk_at "km"
      refine kp_end (Kp.cons (Kp.cons (Kp.refl _))) ?_
      rw [List.length_map, filterMap_if, prog_steps]
      exact q
end Km
/-! Text KmF6 -/
namespace Km
open PySem PySem.Spec PyProof.Rows L2 LamX
local macro_rules
  | `(tactic| walk_at "km1") => `(tactic| first
    | ((with_reducible apply ex_v); (focus rfl); (focus rfl))
    | with_reducible refine ex_int ?_
    | with_reducible refine ex_str ?_
    | with_reducible refine ex_bl ?_
    | with_reducible refine ex_non ?_
    | with_reducible refine ex_op ?_
    | with_reducible refine ex_un ?_
    | with_reducible refine ux_neg ?_
    | with_reducible refine ox_i0I ?_
    | with_reducible refine ox_i0B ?_
    | with_reducible refine ex_tup ?_
    | with_reducible refine ex_lst ?_
    | with_reducible refine ex_slT _ ?_
    | with_reducible refine ex_slL _ ?_
    | with_reducible refine px_none ?_
    | with_reducible refine px_some ?_
    | with_reducible refine ea_nil ?_
    | with_reducible refine ea_cons ?_
    | with_reducible refine ex_isi _ ?_
    | with_reducible refine ex_cb ?_
    | with_reducible refine ex_isN ?_
    | with_reducible refine ex_notN ?_
    | with_reducible refine ex_chain ?_
    | with_reducible refine ex_if ?_
    | with_reducible refine ex_and ?_
    | with_reducible refine ex_or ?_
    | with_reducible refine ex_not ?_
    | with_reducible refine ex_tix _ ?_
    | with_reducible refine ex_goD ?_
    | with_reducible refine ex_goN ?_
    | with_reducible refine ex_goF ?_
    | with_reducible refine ex_dget ?_
    | with_reducible refine ex_din ?_
    | with_reducible refine ex_dnotin ?_
    | with_reducible refine ex_dnew ?_
    | with_reducible refine et_test ?_
    | with_reducible refine et_val ?_
    | with_reducible refine et_and ?_
    | with_reducible refine et_or ?_
    | with_reducible refine et_not ?_
    | with_reducible refine et_yes ?_
    | with_reducible refine rr_seq ?_
    | with_reducible refine rr_asg ?_
    | with_reducible refine rr_ret ?_
    | with_reducible refine rr_retN ?_
    | with_reducible refine rr_drop ?_
    | with_reducible refine rr_if ?_
    | with_reducible refine rr_par ?_
    | with_reducible refine rr_next ?_
    | with_reducible refine rr_break ?_
    | with_reducible refine ix_tup _ ?_
    | with_reducible refine ix_range1 ?_
    | with_reducible refine ix_range2 ?_
    | with_reducible refine ix_down ?_
    | with_reducible refine ix_str ?_
    | with_reducible refine ix_keys ?_
    | with_reducible refine nb_dt ?_
    | with_reducible refine nb_pt ?_
    | with_reducible refine lc_name (by simp) ?_
    | with_reducible refine lc_pair (by simp) (by simp) ?_
    | with_reducible refine lc_new (by simp) (by simp) ?_
    | with_reducible refine for_name ?_
    | with_reducible refine for_pair ?_
    | with_reducible refine for_new ?_
    | with_reducible refine tup0 ?_
    | with_reducible refine tup1 ?_
    | with_reducible refine tup2 ?_
    | with_reducible refine tup3 ?_
    | with_reducible refine arg1 ?_
    | with_reducible refine arg2 ?_
    | with_reducible refine arg3 ?_
    | with_reducible refine arg4 ?_
    | with_reducible refine ⟨_, rfl, ?_⟩
    | with_reducible refine ⟨_, _, rfl, ?_⟩)
local macro_rules
  | `(tactic| walk_at "kms") => `(tactic| try simp (maxSteps := 2000) only [wipeS, List.map_cons, List.map_nil, List.set_cons_zero, List.set_cons_succ, Bool.false_eq_true, Bool.not_true, Bool.not_false, reduceIte])
local macro_rules
  | `(tactic| walk_at "km") => `(tactic| repeat (walk_at "km1"; walk_at "kms"))
local macro_rules
  | `(tactic| walk_at "kp") => `(tactic| repeat (first | exact Kp.refl _ | refine Kp.cons2 ?_ | refine Kp.cons ?_))
local macro_rules
  | `(tactic| walk_at "ls") => `(tactic| repeat (first | exact isLs_hd | exact isLs_bo | refine isLs_tl ?_))

variable {Tb : List (Addr × Str)} {P : Program} {w : World} {K : PySem.W.Frag} {mg : Str → Option Value} {base : Heap} {C : Addr}
theorem isi_d {ω : Om} {X : Bool → Prop} {d : PyData} {n : String} (b : Bool) (h : kitB (tyD d) n = some b) (q : X b) : ((∃ d', Sl.dt d = .dt d') ∨ ∃ ds, IsLs ω (.dt d) ds) ∧ ∃ b, kitB (tyS (.dt d)) n = some b ∧ X b :=
  ⟨.inl ⟨d, rfl⟩, b, h, q⟩
theorem kit_ii : kitB "int" "int" = some true := by decide +kernel
theorem kit_ib : kitB "int" "bool" = some false := by decide +kernel
theorem kit_tt : kitB "tuple" "tuple" = some true := by decide +kernel
theorem kit_ss : kitB "str" "str" = some true := by decide +kernel
theorem kit_ll : kitB "list" "list" = some true := by decide +kernel
theorem kit_nt : kitB "NoneType" "tuple" = some false := by decide +kernel
/-! is_integer(thing) -/
abbrev R_is_integer : Prm := pureR fun ds k => ∃ i : Int, ds = [.int i] ∧ k (.bool true)
theorem ok_is_integer (G : Glob Tb base K mg C) : OkF Tb P w K mg base 2 "is_integer" ["thing"] R_is_integer := by
  refine okF_of 1 G.d_is_integer sc_is_integer (fun F => F.bindsN fun _ _ _ _ _ _ us hl => match us, hl with | [_], _ => rfl) (fun f cdv A outer s H E hr => ?_)
  have sc := sc_is_integer
  have hv := hv_of hr
  have hu := hu_of hr
  refine ⟨_, (pss_one (ps_ret (pe_and (pe_callB call_isi (by rfl) G.f_isinstance (by decide +kernel) (pa_cons (pv 0) (pa_cons (pe_bltn (v := .ty "int") (by rfl) G.f_int (by decide +kernel) rfl) pa_nil))) (pe_one (pe_not (pe_callB call_isi (by rfl) G.f_isinstance (by decide +kernel) (pa_cons (pv 0) (pa_cons (pe_bltn (v := .ty "bool") (by rfl) G.f_bool (by decide +kernel) rfl) pa_nil)))))))), ?_⟩
  clear sc hu
  rintro δ ω Φ ⟨rfl, ds, rfl, i, rfl, q⟩
  show RR Tb _ [.dt (.int i)] [] _
  walk_at "km"
  refine isi_d true kit_ii ?_
  walk_at "km"
  refine isi_d false kit_ib ?_
  walk_at "km"
  exact kp_end (Kp.refl _) q
/-! is_row_of(thing, least, most) -/
abbrev R_is_row_of : Prm := pureR fun ds k => ∃ (es : List PyData) (a b : Int), ds = [.tuple es, .int a, .int b] ∧ a ≤ (es.length : Nat) ∧ ((es.length : Nat) : Int) ≤ b ∧ k (.bool true)
theorem ok_is_row_of (G : Glob Tb base K mg C) : OkF Tb P w K mg base 2 "is_row_of" ["thing", "least", "most"] R_is_row_of := by
  refine okF_of 1 G.d_is_row_of sc_is_row_of (fun F => F.bindsN fun _ _ _ _ _ _ us hl => match us, hl with | [_, _, _], _ => rfl) (fun f cdv A outer s H E hr => ?_)
  have sc := sc_is_row_of
  have hv := hv_of hr
  have hu := hu_of hr
  refine ⟨_, (pss_one (ps_ret (pe_and (pe_callB call_isi (by rfl) G.f_isinstance (by decide +kernel) (pa_cons (pv 0) (pa_cons (pe_bltn (v := .ty "tuple") (by rfl) G.f_tuple (by decide +kernel) rfl) pa_nil))) (pe_one (pe_chain op_le op_le (pv 1) (pe_callB cr_lenQ (by rfl) G.f_len (by decide +kernel) (pa_cons (pv 0) pa_nil)) (pv 2)))))), ?_⟩
  clear sc hu
  rintro δ ω Φ ⟨rfl, ds, rfl, es, a, b, rfl, h1, h2, q⟩
  show RR Tb _ [.dt (.tuple es), .dt (.int a), .dt (.int b)] [] _
  walk_at "km"
  refine isi_d true kit_tt ?_
  walk_at "km"
  refine kx_lenT _ ?_
  walk_at "km"
  rw [decide_eq_true h1]
  walk_at "kms"
  walk_at "km"
  rw [decide_eq_true h2]
  walk_at "kms"
  walk_at "km"
  exact kp_end (Kp.refl _) q
/-! is_name(thing) -/
theorem names_ok : ∀ z ∈ theNames, 1 ≤ z.length ∧ z.length ≤ 8 ∧ PyData.strOk z = true ∧ (∃ c, z.cps.toList[0]? = some c ∧ c ∈ ("abcdefghijklmnopqrstuvwxyz" : Str).cps.toList) ∧ ∀ c ∈ z.cps.toList, c ∈ ("abcdefghijklmnopqrstuvwxyz" : Str).cps.toList ∨ c ∈ ("0123456789" : Str).cps.toList := by
  have h : theNames.all (fun z => decide (1 ≤ z.length) && decide (z.length ≤ 8) && PyData.strOk z && (match z.cps.toList[0]? with | some c => decide (c ∈ ("abcdefghijklmnopqrstuvwxyz" : Str).cps.toList) | none => false) && z.cps.toList.all fun c => decide (c ∈ ("abcdefghijklmnopqrstuvwxyz" : Str).cps.toList) || decide (c ∈ ("0123456789" : Str).cps.toList)) = true := by decide +kernel
  intro z hz
  have q := List.all_eq_true.mp h z hz
  simp only [Bool.and_eq_true, decide_eq_true_eq, List.all_eq_true, Bool.or_eq_true] at q
  obtain ⟨⟨⟨⟨q1, q2⟩, q3⟩, q4⟩, q5⟩ := q
  refine ⟨q1, q2, q3, ?_, q5⟩
  split at q4
  · rename_i c hc
    exact ⟨c, hc, by simpa using q4⟩
  · cases q4
theorem ox_sign {ω : Om} {Φ : Sl → Om → Prop} {c : Nat} {z : Str} (q : Φ (.dt (.bool (decide (c ∈ z.cps.toList)))) ω) : OX Tb (fun x y H Q => ∃ (c : Nat) (z : Str), x = V.str ⟨#[c]⟩ ∧ y = V.str z ∧ Q (.bl (decide (c ∈ z.cps.toList))) H) (.dt (.str ⟨#[c]⟩)) (.dt (.str z)) ω Φ := fun B H x y Q S k1 k2 k =>
  ⟨c, z, k1.data.strv, k2.data.strv, k _ _ ω H q (TupEx.refl H) (slDt (.bl _)) S⟩
theorem ox_nosign {ω : Om} {Φ : Sl → Om → Prop} {c : Nat} {z : Str} (q : Φ (.dt (.bool (!decide (c ∈ z.cps.toList)))) ω) : OX Tb (fun x y H Q => ∃ (c : Nat) (z : Str), x = V.str ⟨#[c]⟩ ∧ y = V.str z ∧ Q (.bl (!decide (c ∈ z.cps.toList))) H) (.dt (.str ⟨#[c]⟩)) (.dt (.str z)) ω Φ := fun B H x y Q S k1 k2 k =>
  ⟨c, z, k1.data.strv, k2.data.strv, k _ _ ω H q (TupEx.refl H) (slDt (.bl _)) S⟩
theorem sign_inj : ∀ a b : Nat, PyData.str ⟨#[a]⟩ = PyData.str ⟨#[b]⟩ → a = b := fun a b h => by
  have h2 := PyData.str.inj h
  simpa using h2
abbrev R_is_name : Prm := pureR fun ds k => ∃ z : Str, ds = [.str z] ∧ z ∈ theNames ∧ k (.bool true)
theorem ok_is_name (G : Glob Tb base K mg C) : OkF Tb P w K mg base 2 "is_name" ["thing"] R_is_name := by
  refine okF_of 1 G.d_is_name sc_is_name (fun F => F.bindsN fun _ _ _ _ _ _ us hl => match us, hl with | [_], _ => rfl) (fun f cdv A outer s H E hr => ?_)
  have sc := sc_is_name
  have hv := hv_of hr
  have hu := hu_of hr
  refine ⟨_, (pss_cons (ps_if (PW.pt (pw_or (pt_not (pt_val (pe_callB call_isi (by rfl) G.f_isinstance (by decide +kernel) (pa_cons (pv 0) (pa_cons (pe_bltn (v := .ty "str") (by rfl) G.f_str (by decide +kernel) rfl) pa_nil))))) (pw_or (pt_not (pt_chain op_le op_le pe_int (pe_callB cr_lenT (by rfl) G.f_len (by decide +kernel) (pa_cons (pv 0) pa_nil)) (pe_glob (v := .int 8) (by rfl) G.g_MOST_SIGNS.choose_spec.1 G.g_MOST_SIGNS.choose_spec.2))) (pw_or1 (pt_cmpR op_notIn_sign (pe_ix L2.ix_str (pv 0) pe_int (fun _ _ => rfl)) (pe_glob (v := .str "abcdefghijklmnopqrstuvwxyz") (by rfl) G.g_LETTERS.choose_spec.1 G.g_LETTERS.choose_spec.2) (by rfl)))))) (pss_one (ps_ret pe_bl)) pss_nil)
  (pss_one (ps_ret (pe_callB (cr_all rfl) (by rfl) G.f_all (by decide +kernel) (pa_cons (pe_lc (own := [("sign", 1)]) (g := (gName 1)) rfl sc.nd (pi_str (pv 0)) (blkOk_by (N := N_is_name) (sc := defScope s_is_name) (by decide +kernel)) (fun _ _ _ _ _ => (pg_name (i := 1) sc.nd rfl (Or.inl rfl))) (fun _ _ _ _ _ => pts_nil) (fun _ _ _ _ _ => (pe_or (pe_cmpR op_in_sign (pv 1) (pe_glob (v := .str "abcdefghijklmnopqrstuvwxyz") (by rfl) G.g_LETTERS.choose_spec.1 G.g_LETTERS.choose_spec.2) (by rfl)) (pe_one (pe_cmpR op_in_sign (pv 1) (pe_glob (v := .str "0123456789") (by rfl) G.g_DIGITS.choose_spec.1 G.g_DIGITS.choose_spec.2) (by rfl)))))) pa_nil))))), ?_⟩
  clear sc hu
  rintro δ ω Φ ⟨rfl, ds, rfl, z, rfl, hz, q⟩
  obtain ⟨z1, z2, z3, ⟨c0, z4, z5⟩, z6⟩ := names_ok z hz
  show RR Tb _ [.dt (.str z), .un] [] _
  have zl : z.length ≤ sizeLine := few_line (by omega)
  refine rr_cut (fun δ' ω' => δ' = [.dt (.str z), .un] ∧ ω' = []) ?_ ?_
  · walk_at "km"
    refine isi_d true kit_ss ?_
    walk_at "km"
    refine kx_lenS zl ?_
    walk_at "km"
    rw [decide_eq_true (show (1 : Int) ≤ (z.length : Nat) by omega)]
    walk_at "kms"
    walk_at "km"
    rw [decide_eq_true (show ((z.length : Nat) : Int) ≤ 8 by omega)]
    walk_at "kms"
    walk_at "km"
    refine ox_ixS zl (c := c0) (atI_n (j := 0) z4) ?_
    walk_at "km"
    refine ox_nosign ?_
    rw [decide_eq_true z5]
    walk_at "kms"
    walk_at "km"
    exact ⟨trivial, trivial⟩
  · rintro δ' ω' ⟨rfl, rfl⟩
    walk_at "km"
    refine ex_lcM T (fun c : Nat => PyData.str ⟨#[c]⟩) sign_inj PyData.bool z.cps.toList (fun _ => some true) ?_
    walk_at "km"
    refine ⟨by first | rfl | trivial, ?_, fun _ => True.intro, fun c hc => ?_, fun p => ?_⟩
    · have : z.cps.toList.length = z.length := rfl
      omega
    · walk_at "km"
      intro D acc
      walk_at "km"
      refine ox_sign ?_
      by_cases h2 : c ∈ ("abcdefghijklmnopqrstuvwxyz" : Str).cps.toList
      · rw [decide_eq_true h2]
        walk_at "km"
        exact ⟨trivial, Kp.refl _⟩
      · rw [decide_eq_false h2]
        walk_at "km"
        refine ox_sign ?_
        rw [decide_eq_true ((z6 c hc).resolve_left h2)]
        walk_at "km"
        exact ⟨trivial, Kp.refl _⟩
    · walk_at "km"
      rw [filterMap_some]
      refine kx_all _ (bs := z.cps.toList.map fun _ => true) (by simpa using isLs_hd) ?_
      walk_at "km"
      have e : ((z.cps.toList.map fun _ => true).all id) = true := by simp
      rw [e]
      exact kp_end (Kp.cons (Kp.refl _)) q
end Km
/-! Text KmF7 -/
namespace Km
open PySem PySem.Spec PyProof.Rows L2 LamX
local macro_rules
  | `(tactic| walk_at "km1") => `(tactic| first
    | ((with_reducible apply ex_v); (focus rfl); (focus rfl))
    | with_reducible refine ex_int ?_
    | with_reducible refine ex_str ?_
    | with_reducible refine ex_bl ?_
    | with_reducible refine ex_non ?_
    | with_reducible refine ex_op ?_
    | with_reducible refine ex_un ?_
    | with_reducible refine ux_neg ?_
    | with_reducible refine ox_i0I ?_
    | with_reducible refine ox_i0B ?_
    | with_reducible refine ex_tup ?_
    | with_reducible refine ex_lst ?_
    | with_reducible refine ex_slT _ ?_
    | with_reducible refine ex_slL _ ?_
    | with_reducible refine px_none ?_
    | with_reducible refine px_some ?_
    | with_reducible refine ea_nil ?_
    | with_reducible refine ea_cons ?_
    | with_reducible refine ex_isi _ ?_
    | with_reducible refine ex_cb ?_
    | with_reducible refine ex_isN ?_
    | with_reducible refine ex_notN ?_
    | with_reducible refine ex_chain ?_
    | with_reducible refine ex_if ?_
    | with_reducible refine ex_and ?_
    | with_reducible refine ex_or ?_
    | with_reducible refine ex_not ?_
    | with_reducible refine ex_tix _ ?_
    | with_reducible refine ex_goD ?_
    | with_reducible refine ex_goN ?_
    | with_reducible refine ex_goF ?_
    | with_reducible refine ex_dget ?_
    | with_reducible refine ex_din ?_
    | with_reducible refine ex_dnotin ?_
    | with_reducible refine ex_dnew ?_
    | with_reducible refine et_test ?_
    | with_reducible refine et_val ?_
    | with_reducible refine et_and ?_
    | with_reducible refine et_or ?_
    | with_reducible refine et_not ?_
    | with_reducible refine et_yes ?_
    | with_reducible refine rr_seq ?_
    | with_reducible refine rr_asg ?_
    | with_reducible refine rr_ret ?_
    | with_reducible refine rr_retN ?_
    | with_reducible refine rr_drop ?_
    | with_reducible refine rr_if ?_
    | with_reducible refine rr_par ?_
    | with_reducible refine rr_next ?_
    | with_reducible refine rr_break ?_
    | with_reducible refine ix_tup _ ?_
    | with_reducible refine ix_range1 ?_
    | with_reducible refine ix_range2 ?_
    | with_reducible refine ix_down ?_
    | with_reducible refine ix_str ?_
    | with_reducible refine ix_keys ?_
    | with_reducible refine nb_dt ?_
    | with_reducible refine nb_pt ?_
    | with_reducible refine lc_name (by simp) ?_
    | with_reducible refine lc_pair (by simp) (by simp) ?_
    | with_reducible refine lc_new (by simp) (by simp) ?_
    | with_reducible refine for_name ?_
    | with_reducible refine for_pair ?_
    | with_reducible refine for_new ?_
    | with_reducible refine tup0 ?_
    | with_reducible refine tup1 ?_
    | with_reducible refine tup2 ?_
    | with_reducible refine tup3 ?_
    | with_reducible refine arg1 ?_
    | with_reducible refine arg2 ?_
    | with_reducible refine arg3 ?_
    | with_reducible refine arg4 ?_
    | with_reducible refine ⟨_, rfl, ?_⟩
    | with_reducible refine ⟨_, _, rfl, ?_⟩)
local macro_rules
  | `(tactic| walk_at "kms") => `(tactic| try simp (maxSteps := 2000) only [wipeS, List.map_cons, List.map_nil, List.set_cons_zero, List.set_cons_succ, Bool.false_eq_true, Bool.not_true, Bool.not_false, reduceIte])
local macro_rules
  | `(tactic| walk_at "km") => `(tactic| repeat (walk_at "km1"; walk_at "kms"))
local macro_rules
  | `(tactic| walk_at "kp") => `(tactic| repeat (first | exact Kp.refl _ | refine Kp.cons2 ?_ | refine Kp.cons ?_))
local macro_rules
  | `(tactic| walk_at "ls") => `(tactic| repeat (first | exact isLs_hd | exact isLs_bo | refine isLs_tl ?_))

variable {Tb : List (Addr × Str)} {P : Program} {w : World} {K : PySem.W.Frag} {mg : Str → Option Value} {base : Heap} {C : Addr}
theorem ifT {b : Bool} {A B : Prop} (h : b = true) (q : A) : if b = true then A else B := by
  rw [if_pos h]
  exact q
theorem ifF {b : Bool} {A B : Prop} (h : b = false) (q : B) : if b = true then A else B := by
  rw [h]
  exact q
/-! moves -/
def mvD : Mv → PyData
  | .swap i => .tuple [.str "swap", .int (i : Nat)]
  | .turn => .tuple [.str "turn"]
theorem ok_swap : PyData.strOk "swap" = true := by decide +kernel
theorem ok_turn : PyData.strOk "turn" = true := by decide +kernel
theorem ox_eqs {ω : Om} {Φ : Sl → Om → Prop} (K : PySem.W.Frag) {a b : Str} (ha : PyData.strOk a = true) (hb : PyData.strOk b = true) (q : Φ (.dt (.bool (decide (a = b)))) ω) : OX Tb (rEqD K) (.dt (.str a)) (.dt (.str b)) ω Φ :=
  ox_eqd K 1 (okd_s 1 ha) (okd_s 1 hb) (by decide) fun b' h => by
    have e : b' = decide (a = b) := dec_of (h.trans ⟨fun z => PyData.str.inj z, fun z => by rw [z]⟩)
    rw [e]
    exact q
theorem ox_nes {ω : Om} {Φ : Sl → Om → Prop} (K : PySem.W.Frag) {a b : Str} (ha : PyData.strOk a = true) (hb : PyData.strOk b = true) (q : Φ (.dt (.bool (!decide (a = b)))) ω) : OX Tb (rNeD K) (.dt (.str a)) (.dt (.str b)) ω Φ :=
  ox_ned K 1 (okd_s 1 ha) (okd_s 1 hb) (by decide) fun b' h => by
    have e : b' = decide (a = b) := dec_of (h.trans ⟨fun z => PyData.str.inj z, fun z => by rw [z]⟩)
    rw [e]
    exact q
theorem ox_eqi {ω : Om} {Φ : Sl → Om → Prop} (K : PySem.W.Frag) {a b : Int} (q : Φ (.dt (.bool (decide (a = b)))) ω) : OX Tb (rEqD K) (.dt (.int a)) (.dt (.int b)) ω Φ :=
  ox_eqd K 1 (okd_i 1) (okd_i 1) (by decide) fun b' h => by
    have e : b' = decide (a = b) := dec_of (h.trans ⟨fun z => PyData.int.inj z, fun z => by rw [z]⟩)
    rw [e]
    exact q
theorem ox_nei {ω : Om} {Φ : Sl → Om → Prop} (K : PySem.W.Frag) {a b : Int} (q : Φ (.dt (.bool (!decide (a = b)))) ω) : OX Tb (rNeD K) (.dt (.int a)) (.dt (.int b)) ω Φ :=
  ox_ned K 1 (okd_i 1) (okd_i 1) (by decide) fun b' h => by
    have e : b' = decide (a = b) := dec_of (h.trans ⟨fun z => PyData.int.inj z, fun z => by rw [z]⟩)
    rw [e]
    exact q
abbrev R_is_move : Prm := pureR fun ds k => ∃ (m : Mv) (n : Nat), ds = [mvD m, .int n] ∧ (∀ i, m = .swap i → i + 1 < n) ∧ k (.bool true)
theorem ok_is_move (G : Glob Tb base K mg C) : OkF Tb P w K mg base 3 "is_move" ["thing", "many"] R_is_move := by
  refine okF_of 2 G.d_is_move sc_is_move (fun F => F.bindsN fun _ _ _ _ _ _ us hl => match us, hl with | [_, _], _ => rfl) (fun f cdv A outer s H E hr => ?_)
  have sc := sc_is_move
  have hv := hv_of hr
  have hu := hu_of hr
  have ok_is_integer_ := ok_is_integer (Tb := Tb) (P := P) (w := w) (base := base) G
  refine ⟨_, (pss_cons (ps_if (PW.pt (pw_or (pt_not (pt_val (pe_callB call_isi (by rfl) G.f_isinstance (by decide +kernel) (pa_cons (pv 0) (pa_cons (pe_bltn (v := .ty "tuple") (by rfl) G.f_tuple (by decide +kernel) rfl) pa_nil))))) (pw_or (pt_not (pt_chain op_le op_le pe_int (pe_callB cr_lenQ (by rfl) G.f_len (by decide +kernel) (pa_cons (pv 0) pa_nil)) pe_int)) (pw_or1 (pt_not (pt_val (pe_callB call_isi (by rfl) G.f_isinstance (by decide +kernel) (pa_cons (pe_ix L2.ix_tup (pv 0) pe_int (fun _ _ => rfl)) (pa_cons (pe_bltn (v := .ty "str") (by rfl) G.f_str (by decide +kernel) rfl) pa_nil))))))))) (pss_one (ps_ret pe_bl)) pss_nil)
  (pss_cons (ps_if (pt_cmpR (op_eqD hr.units) (pe_callB cr_lenQ (by rfl) G.f_len (by decide +kernel) (pa_cons (pv 0) pa_nil)) pe_int (nomark _)) (pss_one (ps_ret (pe_cmpR (op_eqD hr.units) (pe_ix L2.ix_tup (pv 0) pe_int (fun _ _ => rfl)) pe_str (nomark _)))) pss_nil)
  (pss_one (ps_ret (pe_and (pe_cmpR (op_eqD hr.units) (pe_ix L2.ix_tup (pv 0) pe_int (fun _ _ => rfl)) pe_str (nomark _)) (pe_and (pe_go 1 ok_is_integer_ (hr.mono (by decide)) rfl (pa_cons (pe_ix L2.ix_tup (pv 0) pe_int (fun _ _ => rfl)) pa_nil)) (pe_one (pe_chain op_le op_lt pe_int (pe_ix L2.ix_tup (pv 0) pe_int (fun _ _ => rfl)) (pe_op op_sub (pv 1) pe_int))))))))), ?_⟩
  clear sc hu
  rintro δ ω Φ ⟨rfl, ds, rfl, m, n, rfl, hm, q⟩
  cases m with
  | turn =>
    show RR Tb _ [.dt (.tuple [.str "turn"]), .dt (.int n)] [] _
    walk_at "km"
    refine isi_d true kit_tt ?_
    walk_at "km"
    refine kx_lenT _ ?_
    walk_at "km"
    refine ifT (by rfl) ?_
    walk_at "km"
    first | refine ifF (by rfl) ?_ | refine ⟨_, rfl, ifF (by rfl) ?_⟩
    walk_at "km"
    refine ox_ixT _ (atI_n (j := 0) rfl) ?_
    refine isi_d true kit_ss ?_
    walk_at "km"
    refine kx_lenT _ ?_
    walk_at "km"
    refine ox_eqi _ ?_
    walk_at "km"
    refine ifT (by rfl) ?_
    walk_at "km"
    refine ox_ixT _ (atI_n (j := 0) rfl) ?_
    walk_at "km"
    refine ox_eqs _ ok_turn ok_turn ?_
    exact ⟨(fun _ z => nomatch z), kp_end (Kp.refl _) q⟩
  | swap i =>
    have hi := hm i rfl
    show RR Tb _ [.dt (.tuple [.str "swap", .int (i : Nat)]), .dt (.int n)] [] _
    walk_at "km"
    refine isi_d true kit_tt ?_
    walk_at "km"
    refine kx_lenT _ ?_
    walk_at "km"
    refine ifT (by rfl) ?_
    walk_at "km"
    first | refine ifF (by rfl) ?_ | refine ⟨_, rfl, ifF (by rfl) ?_⟩
    walk_at "km"
    refine ox_ixT _ (atI_n (j := 0) rfl) ?_
    refine isi_d true kit_ss ?_
    walk_at "km"
    refine kx_lenT _ ?_
    walk_at "km"
    refine ox_eqi _ ?_
    walk_at "km"
    refine ifF (by rfl) ?_
    walk_at "km"
    refine ox_ixT _ (atI_n (j := 0) rfl) ?_
    walk_at "km"
    refine ox_eqs _ ok_swap ok_swap ?_
    first | refine ifT (by rfl) ?_ | refine ⟨_, rfl, ifT (by rfl) ?_⟩
    walk_at "km"
    refine ox_ixT _ (atI_n (j := 1) rfl) ?_
    walk_at "km"
    refine ox_ixT _ (atI_n (j := 1) rfl) ?_
    walk_at "km"
    rw [decide_eq_true (show (0 : Int) ≤ (i : Nat) by omega)]
    walk_at "kms"
    walk_at "km"
    rw [decide_eq_true (show ((i : Nat) : Int) < (n : Nat) - 1 by omega)]
    exact kp_end (Kp.refl _) q
/-! behind_move(web, order, move) -/
abbrev R_behind_move : Prm := pureR fun ds k => ∃ (ps : List Str) (rs : List (Str × Str)) (o o' : List Str) (m : Mv), ds = [webD ps rs, tS o, mvD m] ∧ WebV ps rs ∧ o.Perm ps ∧ appMv rs o m = some o' ∧ k (tS o')
theorem ok_behind_move (G : Glob Tb base K mg C) : OkF Tb P w K mg base 4 "behind_move" ["web", "order", "move"] R_behind_move := by
  refine okF_of 3 G.d_behind_move sc_behind_move (fun F => F.bindsN fun _ _ _ _ _ _ us hl => match us, hl with | [_, _, _], _ => rfl) (fun f cdv A outer s H E hr => ?_)
  have sc := sc_behind_move
  have hv := hv_of hr
  have hu := hu_of hr
  have ok_are_apart_ := ok_are_apart (Tb := Tb) (P := P) (w := w) (base := base) G
  have ok_exchanged_ := ok_exchanged (Tb := Tb) (P := P) (w := w) (base := base) G
  have ok_turned_ := ok_turned (Tb := Tb) (P := P) (w := w) (base := base) G
  refine ⟨_, (pss_cons (ps_if (pt_cmpR (op_eqD hr.units) (pe_ix L2.ix_tup (pv 2) pe_int (fun _ _ => rfl)) pe_str (nomark _)) (pss_one (ps_ret (pe_go 1 ok_turned_ (hr.mono (by decide)) rfl (pa_cons (pv 1) pa_nil)))) pss_nil)
  (pss_cons (ps_if (pt_not (pt_val (pe_go 3 ok_are_apart_ (hr.mono (by decide)) rfl (pa_cons (pv 0) (pa_cons (pe_ix L2.ix_tup (pv 1) (pe_ix L2.ix_tup (pv 2) pe_int (fun _ _ => rfl)) (fun _ _ => rfl)) (pa_cons (pe_ix L2.ix_tup (pv 1) (pe_op op_add (pe_ix L2.ix_tup (pv 2) pe_int (fun _ _ => rfl)) pe_int) (fun _ _ => rfl)) pa_nil)))))) (pss_one (ps_ret pe_non)) pss_nil)
  (pss_one (ps_ret (pe_go 2 ok_exchanged_ (hr.mono (by decide)) rfl (pa_cons (pv 1) (pa_cons (pe_ix L2.ix_tup (pv 2) pe_int (fun _ _ => rfl)) pa_nil))))))), ?_⟩
  clear sc hu
  rintro δ ω Φ ⟨rfl, ds, rfl, ps, rs, o, o', m, rfl, W, ho, ha, q⟩
  have hol := ho.length_eq
  have p5 := W.p5
  cases m with
  | turn =>
    have e : turned o = o' := Option.some.inj ha
    show RR Tb _ [.dt (webD ps rs), .dt (tS o), .dt (.tuple [.str "turn"])] [] _
    walk_at "km"
    refine ox_ixT _ (atI_n (j := 0) rfl) ?_
    walk_at "km"
    refine ox_eqs _ ok_turn ok_turn ?_
    first | refine ifT (by rfl) ?_ | refine ⟨_, rfl, ifT (by rfl) ?_⟩
    walk_at "km"
    refine ⟨by unfold few; omega, ?_⟩
    rw [e]
    exact ⟨(fun _ z => nomatch z), kp_end (Kp.refl _) q⟩
  | swap i =>
    obtain ⟨u, a, b, v, rfl, rfl, hadj, rfl⟩ := app_swap_inv ha
    have ma : a ∈ ps := ho.mem_iff.mp (by simp)
    have mb : b ∈ ps := ho.mem_iff.mp (by simp)
    show RR Tb _ [.dt (webD ps rs), .dt (tS (u ++ a :: b :: v)), .dt (.tuple [.str "swap", .int (u.length : Nat)])] [] _
    walk_at "km"
    refine ox_ixT _ (atI_n (j := 0) rfl) ?_
    walk_at "km"
    refine ox_eqs _ ok_swap ok_turn ?_
    first | refine ifF (by decide) ?_ | refine ⟨_, rfl, ifF (by decide) ?_⟩
    walk_at "km"
    refine ox_ixT _ (atI_n (j := 1) rfl) ?_
    refine ox_ixM _ (z := a) (atI_n (by simp)) ?_
    walk_at "km"
    refine ox_ixT _ (atI_n (j := 1) rfl) ?_
    walk_at "km"
    refine ox_ixM _ (z := b) (atI_s (by simp)) ?_
    walk_at "km"
    refine ⟨ps, rs, a, b, rfl, W.lr, W.law a ma, W.law b mb, ?_⟩
    rw [hadj]
    walk_at "km"
    refine ox_ixT _ (atI_n (j := 1) rfl) ?_
    walk_at "km"
    refine ⟨u, a, b, v, rfl, ?_, ?_⟩
    · unfold few
      simp only [List.length_append, List.length_cons] at hol
      omega
    · exact ⟨(fun _ z => nomatch z), kp_end (Kp.refl _) q⟩
end Km
/-! Text KmLam -/
/-! min(t, key=lambda y: ..), t a tuple: the lambda is made, called on each item, let go. -/
namespace Km
open PySem PySem.Spec PyProof.Rows L2 LamX
/-- one parameter, captured names, globals -/
structure LamY (sc scope : Scope) (y : Str) : Prop where
  kind : scope.kind = .function
  co : scope.isCoroutine = false
  gen : scope.isGenerator = false
  loc : scope.names.lookup y = some .local
  own : ∀ z ∈ scope.names, z.2 ≠ .cell ∧ (z.2 = .local → z.1 = y)
  free : ∀ z ∈ scope.names, z.2 = .free → sc.names.lookup z.1 = some .cell ∨ sc.names.lookup z.1 = some .free
/-- the context of its body, entered at s -/
def lamY (X : Cx) (A : Around) (s : Shared) (H : Hp) (scope : Scope) (y : Str) (f c' : Addr) : Cx where
  prog := X.prog
  w := X.w
  K := X.K
  mg := X.mg
  base := X.base
  A := A.deeper (lamEnv X scope s.heap.objs.size f c')
  N := X.N ++ [y]
  s_0 := s
  H_0 := H
  env := lamEnv X scope s.heap.objs.size f c'
  outer := X.stack
  stack := lamEnv X scope s.heap.objs.size f c' :: X.stack
  ex := []
  fn := fun _ => false
  calm := true
  pn := []
  xe := fun e s' => wpAny (model X.prog X.w) (A.deeper (lamEnv X scope s.heap.objs.size f c')) (leaving (lamEnv X scope s.heap.objs.size f c') e) (fun _ _ => False) (fun _ _ => False) s'
section
variable {X : Cx} {pins : List (Addr × Obj)} {σ : L2.St} {H : Hp} {s : Shared}
theorem lamY_start {A : Around} {scope : Scope} {y : Str} {f c' : Addr} {g : Heap} {tk : Nat} {v : V} {u : Value} (I : Inv X pins σ H s) (L : LamY X.env.scope scope y) (new : y ∉ X.N) (e0 : Env0 X.prog X.w X.K X.mg X.base A X.stack s H) (hd : A.handled = none)
    (ns : g.Ns s.heap.objs.size fun z => [(y, u)].reverse.lookup z) (kp : ∀ b o, s.heap.get? b = some o → g.get? b = some o) (r : RelV v u) : Inv (lamY X A s H scope y f c') [] (σ ++ [some v]) H { s with heap := g, toks := tk } := by
  have hfree : ∀ z ∈ scope.names, z.2 = .free → ∃ c, X.env.cells.lookup z.1 = some c := fun z hz e => (L.free z hz e).elim (fun k => I.ok.has _ (.inl k)) fun k => I.ok.has _ (.inr k)
  have back : ∀ {z c}, (cloFrom X.env.cells scope.names []).lookup z = some c → X.env.cells.lookup z = some c := fun {z c} e => by
    rcases cloFrom_mem (PySem.mem_of_lookup e) with m | ⟨h1, h2⟩
    · cases m
    · obtain ⟨c1, hc⟩ := hfree _ h1 rfl
      have hc : X.env.cells.lookup z = some c1 := hc
      rw [h2, hc]; rfl
  have fwd : ∀ {z}, scope.names.lookup z = some .free → ∃ c, (cloFrom X.env.cells scope.names []).lookup z = some c := fun {z} hl => mem_lookup (cloFrom_has (cells := X.env.cells) (acc := []) (PySem.mem_of_lookup hl))
  have cells : ∀ {c : Addr} {v : Option Value}, s.heap.IsCell c v → g.IsCell c v := fun {c v} ⟨o, ho, hd⟩ => ⟨o, kp _ _ ho, hd⟩
  have none_ex : ∀ b : Addr, b ∉ (lamY X A s H scope y f c').ex := fun b z => nomatch (show b ∈ ([] : List Addr) from z)
  have hlen : X.N.length = σ.length := I.len.symm
  refine ⟨⟨e0.mod, L.kind, rfl, rfl, Nat.le_refl _, fun a b c e1 e2 => I.ok.inj a b c (back e1) (back e2), fun a ha => ?_, fun a c z _ => (nomatch (show false = true from z)), fun _ => hd, Around.frames_deeper e0.frames, .inr ⟨rfl, rfl⟩, fun b z => absurd z (none_ex b), e0.bs, e0.bsz, fun b _ _ => none_ex b,
      fun b z => absurd z (none_ex b), e0.funs, e0.frf⟩,
    rfl, e0.bare, Un.kept kp, ⟨_, ns, fun i a x e1 e2 e3 => ?_⟩, fun a c e => ?_, e0.hok.fresh (Nat.le_refl _), fun a c e => I.freeC a c (back e), fun q hq => (nomatch (show q ∈ ([] : List (Addr × Obj)) from hq)), e0.hok.kept kp, ?_⟩
  · have ha : scope.names.lookup a = some .cell ∨ scope.names.lookup a = some .free := ha
    exact ha.elim (fun k => absurd rfl (L.own _ (PySem.mem_of_lookup k)).1) fun k => fwd k
  · have e1 : (X.N ++ [y])[i]? = some a := e1
    have e3 : Vis scope a := e3
    rcases Nat.lt_or_ge i X.N.length with lt | ge
    · rw [List.getElem?_append_left lt] at e1
      rw [List.getElem?_append_left (by omega)] at e2
      rcases e3 with k | k | k
      · have e : a = y := (L.own _ (PySem.mem_of_lookup k)).2 rfl
        exact absurd (e ▸ List.mem_of_getElem? e1) new
      · exact absurd rfl (L.own _ (PySem.mem_of_lookup k)).1
      · obtain ⟨m, _, hl⟩ := I.loc
        have vis : Vis X.env.scope a := (L.free _ (PySem.mem_of_lookup k) rfl).elim (fun k => .inr (.inl k)) fun k => .inr (.inr k)
        obtain ⟨w', rr, q⟩ := hl i a x e1 e2 vis
        obtain ⟨c2, h2⟩ := fwd k
        refine ⟨w', rr, .inr ⟨.inr k, c2, h2, ?_⟩⟩
        have c1 := back h2
        rcases q with ⟨k', _⟩ | ⟨_, c3, e', z⟩
        · have k' : X.env.scope.names.lookup a = some .local := k'
          rcases L.free _ (PySem.mem_of_lookup k) rfl with k2 | k2 <;> rw [show X.env.scope.names.lookup a = _ from k2] at k' <;> cases k'
        · rw [c1] at e'
          cases e'
          exact cells z
    · have hi : i = X.N.length := by
        have q := (List.getElem?_eq_some_iff.mp e1).1
        rw [List.length_append, List.length_singleton] at q
        omega
      subst hi
      rw [List.getElem?_append_right (Nat.le_refl _), Nat.sub_self] at e1
      rw [hlen, List.getElem?_append_right (Nat.le_refl _), Nat.sub_self] at e2
      cases e1
      cases e2
      exact ⟨u, r, .inl ⟨L.loc, by simp [List.lookup]⟩⟩
  · obtain ⟨w', z⟩ := I.cell a c (back e)
    exact ⟨w', cells z⟩
  · show (σ ++ [some v]).length = (X.N ++ [y]).length
    rw [List.length_append, List.length_append, I.len]; rfl
/-- the lambda, called -/
theorem lamY_call {A : Around} {params : Arguments} {body : Expr} {scope : Scope} {y : Str} {f c' : Addr} {pm ctv : Value} {k : Nat} {tb : TE} {v : V} {u : Value} {Q : VK} (I : Inv X pins σ H s) (L : LamY X.env.scope scope y) (new : y ∉ X.N)
    (hf : s.heap.get? f = some (PySem.W.kla_obj "<lambda>" (X.env.qual ++ "<lambda>") params body scope (cloFrom X.env.cells scope.names []) pm c' ctv)) (hc : H c' = some (CodeO c' (X.env.qual ++ "<lambda>")))
    (hbind : bindArgs (PySem.W.kla_fn "<lambda>" (X.env.qual ++ "<lambda>") params body scope (cloFrom X.env.cells scope.names []) pm (.ref c') ctv) ⟨[u], []⟩ = pure [(y, u)])
    (e0 : Env0 X.prog X.w X.K X.mg X.base A X.stack s H) (hr : Room (k + 1) A) (hb : Room k (A.deeper (lamEnv X scope s.heap.objs.size f c')) → PE (lamY X A s H scope y f c') body tb) (r : RelV v u) (h : tb (σ ++ [some v]) H Q) :
    wpAny (model X.prog X.w) A (call (.ref f) [u]) (fun x s' => CE X.stack X.prog X.w H s Q x s') (fun _ _ => False) s := by
  obtain ⟨⟨oc, vs, t, hoc, hdc, hvc⟩, _, _⟩ := I.hok c' _ hc
  have run : codeAny (model X.prog X.w) A (.call (.ref f) ⟨[u], []⟩) (CR CX0 X.stack X.prog X.w H s Q E0) s := by
    refine PySem.W.kla_callFunE hr.depth hf rfl L.co L.gen rfl ⟨c', oc, vs, t, rfl, hoc, hdc, hvc⟩ ?_
    rw [hbind]
    refine wpAny_pure (wpAny_newFunctionEnv (fun z hz => (L.own z hz).1) (fun z hz => by rw [List.mem_singleton.mp hz]; exact L.loc) (fun g ns sb => ⟨I.nolimit.fresh _ sb, ?_⟩) L.kind)
    show codeAny _ _ (.expr body (lamEnv X scope s.heap.objs.size f c')) _ _
    have kp : ∀ b o, s.heap.get? b = some o → g.get? b = some o := fun b o e => sb.extBut b o (Nat.ne_of_lt (Heap.lt_size e)) (Heap.get?_push_of_some _ e)
    have J := lamY_start (f := f) (c' := c') (tk := s.toks + [(y, u)].length) I L new e0 hr.hd ns kp r
    refine PySem.W.kla_codeExpr (wpAny_mono ((hb (hr.deeper _)).run [] _ _ H Q J h) (fun x s' hq => ?_) fun e s' hq => hq)
    obtain ⟨w', H', J', rv, q⟩ := hq
    exact ⟨w', H', J'.os, J'.bare, J'.base, J'.hok, rv, q⟩
  refine wpAny_call (codeAny_mono run fun x s' hq => ?_)
  cases x with
  | error e => exact (show False from hq).elim
  | ok fl =>
    cases fl with
    | ret x => exact hq
    | next => exact False.elim hq
    | brk => exact False.elim hq
    | cont => exact False.elim hq

/-! ### made -/
theorem lam_new {T : List (Addr × Str)} {c Pt : Addr} {params : Arguments} {body : Expr} {scope : Scope} {pos : Pos} {E : Value → Shared → Prop} {Q : Value → Shared → Prop} (I : Inv X pins σ H s) (TB : TabB X.base X.mg c Pt) (hcode : X.env.code = .ref c)
    (hT1 : T = [(Pt, X.env.qual ++ "<lambda>")]) (hT : Tabs T H) (hdef : defaultsOf params X.env = ([], [])) (hfree : ∀ z ∈ scope.names, z.2 = .free → ∃ c, X.env.cells.lookup z.1 = some c)
    (h : ∀ (f c' : Addr) (pm ctv : Value) (H1 : Hp) (s' : Shared), Inv X pins σ H1 s' → Ext H H1 → Tabs T H1 →
      s'.heap.get? f = some (PySem.W.kla_obj "<lambda>" (X.env.qual ++ "<lambda>") params body scope (cloFrom X.env.cells scope.names []) pm c' ctv) → H1 f = none → f ∉ frs X.stack → f < s'.heap.objs.size → H1 c' = some (CodeO c' (X.env.qual ++ "<lambda>")) → Q (.ref f) s') :
    wpAny (model X.prog X.w) X.A (eval (.Lambda params body scope pos) X.env) Q E s := by
  subst hT1
  obtain ⟨ps, hP, tri, all⟩ := hT _ (List.mem_singleton.mpr rfl)
  have hP : H Pt = some (.tbl ps) := hP
  have bm := TB.bm.keeps I.bk
  have atP : s.heap.get? Pt = some { cls := .none, data := .fields ps } := I.hok Pt _ hP
  have out : ∀ f, s.heap.objs.size ≤ f → f ∉ frs X.stack := fun f hf z => by
    rcases List.mem_cons.mp (I.stkSub _ z) with e | e
    · have lt := I.lt
      rw [← e] at lt
      exact Nat.lt_irrefl _ (Nat.lt_of_lt_of_le lt hf)
    · exact I.nofs hf e
  refine PySem.W.kla_eval hdef ?_
  cases hc : codeAmong pos ps.toList with
  | some cv =>
    obtain ⟨c', rfl, hco⟩ := all pos cv hc
    refine PySem.W.kla_makeFunctionHit (mg := X.mg) (c := c) (P := Pt) (ps := ps) (closure_ok hfree) I.ok.glob (I.mod.glob.keeps I.bk) hcode (TB.code.keeps I.bk) atP tri hc bm fun ctv g tk hx hsz => ?_
    exact h g.objs.size c' ((X.mg "__name__").getD .none) ctv H _ (I.kept fun b o e => Heap.get?_push_of_some _ (hx b o e)) (Ext.refl H) hT (Heap.get?_push_size _ rfl) (I.hok.fresh hsz) (out _ hsz) (Heap.lt_size (Heap.get?_push_size _ rfl)) hco
  | none =>
    refine PySem.W.kla_makeFunction (mg := X.mg) (c := c) (P := Pt) (ps := ps) (closure_ok hfree) I.ok.glob (I.mod.glob.keeps I.bk) hcode (TB.code.keeps I.bk) atP tri hc TB.gP bm fun c' ctv g tk hx hge hlt hrec htb => ?_
    obtain ⟨c2, oc, vs, t, e2, hoc, hd, hv⟩ := hrec
    cases e2
    have sz : s.heap.objs.size ≤ g.objs.size := Nat.le_trans hge (Nat.le_of_lt hlt)
    have nC : H c' = none := I.hok.fresh hge
    have nPc : Pt ≠ c' := ne_of_none hP nC
    have I1 := inv_table (t' := tk) (more := #[rawInt pos.line, rawInt pos.col, .ref c']) (h' := g.push (PySem.W.kla_obj "<lambda>" (X.env.qual ++ "<lambda>") params body scope (cloFrom X.env.cells scope.names []) ((X.mg "__name__").getD .none) c' ctv)) I hP
      (fun b o hb e => Heap.get?_push_of_some _ (hx b o hb e)) (Heap.get?_push_of_some _ htb) hge ⟨oc, vs, t, Heap.get?_push_of_some _ hoc, hd, hv⟩
    have there : ∀ b, b ≠ c' → b ≠ Pt → upd (upd H Pt (.tbl (ps ++ #[rawInt pos.line, rawInt pos.col, .ref c']))) c' (CodeO c' (X.env.qual ++ "<lambda>")) b = H b := fun b h1 h2 => by rw [upd_ne h1, upd_ne h2]
    have atP1 : upd (upd H Pt (.tbl (ps ++ #[rawInt pos.line, rawInt pos.col, .ref c']))) c' (CodeO c' (X.env.qual ++ "<lambda>")) Pt = some (.tbl (ps ++ #[rawInt pos.line, rawInt pos.col, .ref c'])) := by rw [upd_ne nPc, upd_same]
    have ext : Ext H (upd (upd H Pt (.tbl (ps ++ #[rawInt pos.line, rawInt pos.col, .ref c']))) c' (CodeO c' (X.env.qual ++ "<lambda>"))) := by
      refine ⟨fun b o e n => ?_, fun b qs e => ?_⟩
      · rw [there b (ne_of_none e nC) fun z => n ps (Option.some.inj (e.symm.trans (by rw [z]; exact hP)))]
        exact e
      · by_cases hb : b = Pt
        · rw [hb]; exact ⟨_, atP1⟩
        · exact ⟨qs, by rw [there b (ne_of_none e nC) hb]; exact e⟩
    refine h g.objs.size c' ((X.mg "__name__").getD .none) ctv _ _ I1 ext (fun p hp => ?_) (Heap.get?_push_size _ rfl) ?_ (out _ sz) (Heap.lt_size (Heap.get?_push_size _ rfl)) upd_same
    · rw [List.mem_singleton.mp hp]
      have eL : (ps ++ #[rawInt pos.line, rawInt pos.col, .ref c']).toList = ps.toList ++ [rawInt pos.line, rawInt pos.col, .ref c'] := by simp
      refine ⟨_, atP1, by rw [eL]; exact PySem.TriplesOk_snoc _ _ _ _ tri, fun p' cv hcv => ?_⟩
      rw [eL] at hcv
      rcases among_app _ tri hcv with z | z
      · obtain ⟨c0, e1, e2⟩ := all p' cv z
        exact ⟨c0, e1, ext.ex _ _ e2 codeO_ne⟩
      · exact ⟨c', z, upd_same⟩
    · rw [there _ (Nat.ne_of_gt hlt) (Nat.ne_of_gt (Nat.lt_of_lt_of_le (Heap.lt_size atP) sz))]
      exact I.hok.fresh sz

/-! ### min walks -/
theorem min_walk {A : Around} {l q I S : Addr} {items : Array Value} {fo : Obj} (kf : Nat → Int) (hh : A.handled = none) (tup : ∀ s, Inv X pins σ H s → s.heap.IsTuple l items) (fI : FpOk X pins H I) (fS : FpOk X pins H S) (fr : I ∉ frs X.stack ∧ S ∉ frs X.stack ∧ q ∉ frs X.stack) (hq : H q = none)
    (ne : I ≠ S ∧ l ≠ I ∧ q ≠ I ∧ q ≠ S)
    (turn : ∀ (i : Nat) (v : Value) (s : Shared), items[i]? = some v → Inv X pins σ H s → s.heap.get? q = some fo → wpAny (model X.prog X.w) A.in1 (call (.ref q) [v]) (fun x s' => CE X.stack X.prog X.w H s (fun r H' => r = .int (kf i) ∧ H' = H) x s') (fun _ _ => False) s)
    {R : Result → Shared → Prop} (done : ∀ i v s, items[i]? = some v → (∀ j, j < items.size → kf i ≤ kf j) → Inv X pins σ H s → R (.ok (.ret v)) s) :
    ∀ (m j i : Nat) (s : Shared) (vb : Value) (tb : Tok) (n : Nat), items.size - j = m → j ≤ items.size → Inv X pins σ H s → s.heap.get? q = some fo → s.heap.IsTupleIter I l j → s.heap.get? S = some (seqObj "list" #[vb, .int (kf i) tb] n) →
      items[i]? = some vb → (∀ j', j' < j → kf i ≤ kf j') → codeAny (model X.prog X.w) A (.builtin "min.loop" ⟨[.ref I, .ref q, .ref S], []⟩) R s := by
  have name : (toString "min" ++ toString ".loop" : String) = "min.loop" := by decide
  have W := Walks.tuple (prog := X.prog) (w := X.w) (A := A.in1) hh I l ne.2.1 items
  intro m
  induction m with
  | zero =>
    intro j i s vb tb n hm hj IV hfo it hS hvb best
    obtain rfl : j = items.size := by omega
    refine codeAny_builtin PySem.F.entry_min_loop ?_; rw [Around.under_plainId PySem.F.plain_min_loop _]
    show wpAny _ _ (seqItems? (.ref S) >>= _) _ _ _
    refine wpAny_bind (wpAny_seqItems hS rfl ?_)
    show wpAny _ _ (tryCatch (pyNext (.ref I)) _ >>= _) _ _ _
    refine wpAny_bind (wpAny_tryCatch (W.done s _ _ ⟨it, tup s IV⟩ fun g tk kp => ?_))
    have IV1 : Inv X pins σ H { s with heap := g, toks := tk } := IV.turnedL (ch := [I]) kp fun b hb => by rw [List.mem_singleton.mp hb]; exact fI
    have hS1 := kp S _ (fun z => ne.1 (List.mem_singleton.mp z).symm) hS
    have sb := Heap.SameBut.update g S (Obj.mapSeq fun _ => (#[] : Array Value))
    show wpAny _ _ (updateSeq S (fun _ => #[]) >>= _) _ _ _
    refine wpAny_bind (wpAny_updateSeq hS1 rfl (wpAny_bind (wpAny_letGo (wpAny_pure ?_))))
    exact done i vb _ hvb best (IV1.turnedL (t' := tk) (ch := [S]) (fun b o hb e => (sb.2 b fun z => hb (List.mem_singleton.mpr z)).trans e) fun b hb => by rw [List.mem_singleton.mp hb]; exact fS)
  | succ m ih =>
    intro j i s vb tb n hm hj IV hfo it hS hvb best
    have hlt : j < items.size := by omega
    refine codeAny_builtin PySem.F.entry_min_loop ?_; rw [Around.under_plainId PySem.F.plain_min_loop _]
    show wpAny _ _ (seqItems? (.ref S) >>= _) _ _ _
    refine wpAny_bind (wpAny_seqItems hS rfl ?_)
    show wpAny _ _ (tryCatch (pyNext (.ref I)) _ >>= _) _ _ _
    refine wpAny_bind (wpAny_tryCatch (W.item j s _ _ hlt ⟨it, tup s IV⟩ fun v g tk hv it2 kp => ?_))
    have IV1 : Inv X pins σ H { s with heap := g, toks := tk } := IV.turnedL (ch := [I]) kp fun b hb => by rw [List.mem_singleton.mp hb]; exact fI
    have hS1 := kp S _ (fun z => ne.1 (List.mem_singleton.mp z).symm) hS
    have hfo1 := kp q _ (fun z => ne.2.2.1 (List.mem_singleton.mp z)) hfo
    obtain ⟨oI, g1, g2, g3⟩ := id it2.1
    show wpAny _ _ (tryCatch (holding [v] (call (.ref q) [v])) _ >>= _) _ _ _
    refine wpAny_bind (wpAny_tryCatch (wpAny_holding (wpAny_mono (turn j v { s with heap := g, toks := tk } hv IV1 hfo1) (fun x s2 hx => ?_) fun _ _ z => z.elim)))
    obtain ⟨r, H', os, bare, un, hok, rv, rfl, rfl⟩ := hx
    have rv' := rv
    obtain ⟨t2, rfl⟩ := (rv' : ∃ t, x = Value.int (kf j) t)
    have hS2 := un.keep S _ hS1 fS.1 fr.2.1 (by simp)
    have hI2 := un.keep I _ g1 fI.1 fr.1 (by simp)
    have hfo2 := un.keep q _ hfo1 hq fr.2.2 (by simp)
    obtain ⟨rr, H2, IV2, _, rfl, rfl⟩ := IV1.after (Q := fun r H'' => r = .int (kf j) ∧ H'' = H') ⟨_, _, os, bare, un, hok, rv, rfl, rfl⟩
    show wpAny _ _ (tryCatch (holding [v, .int (kf j) t2] (richCompare .Lt (.int (kf j) t2) (.int (kf i) tb) >>= _)) _ >>= _) _ _ _
    refine wpAny_bind (wpAny_tryCatch (wpAny_holding (wpAny_bind (CmpOf.ints_lt (prog := X.prog) (w := X.w) (A := A.in1) (P := fun i v => ∃ t, v = .int (kf i) t) kf (fun i v h => h) j i _ _ _ _ _ ⟨t2, rfl⟩ ⟨tb, rfl⟩ ?_))))
    refine wpAny_bind (wpAny_holding (wpAny_truthy_bool ?_))
    refine wpAny_bind (wpAny_letGo (wpAny_pure ?_))
    by_cases less : kf j < kf i
    · simp only [less, decide_true, if_true]
      have sb := Heap.SameBut.update s2.heap S (Obj.mapSeq fun _ => #[v, .int (kf j) t2])
      obtain ⟨n2, hS3⟩ : ∃ n2, (s2.heap.update S (Obj.mapSeq fun _ => #[v, .int (kf j) t2])).get? S = some (seqObj "list" #[v, .int (kf j) t2] n2) := ⟨_, get?_update_seq hS2 fun _ => #[v, .int (kf j) t2]⟩
      refine wpAny_bind (wpAny_updateSeq hS2 rfl (wpAny_bind (wpAny_letGo ?_)))
      rw [name]
      refine wpAny_pure ⟨plainId_quiet PySem.F.plain_min_loop _, ih (j + 1) j _ v t2 n2 (by omega) hlt (IV2.turnedL (t' := s2.toks) (ch := [S]) (fun b o hb e => (sb.2 b fun z => hb (List.mem_singleton.mpr z)).trans e) fun b hb => by rw [List.mem_singleton.mp hb]; exact fS)
        ((sb.2 q ne.2.2.2).trans hfo2) ⟨oI, (sb.2 I ne.1).trans hI2, g2, g3⟩ hS3 hv fun j' hj' => ?_⟩
      rcases Nat.lt_or_ge j' j with c | c
      · exact Int.le_trans (Int.le_of_lt less) (best j' c)
      · obtain rfl : j' = j := by omega
        exact Int.le_refl _
    · simp only [less, decide_false, Bool.false_eq_true, if_false]
      refine wpAny_bind (wpAny_letGo ?_)
      rw [name]
      refine wpAny_pure ⟨plainId_quiet PySem.F.plain_min_loop _, ih (j + 1) i _ vb tb n (by omega) hlt IV2 hfo2 ⟨oI, hI2, g2, g3⟩ hS2 hvb fun j' hj' => ?_⟩
      rcases Nat.lt_or_ge j' j with c | c
      · exact best j' c
      · obtain rfl : j' = j := by omega
        omega
/-- min(t, key = q) -/
theorem min_key {A : Around} {l q : Addr} {items : Array Value} {fo : Obj} (kf : Nat → Int) (hh : A.handled = none) (IV : Inv X pins σ H s) (tup : ∀ s, Inv X pins σ H s → s.heap.IsTuple l items) (hne : 0 < items.size) (hfo : s.heap.get? q = some fo) (hq : H q = none) (fq : q ∉ frs X.stack)
    (turn : ∀ (i : Nat) (v : Value) (s : Shared), items[i]? = some v → Inv X pins σ H s → s.heap.get? q = some fo → wpAny (model X.prog X.w) A.in1 (call (.ref q) [v]) (fun x s' => CE X.stack X.prog X.w H s (fun r H' => r = .int (kf i) ∧ H' = H) x s') (fun _ _ => False) s)
    {Q : Value → Shared → Prop} {E : Value → Shared → Prop} (done : ∀ i v s, items[i]? = some v → (∀ j, j < items.size → kf i ≤ kf j) → Inv X pins σ H s → Q v s) :
    wpAny (model X.prog X.w) A (call (.builtin "min") [.ref l] [(Str.ofString "key", .ref q)]) Q E s := by
  have name : (toString "min" ++ toString ".loop" : String) = "min.loop" := by decide
  have ht := tup s IV
  obtain ⟨ol, hol, _⟩ := id ht
  have ll := Heap.lt_size hol
  have lq := Heap.lt_size hfo
  have out : ∀ f, s.heap.objs.size ≤ f → f ∉ frs X.stack := fun f hf z => by
    rcases List.mem_cons.mp (IV.stkSub _ z) with e | e
    · have lt := IV.lt
      rw [← e] at lt
      exact Nat.lt_irrefl _ (Nat.lt_of_lt_of_le lt hf)
    · exact IV.nofs hf e
  refine kmk_tree PySem.F.kind_min PySem.F.plain_min PySem.F.entry_min (kmk_min_key _ _) ?_
  show wpAny _ _ (Builtin.Builtins.bindParams "min" ["key", "default"] 0 ⟨[], [(Str.ofString "key", .ref q)]⟩ >>= _) _ _ s
  refine wpAny_bind (wpAny_of_eq (show Builtin.Builtins.bindParams "min" ["key", "default"] 0 ⟨[], [(Str.ofString "key", .ref q)]⟩ = pure [some (.ref q), none] from rfl) ?_)
  refine wpAny_bind (wpAny_pure (wpAny_bind (wpAny_pyIter_tuple ht (wpAny_bind (wpAny_newList ?_ (Nat.zero_le _))))))
  rw [name]
  have e1 : (s.heap.push { cls := .type "tuple_iterator", data := .fields #[.ref l, .int 0 0] }).objs.size = s.heap.objs.size + 1 := size_push' ..
  refine wpAny_pure ⟨plainId_quiet PySem.F.plain_min_loop _, ?_⟩
  rw [e1]
  have kp : ∀ b o, s.heap.get? b = some o → ((s.heap.push { cls := .type "tuple_iterator", data := .fields #[.ref l, .int 0 0] }).push (seqObj "list" #[] 0)).get? b = some o := fun b o e => Heap.get?_push_of_some _ (Heap.get?_push_of_some _ e)
  have gI : ((s.heap.push { cls := .type "tuple_iterator", data := .fields #[.ref l, .int 0 0] }).push (seqObj "list" #[] 0)).get? s.heap.objs.size = some { cls := .type "tuple_iterator", data := .fields #[.ref l, .int 0 0] } := Heap.get?_push_of_some _ (Heap.get?_push_size _ rfl)
  have gS : ((s.heap.push { cls := .type "tuple_iterator", data := .fields #[.ref l, .int 0 0] }).push (seqObj "list" #[] 0)).get? (s.heap.objs.size + 1) = some (seqObj "list" #[] 0) := by rw [← e1]; exact Heap.get?_push_size _ rfl
  have IV0 : Inv X pins σ H { s with heap := (s.heap.push { cls := .type "tuple_iterator", data := .fields #[.ref l, .int 0 0] }).push (seqObj "list" #[] 0) } := IV.kept (t' := s.toks) kp
  have hfo0 := kp q _ hfo
  have fI : FpOk X pins H s.heap.objs.size := IV.fpOk (Nat.le_refl _) (IV.hok.fresh (Nat.le_refl _))
  have fS : FpOk X pins H (s.heap.objs.size + 1) := IV.fpOk (Nat.le_succ _) (IV.hok.fresh (Nat.le_succ _))
  have nIS : s.heap.objs.size ≠ s.heap.objs.size + 1 := Nat.ne_of_lt (Nat.lt_succ_self _)
  have W := Walks.tuple (prog := X.prog) (w := X.w) (A := A.in1) hh s.heap.objs.size l (Nat.ne_of_lt ll) items
  generalize ((s.heap.push { cls := .type "tuple_iterator", data := .fields #[.ref l, .int 0 0] }).push (seqObj "list" #[] 0)) = g0 at gI gS IV0 hfo0 ⊢
  refine codeAny_builtin PySem.F.entry_min_loop ?_; rw [Around.under_plainId PySem.F.plain_min_loop _]
  show wpAny _ _ (seqItems? (.ref _) >>= _) _ _ _
  refine wpAny_bind (wpAny_seqItems gS rfl ?_)
  show wpAny _ _ (tryCatch (pyNext (.ref s.heap.objs.size)) _ >>= _) _ _ _
  refine wpAny_bind (wpAny_tryCatch (W.item 0 _ _ _ hne ⟨⟨_, gI, rfl, rfl⟩, tup _ IV0⟩ fun v g tk hv it2 kp1 => ?_))
  have IV1 : Inv X pins σ H { s with heap := g, toks := tk } := Inv.turnedL (s := { s with heap := g0 }) (t' := tk) (ch := [s.heap.objs.size]) IV0 kp1 fun b hb => by rw [List.mem_singleton.mp hb]; exact fI
  have hS1 := kp1 _ _ (fun z => nIS (List.mem_singleton.mp z).symm) gS
  have hfo1 := kp1 q _ (fun z => absurd (List.mem_singleton.mp z) (Nat.ne_of_lt lq)) hfo0
  obtain ⟨oI, g1, g2, g3⟩ := id it2.1
  show wpAny _ _ (tryCatch (holding [v] (call (.ref q) [v])) _ >>= _) _ _ _
  refine wpAny_bind (wpAny_tryCatch (wpAny_holding (wpAny_mono (turn 0 v { s with heap := g, toks := tk } hv IV1 hfo1) (fun x s2 hx => ?_) fun _ _ z => z.elim)))
  obtain ⟨r, H', os, bare, un, hok, rv, rfl, rfl⟩ := hx
  have rv' := rv
  obtain ⟨t2, rfl⟩ := (rv' : ∃ t, x = Value.int (kf 0) t)
  have hS2 := un.keep _ _ hS1 fS.1 (out _ (Nat.le_succ _)) (by simp)
  have hI2 := un.keep _ _ g1 fI.1 (out _ (Nat.le_refl _)) (by simp)
  have hfo2 := un.keep q _ hfo1 hq fq (by simp)
  obtain ⟨rr, H2, IV2, _, rfl, rfl⟩ := IV1.after (Q := fun r H'' => r = .int (kf 0) ∧ H'' = H') ⟨_, _, os, bare, un, hok, rv, rfl, rfl⟩
  have sb := Heap.SameBut.update s2.heap (s.heap.objs.size + 1) (Obj.mapSeq fun _ => #[v, .int (kf 0) t2])
  obtain ⟨n2, hS3⟩ : ∃ n2, (s2.heap.update (s.heap.objs.size + 1) (Obj.mapSeq fun _ => #[v, .int (kf 0) t2])).get? (s.heap.objs.size + 1) = some (seqObj "list" #[v, .int (kf 0) t2] n2) := ⟨_, get?_update_seq hS2 fun _ => #[v, .int (kf 0) t2]⟩
  show wpAny _ _ (updateSeq (s.heap.objs.size + 1) (fun _ => #[v, .int (kf 0) t2]) >>= _) _ _ _
  refine wpAny_bind (wpAny_updateSeq hS2 rfl ?_)
  rw [name]
  refine wpAny_pure ⟨plainId_quiet PySem.F.plain_min_loop _, min_walk kf hh tup fI fS ⟨out _ (Nat.le_refl _), out _ (Nat.le_succ _), fq⟩ hq ⟨nIS, Nat.ne_of_lt ll, Nat.ne_of_lt lq, Nat.ne_of_lt (Nat.lt_succ_of_lt lq)⟩ turn done _ 1 0 _ v t2 n2 rfl hne
    (IV2.turnedL (t' := s2.toks) (ch := [s.heap.objs.size + 1]) (fun b o hb e => (sb.2 b fun z => hb (List.mem_singleton.mpr z)).trans e) fun b hb => by rw [List.mem_singleton.mp hb]; exact fS) ((sb.2 q (Nat.ne_of_lt (Nat.lt_succ_of_lt lq))).trans hfo2) ⟨oI, (sb.2 _ nIS).trans hI2, g2, g3⟩ hS3 hv fun j' hj' => ?_⟩
  obtain rfl : j' = 0 := by omega
  exact Int.le_refl _
end
end Km
/-! Text KmDt -/
/-! A dict whose keys are tuples that stand for good. -/
namespace Km
open PySem PySem.Spec PyProof.Rows L2 LamX
section
variable {X : Cx} {pins : List (Addr × Obj)} {σ : L2.St} {H : Hp} {s : Shared}
abbrev KD (X : Cx) := tupleKind (mixKind X.prog X.w)
theorem tu_key (I : Inv X pins σ H s) {a : Addr} {k : List Key} (t : Tu H a (k.map kV)) : (KD X).is s.heap k a := by
  obtain ⟨ob, h1, _⟩ := t
  obtain ⟨_, _, its, rel, o, h2, h3, n, h4⟩ := (show ObjOk X.prog X.w H s.heap a (.frz ob (.tup (k.map kV))) from I.hok a _ h1)
  exact ⟨o, its.toArray, n, h2, h3, h4, by simpa using items_are rel⟩
theorem dt_full (I : Inv X pins σ H s) {d : Addr} {xs : List (List Key × Addr × Value)} (hd : H d = some (.ext (DtO X.prog X.w d xs))) (ts : ∀ q ∈ xs, Tu H q.2.1 (q.1.map kV)) :
    (d == sysModules) = false ∧ xs.length ≤ sizeLine ∧ s.heap.DictOfH (KD X) d xs := by
  obtain ⟨⟨h1, h2, h3, o, es, ep, h4, h5, h6, h7⟩, _, _⟩ := I.hok d _ hd
  exact ⟨h1, h2, o, es, ep, h4, h5, h6, h7, fun q hq => tu_key I (ts q hq), h3⟩
theorem dt_ok {P : Program} {w : World} {H' : Hp} {g : Heap} {d : Addr} {xs : List (List Key × Addr × Value)} (h1 : (d == sysModules) = false) (h2 : xs.length ≤ sizeLine) (h : g.DictOfH (tupleKind (mixKind P w)) d xs) : ObjOk P w H' g d (.ext (DtO P w d xs)) := by
  obtain ⟨o, es, ep, h4, h5, h6, h7, _, h8⟩ := h
  refine ⟨⟨h1, h2, h8, o, es, ep, h4, h5, h6, h7⟩, ⟨o, h4⟩, ?_⟩
  rintro g1 g2 ⟨c1, c2, c3, o2, es2, ep2, c4, c5, c6, c7⟩ same
  exact ⟨c1, c2, c3, o2, es2, ep2, same o2 c4, c5, c6, c7⟩
/-- k in d, k not in d -/
def rInDt (P : Program) (w : World) (neg : Bool) : R2 := fun x y H Q => ∃ a d k xs, x = .ref a ∧ y = .ref d ∧ Tu H a (k.map kV) ∧ H d = some (.ext (DtO P w d xs)) ∧ (∀ q ∈ xs, Tu H q.2.1 (q.1.map kV)) ∧ Q (.bl (if neg then !(atKey xs k).isSome else (atKey xs k).isSome)) H
theorem op_inDt (hu : X.A.units + 1 < cLine) : OpR X (compareOp .In) (rInDt X.prog X.w false) := by
  rintro pins s σ H x y v u Q inv rx ry ⟨a, d, k, xs, rfl, rfl, t, hd, ts, fin⟩
  obtain rfl : v = Value.ref a := rx
  obtain rfl : u = Value.ref d := ry
  obtain ⟨h1, h2, h3⟩ := dt_full inv hd ts
  exact wpAny_in_heap (tupleKind_room_in1 hu) (tu_key inv t) h1 h3 ⟨.bl _, H, inv.tok _, rfl, fin⟩
theorem op_notInDt (hu : X.A.units + 1 < cLine) : OpR X (compareOp .NotIn) (rInDt X.prog X.w true) := by
  rintro pins s σ H x y v u Q inv rx ry ⟨a, d, k, xs, rfl, rfl, t, hd, ts, fin⟩
  obtain rfl : v = Value.ref a := rx
  obtain rfl : u = Value.ref d := ry
  obtain ⟨h1, h2, h3⟩ := dt_full inv hd ts
  exact wpAny_notIn_heap (tupleKind_room_in1 hu) (tu_key inv t) h1 h3 ⟨.bl _, H, inv.tok _, rfl, fin⟩
/-- d[k] = True, k a new key -/
def sPutT (P : Program) (w : World) (td tk tv : TE) : TS := fun D σ H => tv σ H fun v H1 => td σ H1 fun x H2 => tk σ H2 fun y H3 => ∃ a d k xs, v = .bl true ∧ x = .ref d ∧ y = .ref a ∧ Tu H3 a (k.map kV) ∧ H3 d = some (.ext (DtO P w d xs)) ∧
  (∀ q ∈ xs, Tu H3 q.2.1 (q.1.map kV)) ∧ atKey xs k = none ∧ xs.length < sizeLine ∧ D.nx σ (upd H3 d (.ext (DtO P w d (xs ++ [(k, a, .bool true)]))))
theorem ps_dputT {o i value : Expr} {td tk tv : TE} {pos pos' : Pos} (hu : X.A.units + 1 < cLine) (ho : PE X o td) (hi : PE X i tk) (hv : PE X value tv) (hs : swapsWith value (some (.Subscript o i pos')) pos.line X.env = pure false := by rfl) :
    PS X (.Assign [.Subscript o i pos'] value pos) (sPutT X.prog X.w td tk tv) := by
  constructor
  intro pins s σ H D inv want
  refine wpAny_Assign_Subscript (thn (hv.run pins s σ H _ inv want) ?_) hs
  rintro r s1 ⟨v, H1, inv1, rv, want1⟩
  refine thn (ho.run pins s1 σ H1 _ inv1 want1) ?_
  rintro u s2 ⟨x, H2, inv2, rx, want2⟩
  refine thn (hi.run pins s2 σ H2 _ inv2 want2) ?_
  rintro iv s3 ⟨y, H3, inv3, ry, a, d, k, xs, rfl, rfl, rfl, t, hd, ts, nw, few, fin⟩
  obtain rfl : r = Value.bool true := rv
  obtain rfl : u = Value.ref d := rx
  obtain rfl : iv = Value.ref a := ry
  obtain ⟨h1, h2, h3⟩ := dt_full inv3 hd ts
  refine wpAny_setItem_heap (hsz := h2) (tupleKind_room_in1 hu) (tu_key inv3 t) h3 fun g dd same => ?_
  rw [storedH_new nw] at dd
  have there : ∃ q, g.get? d = some q := by
    obtain ⟨q, _, _, hq, _⟩ := dd
    exact ⟨q, hq⟩
  refine ⟨σ, _, d_write inv3 (by rw [hd]; exact True.intro) same there (dt_ok h1 (by rw [List.length_append]; exact few) dd), fin⟩
/-- {k: True} -/
def tDispT (P : Program) (w : World) (tk tv : TE) : TE := fun σ H Q => ∀ p, H p = none → tk σ (upd H p (.ext (DtO P w p []))) fun x H1 => tv σ H1 fun y H2 => H2 p = some (.ext (DtO P w p [])) ∧
  ∃ a k, x = .ref a ∧ y = .bl true ∧ Tu H2 a (k.map kV) ∧ Q (.ref p) (upd H2 p (.ext (DtO P w p [(k, a, .bool true)])))
theorem pe_dispT {k v : Expr} {tk tv : TE} {pos : Pos} (hu : X.A.units + 1 < cLine) (hk : PE X k tk) (hv : PE X v tv) : PE X (.Dict [some k] [v] pos) (tDispT X.prog X.w tk tv) := by
  constructor
  intro pins s σ H Q inv want
  have free := inv.hok.fresh (Nat.le_refl s.heap.objs.size)
  have ns : (s.heap.objs.size == sysModules) = false := by
    exact beq_eq_false_iff_ne.mpr (Nat.ne_of_gt inv.big)
  have at0 : (s.heap.push { cls := .type "dict", data := .dict #[] }).get? s.heap.objs.size = some { cls := .type "dict", data := .dict #[] } := Heap.get?_push_size _ rfl
  have dd0 : (s.heap.push { cls := .type "dict", data := .dict #[] }).DictOfH (KD X) s.heap.objs.size [] :=
    ⟨_, #[], 0, at0, ⟨rfl, rfl, rfl⟩, rfl, rfl, (fun q hq => by cases hq), List.Pairwise.nil⟩
  have inv1 := inv.laid (a := s.heap.objs.size) (o := .ext (DtO X.prog X.w s.heap.objs.size [])) (h' := s.heap.push { cls := .type "dict", data := .dict #[] }) (t' := s.toks) (fun _ _ q => Heap.get?_push_of_some _ q) (Nat.le_refl _) (dt_ok ns (Nat.zero_le _) dd0)
  rw [arm_eval_Dict, zip_pairTrees [some k] [v] X.env pos rfl rfl, dictDisplay_pairs _ (by simp [pairTrees]) (by simp [pairTrees])]
  refine wpAny_bind (wpAny_standAt (wpAny_bind (wpAny_subDictH (knd := KD X) (Q := fun d s' => wpAny (model X.prog X.w) X.A (pure (Value.ref d)) (EP X pins σ Q) X.xe s') (show (KD X).room X.A from Nat.lt_of_succ_lt hu) (by simp [pairTrees]) (pairTrees_cons_walk (thn (hk.run pins _ σ _ _ inv1 (want _ free)) ?_)))))
  rintro u1 s1 ⟨x, H1, inv2, rx, want1⟩
  refine thn (hv.run pins s1 σ H1 _ inv2 want1) ?_
  rintro u2 s2 ⟨y, H2, inv3, ry, hp, a, ks, rfl, rfl, t, fin⟩
  obtain rfl : u1 = Value.ref a := rx
  obtain rfl : u2 = Value.bool true := ry
  refine pairTrees_nil_walk ⟨[(ks, a, .bool true)], ⟨rfl, rfl, tu_key inv3 t, trivial⟩, ?_, ?_⟩
  · exact (dt_full inv3 hp (fun q hq => by cases hq)).2.2
  · intro g tk2 dd same
    have dd : g.DictOfH (KD X) s.heap.objs.size [(ks, a, .bool true)] := dd
    have there : ∃ q, g.get? s.heap.objs.size = some q := by
      obtain ⟨q, _, _, hq, _⟩ := dd
      exact ⟨q, hq⟩
    exact wpAny_pure ⟨.ref s.heap.objs.size, _, d_write inv3 (by rw [hp]; exact True.intro) same there (dt_ok ns (by show 1 ≤ sizeLine; rw [sizeLine_eq]; decide) dd), rfl, fin⟩
/-- list(d) -/
def rListDt (P : Program) (w : World) : List V → Hp → VK → Prop := fun vs H Q => ∃ d xs, vs = [.ref d] ∧ H d = some (.ext (DtO P w d xs)) ∧ ∀ p, H p = none → Q (.ref p) (upd H p (.lst (xs.map fun q => .ref q.2.1)))
theorem cr_listDt (hc : X.calm = true) : CallR X (.type "list") (rListDt X.prog X.w) := by
  rintro pins s σ H vs us Q inv rel ⟨d, xs, rfl, hd, fin⟩
  obtain ⟨u, rfl, ru⟩ := rel.one
  obtain rfl : u = Value.ref d := ru
  obtain ⟨⟨h1, h2, h3, o, es, ep, ho, hx, hdt, he⟩, _, _⟩ := inv.hok d _ hd
  have l1 : es.size = xs.length := size_of_entries he
  refine PySem.W.kdl_call (kdl_raw h1 hx hdt) (inv.ok.hd hc) ho (by omega) fun g toks acc c kept isl it => ?_
  have ea : acc.toList = (xs.map fun q => q.2.1).map Value.ref := by
    have hl : acc.toList.length = xs.length := by rw [Array.length_toList, it.1]; exact l1
    apply List.ext_getElem?
    intro j
    rw [List.map_map, List.getElem?_map]
    cases hj : acc.toList[j]? with
    | none =>
      have q1 := List.getElem?_eq_none_iff.mp hj
      rw [List.getElem?_eq_none (by omega)]
      rfl
    | some v =>
      obtain ⟨en, hen, hv⟩ := it.2 j v (by rw [← Array.getElem?_toList]; exact hj)
      have qe := PySem.entry_at he j
      rw [hen] at qe
      cases hb : xs[j]? with
      | none => rw [hb] at qe; cases qe
      | some b =>
        rw [hb] at qe
        rw [hv, Option.some.inj qe]
        rfl
  have rv : Vals ((xs.map fun q => q.2.1).map V.ref) acc.toList := by rw [ea]; exact vals_refs _
  have e2 : ((xs.map fun q => q.2.1).map V.ref) = xs.map fun q => V.ref q.2.1 := by rw [List.map_map]; rfl
  rw [e2] at rv
  refine ⟨.ref s.heap.objs.size, _, inv.laid (t' := toks) (o := .lst (xs.map fun q => V.ref q.2.1)) kept (Nat.le_refl _) ?_, rfl, fin _ (inv.hok.fresh (Nat.le_refl _))⟩
  exact ⟨by rw [List.length_map]; exact h2, acc.toList, c, rv, by rw [Array.toArray_toList]; exact isl⟩
end
end Km
/-! Text KmDt2 -/
/-! .. in the small logic -/
namespace Km
open PySem PySem.Spec PyProof.Rows L2 LamX
section
variable {Tb : List (Addr × Str)} {te td tk tv : TE} {δ : List Sl} {ω : Om} {Φ : Sl → Om → Prop} {Q0 : Po} {P : Program} {w : World}
abbrev kS (l : List Str) : List Key := l.map Sum.inr
theorem kS_kV (l : List Str) : (kS l).map kV = l.map V.str := by
  rw [List.map_map]
  rfl
theorem kS_inj {l m : List Str} (h : kS l = kS m) : l = m := (List.map_inj_right (fun a b z => Sum.inr.inj z)).mp h
theorem T.tuS {H : Hp} {v : V} {l : List Str} (t : T H v (tS l)) : ∃ a, v = .ref a ∧ Tu H a ((kS l).map kV) := by
  obtain ⟨a, xs, rfl, h, ta⟩ := t.tupv
  rw [kS_kV, ← ta.strs]
  exact ⟨a, rfl, h⟩
theorem tS_of {H : Hp} {a : Addr} {l : List Str} (h : Tu H a ((kS l).map kV)) : T H (.ref a) (tS l) := by
  rw [kS_kV] at h
  exact .tup h (TAs.ofStrs l)
theorem atKey_some {K : Type} [DecidableEq K] (xs : List (K × Addr × Value)) (k : K) : (atKey xs k).isSome = decide (k ∈ xs.map (·.1)) := by
  unfold atKey
  rw [Option.isSome_map]
  induction xs with
  | nil => rfl
  | cons x xs ih =>
    by_cases h : x.1 = k
    · rw [List.find?_cons_of_pos (by simp [h])]
      simp [h]
    · rw [List.find?_cons_of_neg (by simp [h]), ih]
      have h' : ¬ k = x.1 := fun z => h z.symm
      simp [h']
theorem atKey_iff {K : Type} [DecidableEq K] (xs : List (K × Addr × Value)) (k : K) : (atKey xs k).isSome = true ↔ k ∈ xs.map (·.1) := by
  rw [atKey_some, decide_eq_true_eq]
theorem mem_kS {l : List Str} {ks : List (List Str)} : kS l ∈ ks.map kS ↔ l ∈ ks := by
  rw [List.mem_map]
  constructor
  · rintro ⟨m, hm, e⟩
    rw [← kS_inj e]
    exact hm
  · exact fun h => ⟨l, h, rfl⟩
theorem ext_tup {H : Hp} {d : Addr} {φ : Heap → Prop} {u : HO} (h : H d = some (.ext φ)) : TupEx H (upd H d u) := fun b o zs hz => by
  rw [upd_ne (fun z => by subst z; rw [h] at hz; cases hz)]
  exact hz
theorem ex_dispT (h : ∀ p, EX Tb tk δ ((p, .dT P w []) :: ω) fun s1 ω1 => EX Tb tv δ ω1 fun s2 ω2 => ∃ l, s1 = .dt (tS l) ∧ s2 = .dt (.bool true) ∧ ω2 = (p, .dT P w []) :: ω ∧ Φ (.pt p) ((p, .dT P w [l]) :: ω)) : EX Tb (tDispT P w tk tv) δ ω Φ := fun B σ H Q S k p hp => by
  have se := same_new (H := H) (o := .ext (DtO P w p [])) hp
  have S1 : Sees Tb B σ (upd H p (.ext (DtO P w p []))) δ ((p, .dT P w []) :: ω) := S.new se hp ⟨[], upd_same, rfl, (fun q hq => by cases hq)⟩
  refine h p B σ _ _ S1 fun x s1 ω1 H1 h1 e1 k1 p1 => h1 B σ H1 _ (S1.re e1 p1) fun y s2 ω2 H2 h2 e2 k2 p2 => ?_
  obtain ⟨l, rfl, rfl, rfl, q⟩ := h2
  obtain ⟨xs, h0, hx, _⟩ := (p2.obs _ (List.mem_cons_self ..)).1
  have ex : xs = [] := List.map_eq_nil_iff.mp hx
  subst ex
  obtain ⟨a, rfl, t⟩ := (k1.mono e2).data.tuS
  have te := ext_tup (u := .ext (DtO P w p [(kS l, a, .bool true)])) h0
  obtain ⟨p4, e4⟩ := p2.put (j := 0) (u := .ext (DtO P w p [(kS l, a, .bool true)])) (o' := .dT P w [l]) rfl ⟨_, upd_same, rfl, fun q hq => by
    rw [List.mem_singleton.mp hq]
    exact te.tu t⟩
  exact ⟨h0, a, kS l, rfl, k2.data.blv, t, k _ _ _ _ q ((((Ext.of se).tup.trans e1).trans e2).trans e4) rfl p4⟩
theorem ox_inDt {d : Addr} {l : List Str} {ks : List (List Str)} (m : (d, Ob.dT P w ks) ∈ ω) (q : Φ (.dt (.bool (decide (l ∈ ks)))) ω) : OX Tb (rInDt P w false) (.dt (tS l)) (.pt d) ω Φ := fun B H x y Q S k1 k2 k => by
  obtain ⟨a, rfl, t⟩ := k1.data.tuS
  obtain ⟨xs, h0, hx, ts⟩ := (S.obs _ m).1
  refine ⟨a, d, kS l, xs, rfl, k2.ref, t, h0, ts, ?_⟩
  have e : (atKey xs (kS l)).isSome = decide (l ∈ ks) := by
    rw [atKey_some, hx]
    exact decide_eq_decide.mpr mem_kS
  rw [if_neg (by decide), e]
  exact k _ _ ω H q (TupEx.refl H) (slDt (.bl _)) S
theorem ox_notInDt {d : Addr} {l : List Str} {ks : List (List Str)} (m : (d, Ob.dT P w ks) ∈ ω) (q : Φ (.dt (.bool (!decide (l ∈ ks)))) ω) : OX Tb (rInDt P w true) (.dt (tS l)) (.pt d) ω Φ := fun B H x y Q S k1 k2 k => by
  obtain ⟨a, rfl, t⟩ := k1.data.tuS
  obtain ⟨xs, h0, hx, ts⟩ := (S.obs _ m).1
  refine ⟨a, d, kS l, xs, rfl, k2.ref, t, h0, ts, ?_⟩
  have e : (atKey xs (kS l)).isSome = decide (l ∈ ks) := by
    rw [atKey_some, hx]
    exact decide_eq_decide.mpr mem_kS
  rw [if_pos rfl, e]
  exact k _ _ ω H q (TupEx.refl H) (slDt (.bl _)) S
theorem rr_dputT (j : Nat) (h : EX Tb tv δ ω fun s1 ω1 => EX Tb td δ ω1 fun s2 ω2 => EX Tb tk δ ω2 fun s3 ω3 => ∃ d ks l, s1 = .dt (.bool true) ∧ s2 = .pt d ∧ s3 = .dt (tS l) ∧ ω3[j]? = some (d, .dT P w ks) ∧ l ∉ ks ∧ ks.length < sizeLine ∧ Q0.nx δ (ω3.set j (d, .dT P w (ks ++ [l])))) : RR Tb (sPutT P w td tk tv) δ ω Q0 := fun B σ H D S q1 _ _ _ =>
  h B σ H _ S fun v s1 ω1 H1 h1 e1 k1 p1 => h1 B σ H1 _ (S.re e1 p1) fun x s2 ω2 H2 h2 e2 k2 p2 => h2 B σ H2 _ ((S.re e1 p1).re e2 p2) fun y s3 ω3 H3 h3 e3 k3 p3 => by
    obtain ⟨d, ks, l, rfl, rfl, rfl, hj, hn, hz, q⟩ := h3
    obtain ⟨xs, h0, hx, ts⟩ := (p3.obs _ (List.mem_of_getElem? hj)).1
    obtain ⟨a, rfl, t⟩ := k3.data.tuS
    have te := ext_tup (u := .ext (DtO P w d (xs ++ [(kS l, a, .bool true)]))) h0
    obtain ⟨p4, e4⟩ := p3.put (u := .ext (DtO P w d (xs ++ [(kS l, a, .bool true)]))) (o' := .dT P w (ks ++ [l])) hj ⟨_, upd_same, by rw [List.map_append, List.map_append, hx]; rfl, fun q hq => by
      rcases List.mem_append.mp hq with hq | hq
      · exact te.tu (ts q hq)
      · rw [List.mem_singleton.mp hq]
        exact te.tu t⟩
    have hl : xs.length = ks.length := by
      have := congrArg List.length hx
      simpa using this
    refine ⟨a, d, kS l, xs, k1.data.blv, k2.ref, rfl, t, h0, ts, ?_, by rw [hl]; exact hz, q1 _ _ _ _ q (((e1.trans e2).trans e3).trans e4) ((((S.re e1 p1).re e2 p2).re e3 p3).re e4 p4)⟩
    have e : (atKey xs (kS l)).isSome = false := by
      cases z : (atKey xs (kS l)).isSome with
      | false => rfl
      | true =>
        have z2 := (atKey_iff xs (kS l)).mp z
        rw [hx] at z2
        exact absurd (mem_kS.mp z2) hn
    cases z : atKey xs (kS l) with
    | none => rfl
    | some p => rw [z] at e; cases e
theorem kx_listDt {d : Addr} {ks : List (List Str)} (m : (d, Ob.dT P w ks) ∈ ω) (q : ∀ p, Φ (.pt p) ((p, .ls (ks.map tS)) :: ω)) : KX Tb (rListDt P w) [.pt d] ω Φ := fun B H vs Q S h k => by
  obtain ⟨v, rfl, hv⟩ := one_of h
  obtain ⟨xs, h0, hx, ts⟩ := (S.obs _ m).1
  refine ⟨d, xs, by rw [hv.ref], h0, fun p hp => ?_⟩
  have se := same_new (H := H) (o := .lst (xs.map fun q => V.ref q.2.1)) hp
  have te := (Ext.of se).tup
  have ta : ∀ (xs : List (List Key × Addr × Value)) (ks : List (List Str)), xs.map (·.1) = ks.map kS → (∀ q ∈ xs, Tu H q.2.1 (q.1.map kV)) → TAs H (xs.map fun q => V.ref q.2.1) (ks.map tS) := by
    intro xs
    induction xs with
    | nil =>
      intro ks h _
      rw [List.map_eq_nil_iff.mp h.symm]
      exact .nil
    | cons x xs ih =>
      intro ks h t
      cases ks with
      | nil => cases h
      | cons l ks =>
        rw [List.map_cons, List.map_cons] at h
        obtain ⟨h1, h2⟩ := List.cons.inj h
        have t0 := t x (List.mem_cons_self ..)
        rw [h1] at t0
        exact .cons (tS_of t0) (ih ks h2 fun q hq => t q (List.mem_cons_of_mem _ hq))
  exact k _ _ _ _ (q p) te rfl (S.new se hp ⟨_, upd_same, (ta xs ks hx ts).mono te⟩)
end
end Km
/-! Text KmSet -/
/-! A set that is made of tuples, no two of them alike: how many it holds. Only what such a making meets is told: each new tuple is not yet there. -/
namespace Km
open PySem PySem.Spec PyProof.Rows L2
section
variable {P : Program} {w : World} {A : Around} {E : Value → Shared → Prop} {s : Shared}
abbrev hK (P : Program) (w : World) (k : List Key) : Int := tupleKeyHash (mixKind P w) k
abbrev AtK (P : Program) (w : World) (h : Heap) (k : List Key) (a : Addr) : Prop := IsTupleKey (mixKind P w) h k a
/-- an int, a text: of no class statement, known by its value -/
def Bare (v : Value) : Prop := ∀ n, ofAClassStatement n v = pure false ∧ (hashByValue n v = pure true ∨ hashByValue n v = pure false)
theorem bare_key {k : Key} {v : Value} (h : keyIs k v = true) : Bare v := by
  rcases keyIs_shape h with ⟨i, t, _, rfl⟩ | ⟨x, t, _, rfl⟩
  · intro n
    cases n <;> exact ⟨rfl, .inl rfl⟩
  · intro n
    cases n <;> exact ⟨rfl, .inr rfl⟩
theorem bare_all {k : List Key} {vs : List Value} (h : ItemsAre (mixKind P w) k vs) : ∀ v ∈ vs, Bare v := by
  induction h with
  | nil => exact fun v hv => nomatch hv
  | cons h1 _ ih => exact fun v hv => (List.mem_cons.mp hv).elim (fun e => e ▸ bare_key h1) (ih v)
theorem ask_class {k : List Key} {b : Addr} {Q : Bool → Shared → Prop} (at_ : AtK P w s.heap k b) (q : Q false s) : wpAny (model P w) A (ofAClassStatement 8 (.ref b)) Q E s := by
  have ty := at_.typeIs
  obtain ⟨ob, vs, m, h1, _, h2, h3⟩ := at_
  have all := bare_all h3
  unfold ofAClassStatement
  refine wpAny_bind (wpAny_typeOf ty ?_)
  dsimp only
  rw [show (("tuple" : String) == "tuple") = true from by decide]
  try simp only [if_true, if_false, Bool.false_eq_true, Bool.not_true]
  show wpAny _ _ (seqItems? (.ref b) >>= _) _ _ s
  refine wpAny_bind (wpAny_seqItems h1 h2 ?_); dsimp only; refine wpAny_bind ?_
  show wpAny _ _ (forIn vs _ _) _ _ s; rw [← Array.forIn_toList]
  refine wpAny_forIn_list _ (fun l r t => (r.1 = none ∧ t = s) ∧ ∀ v ∈ l, Bare v) _ (fun v l r t => ?_) (fun r t => ?_) _ _ ⟨⟨rfl, rfl⟩, all⟩
  · rintro ⟨⟨hr, rfl⟩, hl⟩
    rw [(hl v (List.mem_cons_self ..) _).1]
    refine wpAny_bind (wpAny_pure ?_); simp only [if_false, Bool.false_eq_true]
    exact wpAny_pure ⟨⟨rfl, rfl⟩, fun u m => hl u (List.mem_cons_of_mem _ m)⟩
  · obtain ⟨r1, r2⟩ := r
    rintro ⟨⟨hr, rfl⟩, _⟩
    simp only at hr; subst hr
    exact wpAny_pure q
theorem ask_hash {k : List Key} {b : Addr} {Q : Bool → Shared → Prop} (at_ : AtK P w s.heap k b) (q : ∀ b, Q b s) : wpAny (model P w) A (hashByValue 8 (.ref b)) Q E s := by
  have ty := at_.typeIs
  obtain ⟨ob, vs, m, h1, _, h2, h3⟩ := at_
  have all := bare_all h3
  unfold hashByValue
  refine wpAny_bind (wpAny_specialOf ty F.slot_tuple_hash.lookup ?_)
  show wpAny _ _ (seqItems? (.ref b) >>= _) _ _ s
  refine wpAny_bind (wpAny_seqItems h1 h2 ?_); refine wpAny_bind ?_
  show wpAny _ _ (forIn vs _ _) _ _ s; rw [← Array.forIn_toList]
  refine wpAny_forIn_list _ (fun l r t => t = s ∧ ∀ v ∈ l, Bare v) _ (fun v l r t => ?_) (fun r t => ?_) _ _ ⟨rfl, all⟩
  · rintro ⟨rfl, hl⟩
    rcases (hl v (List.mem_cons_self ..) 7).2 with e | e
    · rw [e]
      refine wpAny_bind (wpAny_pure ?_); simp only [if_false, Bool.false_eq_true, Bool.not_true]
      exact wpAny_pure ⟨rfl, fun u m => hl u (List.mem_cons_of_mem _ m)⟩
    · rw [e]
      refine wpAny_bind (wpAny_pure ?_); simp only [if_true, Bool.not_false]
      exact wpAny_pure (wpAny_pure (q _))
  · rintro ⟨rfl, _⟩
    obtain ⟨r1, r2⟩ := r
    cases r1 with
    | none => exact wpAny_pure (q _)
    | some c => exact wpAny_pure (q _)
theorem ask_seen {k : List Key} {b : Addr} {Q : Bool → Shared → Prop} (at_ : AtK P w s.heap k b) {us : List Value} (hus : ∀ u ∈ us, ∃ c m, u = Value.ref c ∧ AtK P w s.heap m c) (q : Q false s) :
    wpAny (model P w) A (searchCouldBeSeen (.ref b) us) Q E s := by
  unfold searchCouldBeSeen
  refine wpAny_bind (wpAny_forIn_list _ (fun l r t => (r.1 = none ∧ t = s) ∧ ∀ u ∈ l, ∃ c m, u = Value.ref c ∧ AtK P w s.heap m c) _ (fun v l r t => ?_) (fun r t => ?_) _ _ ⟨⟨rfl, rfl⟩, hus⟩)
  · rintro ⟨⟨hr, rfl⟩, hl⟩
    obtain ⟨c, m, rfl, hc⟩ := hl v (List.mem_cons_self ..)
    have hl' : ∀ u ∈ l, ∃ c m, u = Value.ref c ∧ AtK P w t.heap m c := fun u m => hl u (List.mem_cons_of_mem _ m)
    dsimp only
    by_cases very : (b == c || (carriedByValue (.ref b) && carriedByValue (.ref c))) = true
    · exact wp_if_pos very (wpAny_pure ⟨⟨rfl, rfl⟩, hl'⟩)
    · refine wp_if_neg very (wpAny_bind (wpAny_eqIsQuiet_tuple at_ ?_))
      simp only [if_false, Bool.false_eq_true, Bool.not_true]
      refine wpAny_bind (wpAny_eqIsQuiet_tuple hc ?_); simp only [if_false, Bool.false_eq_true, Bool.not_true]
      refine wpAny_bind (ask_class at_ ?_); simp only [if_false, Bool.false_eq_true]
      refine wpAny_bind (ask_class hc ?_); simp only [if_false, Bool.false_eq_true]
      exact wpAny_pure ⟨⟨rfl, rfl⟩, hl'⟩
  · obtain ⟨r1, r2⟩ := r
    rintro ⟨⟨hr, rfl⟩, _⟩
    simp only at hr; subst hr
    exact wpAny_pure q

/-- the set at a: its table, its rows, all unlike -/
def rowsK (P : Program) (w : World) (L : List (Addr × List Key)) : List (Int × Value) := L.map fun p => (hK P w p.2, Value.ref p.1)
structure SetK (P : Program) (w : World) (h : Heap) (a : Addr) (L : List (Addr × List Key)) (es : Array (Int × Value)) (t : SetTable) : Prop where
  obj : ∃ o ep, h.get? a = some o ∧ o.ExactSet ∧ o.data = .set es ep t
  rows : es.toList = rowsK P w L
  tab : TabOk t (L.map fun p => hK P w p.2)
  keys : ∀ p ∈ L, AtK P w h p.2 p.1
  room : L.length * 5 < t.mask * 3 ∧ L.length ≤ 16
variable {a : Addr} {L : List (Addr × List Key)} {es : Array (Int × Value)} {t : SetTable}
theorem rowsK_len {L : List (Addr × List Key)} {es : Array (Int × Value)} (h : es.toList = rowsK P w L) : es.size = L.length := by
  rw [← Array.length_toList, h, rowsK, List.length_map]
theorem SetK.fit (R : SetK P w s.heap a L es t) : t.fits es.size = true := by
  have e1 := R.tab.sz
  have e2 := rowsK_len R.rows
  have e3 := R.room.1
  rw [List.length_map] at e1
  unfold SetTable.fits SetTable.fill
  rw [R.tab.dm, Bool.and_eq_true, beq_iff_eq, decide_eq_true_eq]
  exact ⟨by omega, by show t.place.size + 0 ≤ t.mask; omega⟩
theorem rowsK_at {L : List (Addr × List Key)} {es : Array (Int × Value)} (h : es.toList = rowsK P w L) {i : Nat} {p : Addr × List Key} (e : L[i]? = some p) : es[i]? = some (hK P w p.2, Value.ref p.1) := by
  rw [← Array.getElem?_toList, h, rowsK, List.getElem?_map, e]; rfl

abbrev run0 (m : Nat) (h : Int) : SetTable.Probe := runAt m (SetTable.bits h % (m + 1)) (SetTable.bits h)
theorem dummy_nth (m : Nat) : ∀ (n : Nat) (p : SetTable.Probe), p.dummy = none → (nth m p n).dummy = none
  | 0, _, h => h
  | n + 1, p, h => dummy_nth m n (adv m p) (by unfold adv; split <;> exact h)
/-- the search of what is not there: past all that bear its hash, to the empty slot -/
theorem look_new (R : SetK P w s.heap a L es t) {x : Addr} {k : List Key} (hx : AtK P w s.heap k x) (hu : A.units < cLine) (new : ∀ p ∈ L, p.2 ≠ k) {N : Nat} (hN : N < 10 * SetTable.turns t.mask)
    (free : L2.way t.mask (hK P w k) N ∉ t.place.toList) (occ : ∀ c, c < N → L2.way t.mask (hK P w k) c ∈ t.place.toList) {Q : SetFound → Shared → Prop} (q : Q (.free (L2.way t.mask (hK P w k) N) false) s) :
    ∀ (f c : Nat) (st : Option SetTable.Probe), st.getD (t.probeStart (hK P w k)) = nth t.mask (run0 t.mask (hK P w k)) c → c ≤ N → N - c < f → wpAny (model P w) A (setSearchFrom a (.ref x) (hK P w k) true f st) Q E s
  | 0, _, _, _, _, lt => absurd lt (Nat.not_lt_zero _)
  | f + 1, c, st, est, hc, lt => by
    obtain ⟨o, ep, ho, _, hd⟩ := R.obj
    rw [setSearchFrom_succ]
    refine wpAny_bind (wpAny_setState_of ho hd R.fit ?_); dsimp only
    refine wp_if_neg (by unfold SetTable.gaveWay; rw [mask_odd R.tab.mok]; decide) ?_
    try refine wpAny_bind (wpAny_pure ?_)
    have at_ : ∀ n, (nth t.mask (nth t.mask (run0 t.mask (hK P w k)) c) n).j = L2.way t.mask (hK P w k) (c + n) := fun n => congrArg SetTable.Probe.j (nth_add t.mask c _ n).symm
    have far : c + (N - c) = N := by omega
    rcases go_spec t R.tab.ris R.tab.dm (fun i => (es[i]?.map (·.1)).getD 0) (hK P w k) (10 * SetTable.turns t.mask) (N - c) _ (dummy_nth t.mask c _ rfl) (by omega)
      (fun n hn => by rw [at_]; exact occ (c + n) (by omega)) (by rw [at_, far]; exact free) with ⟨n, i, hn, hi, _, _, hp⟩ | ⟨_, hp⟩
    · have hp2 : t.probe (fun i => (es[i]?.map (·.1)).getD 0) (hK P w k) (st.getD (t.probeStart (hK P w k))) = some (.candidate (L2.way t.mask (hK P w k) (c + n)) i (nth t.mask (run0 t.mask (hK P w k)) (c + (n + 1)))) := by
        rw [est, ← at_, nth_add t.mask c]; exact hp
      rw [hp2]; dsimp only
      rw [at_] at hi
      have il : i < L.length := by
        have e1 := (List.getElem?_eq_some_iff.mp hi).1
        have e2 := R.tab.sz
        rw [List.length_map] at e2; rw [Array.length_toList] at e1
        omega
      obtain ⟨p, hpL⟩ : ∃ p, L[i]? = some p := ⟨_, List.getElem?_eq_getElem il⟩
      have pm := List.mem_of_getElem? hpL
      have ne := new p pm
      have row := rowsK_at R.rows hpL
      have on : wpAny (model P w) A (searchRest a (.ref x) (hK P w k) true f es t (L2.way t.mask (hK P w k) (c + n)) i (nth t.mask (run0 t.mask (hK P w k)) (c + (n + 1)))) Q E s := by
        unfold searchRest
        rw [row]; dsimp only
        refine wpAny_bind (wpAny_holding (wpAny_eqBool_tuple hu (R.keys p pm) hx (wpAny_bind (wpAny_setState_of ho hd R.fit ?_))))
        rw [decide_eq_false ne]; dsimp only
        refine wp_if_neg (by decide) ?_
        try refine wpAny_bind (wpAny_pure ?_)
        rw [sameMem]; dsimp only
        simp only [if_true, slot_live R.tab.ris hi, row]
        refine wpAny_bind (wpAny_isSame_ref_self (wpAny_bind (wpAny_pure ?_))); simp only [if_true]
        refine wp_if_neg (by decide) ?_
        exact look_new R hx hu new hN free occ q f (c + (n + 1)) _ rfl (by omega) (by omega)
      by_cases led : t.led = true
      · refine wp_if_neg (by rw [led]; decide) ?_
        try refine wpAny_bind (wpAny_pure ?_)
        exact on
      · refine wp_if_pos (by simp [led]) (wpAny_bind (ask_seen hx (fun u hu2 => ?_) (wp_if_neg (by decide) ?_)))
        · obtain ⟨e, he, rfl⟩ := List.mem_map.mp hu2
          have he2 : e ∈ es.toList := by
            have he1 : e ∈ es ∧ e.1 = hK P w k := by simpa using he
            simpa using he1.1
          rw [R.rows] at he2
          obtain ⟨p2, m2, rfl⟩ := List.mem_map.mp he2
          exact ⟨p2.1, p2.2, rfl, R.keys p2 m2⟩
        · try refine wpAny_bind (wpAny_pure ?_)
          exact on
    · have hp2 : t.probe (fun i => (es[i]?.map (·.1)).getD 0) (hK P w k) (st.getD (t.probeStart (hK P w k))) = some (.empty (L2.way t.mask (hK P w k) N) none) := by
        rw [est, show L2.way t.mask (hK P w k) N = (nth t.mask (nth t.mask (run0 t.mask (hK P w k)) c) (N - c)).j from by rw [at_, far]]
        exact hp
      rw [hp2]; dsimp only
      exact wpAny_pure q

/-- rows in another order -/
theorem rowsK_order (L : List (Addr × List Key)) (es : Array (Int × Value)) (hr : es.toList = rowsK P w L) (od : Array Nat) (hp : od.toList.Perm (List.range L.length)) :
    ∃ M, (od.filterMap fun i => es[i]?).toList = rowsK P w M ∧ M.Perm L ∧ (M.map fun p => hK P w p.2) = od.toList.map fun i => (es.map (·.1)).getD i 0 := by
  have key : ∀ l : List Nat, (∀ i ∈ l, i < L.length) → (l.filterMap fun i => es[i]?) = rowsK P w (l.filterMap fun i => L[i]?) ∧ ((l.filterMap fun i => L[i]?).map fun p => hK P w p.2) = l.map fun i => (es.map (·.1)).getD i 0 := by
    intro l
    induction l with
    | nil => exact fun _ => ⟨rfl, rfl⟩
    | cons i l ih =>
      intro hl
      obtain ⟨e1, e2⟩ := ih fun j hj => hl j (List.mem_cons_of_mem _ hj)
      obtain ⟨p, hpL⟩ : ∃ p, L[i]? = some p := ⟨_, List.getElem?_eq_getElem (hl i (List.mem_cons_self ..))⟩
      have row := rowsK_at hr hpL
      have hash : (es.map (·.1)).getD i 0 = hK P w p.2 := by
        rw [Array.getD_eq_getD_getElem?, Array.getElem?_map, row]; rfl
      rw [List.filterMap_cons_some row, List.filterMap_cons_some hpL, e1, List.map_cons, List.map_cons, e2, hash]
      exact ⟨rfl, rfl⟩
  obtain ⟨e1, e2⟩ := key od.toList fun i hi => List.mem_range.mp (hp.mem_iff.mp hi)
  have whole : ∀ n, n ≤ L.length → ((List.range n).filterMap fun i => L[i]?) = L.take n := by
    intro n
    induction n with
    | zero => exact fun _ => rfl
    | succ n ih =>
      intro hn
      obtain ⟨p, hpL⟩ : ∃ p, L[n]? = some p := ⟨_, List.getElem?_eq_getElem hn⟩
      rw [take_next hpL, List.range_succ, List.filterMap_append, ih (by omega), List.filterMap_cons_some hpL]; rfl
  refine ⟨od.toList.filterMap fun i => L[i]?, by rw [Array.toList_filterMap]; exact e1, ?_, e2⟩
  have h2 := hp.filterMap fun i => L[i]?
  rw [whole _ (Nat.le_refl _), List.take_length] at h2
  exact h2
theorem atK_but {h h' : Heap} {k : List Key} {b : Addr} {o : Obj} {ep : Nat} (hb : AtK P w h k b) (ho : h.get? a = some o) (hd : o.data = .set es ep t) (sb : Heap.SameBut a h h') : AtK P w h' k b := by
  obtain ⟨o2, vs, m, h2, h3, h4, h5⟩ := hb
  refine ⟨o2, vs, m, (sb.2 b fun e => ?_).trans h2, h3, h4, h5⟩
  subst e; rw [ho] at h2; cases h2; rw [hd] at h4; cases h4
/-- the fifth makes the table larger -/
theorem relay5 {o : Obj} {ep : Nat} (ho : s.heap.get? a = some o) (hex : o.ExactSet) (hd : o.data = .set es ep t) (hr : es.toList = rowsK P w L) (T : TabOk t (L.map fun p => hK P w p.2)) (h5 : L.length = 5)
    (hm : t.mask = 7) (keys : ∀ p ∈ L, AtK P w s.heap p.2 p.1) {Q : Unit → Shared → Prop}
    (q : ∀ h' L' es' t', Heap.SameBut a s.heap h' → SetK P w h' a L' es' t' → L'.Perm L → Q () { s with heap := h' }) : wpAny (model P w) A (setRelay a (SetTable.grown 5)) Q E s := by
  have e0 := rowsK_len hr
  have e1 := T.sz
  rw [List.length_map] at e1
  have fit : t.fits es.size = true := by
    unfold SetTable.fits SetTable.fill
    rw [T.dm, Bool.and_eq_true, beq_iff_eq, decide_eq_true_eq]
    exact ⟨by omega, by show t.place.size + 0 ≤ t.mask; omega⟩
  obtain ⟨t2, od, r1, r2, r3, r4, r5, r6, _⟩ := relaid_ok t (hs := es.map (·.1)) (wanted := SetTable.grown 5) (M := 31) (by rw [size_20]) (.inr (.inl rfl)) (by rw [Array.size_map]; omega)
  rw [Array.size_map, e0] at r2
  obtain ⟨M, m1, m2, m3⟩ := rowsK_order L es hr od r2
  rw [← m3] at r3
  have e2 := rowsK_len m1
  have e3 := m2.length_eq
  rw [setRelay_eq]
  refine wpAny_bind (wpAny_setState_of ho hd fit ?_); dsimp only
  refine wp_if_neg (by rw [size_20, sizeLine_eq]; decide) ?_
  try refine wpAny_bind (wpAny_pure ?_)
  rw [r1]; dsimp only
  refine wpAny_bind (wp_if_neg (by rw [show (od.filterMap fun i => es[i]?).size = es.size from by omega]; simp) ?_)
  try refine wpAny_bind (wpAny_pure ?_)
  refine wpAny_pure ?_; dsimp only
  refine wpAny_storeSet_of ho hd (q _ M _ t2 (Heap.SameBut.update ..) ⟨⟨_, ep + 1, store_at ho hd, ⟨hex.1, hex.2.1, hex.2.2⟩, rfl⟩, m1, r3, fun p hp => ?_, ?_⟩ m2) (by rw [e2, sizeLine_eq]; omega)
  · exact atK_but (keys p (m2.mem_iff.mp hp)) ho hd (Heap.SameBut.update ..)
  · rw [r4]; omega
/-- one more -/
theorem add_new (R : SetK P w s.heap a L es t) {x : Addr} {k : List Key} (hx : AtK P w s.heap k x) (hu : A.units < cLine) (new : ∀ p ∈ L, p.2 ≠ k) (few : L.length < 16) {Q : Bool → Shared → Prop}
    (q : ∀ h' L' es' t', Heap.SameBut a s.heap h' → SetK P w h' a L' es' t' → L'.Perm ((x, k) :: L) → Q true { s with heap := h' }) :
    wpAny (model P w) A (setAddHashed a (.ref x) (hK P w k)) Q E s := by
  obtain ⟨o, ep, ho, hex, hd⟩ := R.obj
  have e0 := rowsK_len R.rows
  have rm := R.room.1
  unfold setAddHashed
  refine wpAny_holding ?_
  rw [show (100000 : Nat) = 99999 + 1 from rfl, setAddHashedIn_succ]
  refine wpAny_bind (wpAny_setState_of ho hd R.fit ?_); dsimp only
  refine wp_if_neg (by simp [byScan, Value.scannable]) ?_
  try refine wpAny_bind (wpAny_pure ?_)
  obtain ⟨N, n1, n2, n3⟩ := R.tab.first (by rw [List.length_map]; omega) (hK P w k)
  have small : N < 100000 := by
    have hb : 10 * SetTable.turns t.mask ≤ 1420 := by unfold SetTable.turns; rcases R.tab.mok with e | e | e <;> omega
    omega
  refine wpAny_bind (by unfold setSearch; exact look_new R hx hu new n1 n2 n3 (by
    dsimp only
    refine wpAny_bind (wpAny_setState_of ho hd R.fit ?_); dsimp only
    obtain ⟨q1, q2, q3, q4, q5, q6, q7, q8, q9⟩ := R.tab.put n2 n3
    generalize t.put (L2.way t.mask (hK P w k) N) = pt at q1 q3 q4 q5 q6 q7 q8 q9 ⊢
    obtain ⟨t0, j⟩ := pt
    dsimp only at q1 q3 q4 q5 q6 q7 q8 q9 ⊢
    subst q1
    suffices key : ∀ byV : Bool, wpAny (model P w) A (storeSet a (SetTable.insertAt es (SetTable.below t.place (L2.way t.mask (hK P w k) N)) (hK P w k, Value.ref x)) (if byV = true then t0 else { t0 with plain := false }) >>= fun _ => (if (!false && (if byV = true then t0 else { t0 with plain := false }).tooFull) = true then setRelay a (SetTable.grown (es.size + 1)) >>= fun _ => pure true else pure true)) Q E s by
      by_cases hp : t0.plain = true
      · refine wp_if_pos hp (wpAny_bind (ask_hash hx fun byV => ?_))
        exact key byV
      · refine wp_if_neg hp ?_
        exact key true
    intro byV
    obtain ⟨t1, ht1⟩ : ∃ t1, t1 = (if byV = true then t0 else { t0 with plain := false }) := ⟨_, rfl⟩
    rw [← ht1]
    have same : t1.place = t0.place ∧ t1.mask = t0.mask ∧ t1.dummies = t0.dummies := by
      rw [ht1]
      cases byV <;> exact ⟨rfl, rfl, rfl⟩
    replace q3 : TabOk t1 _ := ⟨by rw [same.1]; exact q3.ris, same.2.2.trans q3.dm, by rw [same.1]; exact q3.sz, by rw [same.2.1]; exact q3.mok, by rw [same.1, same.2.1]; exact q3.bd, by rw [same.1, same.2.1]; exact q3.reach⟩
    replace q4 := same.2.1.trans q4
    replace q9 : t1.fill = _ := (show t1.fill = t0.fill from by unfold SetTable.fill; rw [same.1, same.2.2]).trans q9
    generalize SetTable.below t.place (L2.way t.mask (hK P w k) N) = j at q2 q3 ⊢
    have rows1 : (SetTable.insertAt es j (hK P w k, Value.ref x)).toList = rowsK P w (L.take j ++ (x, k) :: L.drop j) := by
      rw [SetTable.toList_insertAt, R.rows]
      unfold rowsK
      rw [List.map_append, List.map_cons, List.map_take, List.map_drop]
    have pm := put_perm L j (x, k)
    rw [show (L.map fun p => hK P w p.2).take j ++ hK P w k :: (L.map fun p => hK P w p.2).drop j = (L.take j ++ (x, k) :: L.drop j).map fun p => hK P w p.2 from by rw [List.map_append, List.map_cons, List.map_take, List.map_drop]] at q3
    generalize SetTable.insertAt es j (hK P w k, Value.ref x) = es1 at rows1 ⊢
    generalize L.take j ++ (x, k) :: L.drop j = L1 at pm q3 rows1
    have e1 := rowsK_len rows1
    have e2 : L1.length = L.length + 1 := pm.length_eq
    refine wpAny_bind (wpAny_storeSet_of ho hd ?_ (by rw [e1, sizeLine_eq]; omega))
    have sb : Heap.SameBut a s.heap (s.heap.update a (Obj.putSet es1 t1)) := Heap.SameBut.update ..
    have ho1 := store_at (es' := es1) (t' := t1) ho hd
    generalize s.heap.update a (Obj.putSet es1 t1) = g1 at sb ho1 ⊢
    have keys1 : ∀ p ∈ L1, AtK P w g1 p.2 p.1 := fun p hp => (List.mem_cons.mp (pm.mem_iff.mp hp)).elim (fun e => by rw [e]; exact atK_but hx ho hd sb) fun hp => atK_but (R.keys p hp) ho hd sb
    rw [List.length_map] at q9
    by_cases full : t1.tooFull = true
    · have hf := full
      unfold SetTable.tooFull at hf
      rw [decide_eq_true_eq, q9, q4] at hf
      have m7 : t.mask = 7 ∧ L.length = 4 := by rcases R.tab.mok with e | e | e <;> omega
      rw [e0, m7.2]
      have go : wpAny (model P w) A (setRelay a (SetTable.grown 5)) (fun _ s' => wpAny (model P w) A (pure true) Q E s') E { s with heap := g1 } :=
        relay5 (s := { s with heap := g1 }) ho1 ⟨hex.1, hex.2.1, hex.2.2⟩ rfl rows1 q3 (by omega) (q4.trans m7.1) keys1 fun g2 L2 es2 t2 sb2 R2 pm2 => wpAny_pure (q g2 L2 es2 t2 (sb.trans sb2) R2 (pm2.trans pm))
      first
        | (refine wpAny_bind ?_; refine wp_if_pos (by simp [full]) ?_; exact go)
        | (refine wp_if_pos (by simp [full]) ?_; refine wpAny_bind ?_; exact go)
    · have hf := full
      unfold SetTable.tooFull at hf
      rw [decide_eq_true_eq, q9] at hf
      first
        | refine wp_if_neg (by simp [full]) ?_
        | (refine wpAny_bind ?_; refine wp_if_neg (by simp [full]) ?_; refine wpAny_pure ?_)
      exact wpAny_pure (q g1 L1 es1 t1 sb ⟨⟨_, ep + 1, ho1, ⟨hex.1, hex.2.1, hex.2.2⟩, rfl⟩, rows1, q3, keys1, by omega⟩ pm)) 100000 0 none rfl (Nat.zero_le _) (by omega))
end
end Km
/-! Text KmSet2 -/
/-! set(xs), by what the set is after each item -/
namespace Km
open PySem PySem.Spec PyProof.Rows L2
abbrev freshSet (w : World) : Obj := { cls := .type "set", dict := none, data := .set #[] 0 (.fresh 0 0 (!w.params.followText "set-order")) }
/-- what stood at first stands -/
def Old (h0 h : Heap) : Prop := ∀ b o, h0.get? b = some o → h.get? b = some o
/-- the set at S: how it is behind i items, and that one item more makes the next -/
structure GrowS (P : Program) (w : World) (A : Around) (h0 : Heap) (S : Addr) (items : Array Value) (Z : Nat → Heap → Prop) : Prop where
  zero : ∀ h, h.get? S = some (freshSet w) → Z 0 h
  stay : ∀ i h h', Z i h → (∀ o, h.get? S = some o → h'.get? S = some o) → Old h0 h' → i ≤ items.size → Z i h'
  step : ∀ (i : Nat) (v : Value) (s : Shared) (E : Value → Shared → Prop) (Q : Bool → Shared → Prop), items[i]? = some v → Z i s.heap → Old h0 s.heap →
    (∀ b h' k, Heap.SameBut S s.heap h' → Z (i + 1) h' → Q b { s with heap := h', toks := s.toks + k }) → wpAny (model P w) A (setAdd S v) Q E s
section
variable {P : Program} {w : World} {A : Around} {E : Value → Shared → Prop} {s : Shared}
theorem grow_loop {I : Addr} {fp wr : List Addr} {G : Array GenState → Array GenState → Prop} {items : Array Value} {St : Nat → Shared → Prop} {R : Result → Shared → Prop} {h0 : Heap} {S : Addr} {Z : Nat → Heap → Prop}
    (W : WalksS P w A.in1 I fp wr G items.size (fun i v => items[i]? = some v) St) (g : GrowS P w A.in1 h0 S items Z) (out : S ∉ fp) (nS : h0.get? S = none) (nw : ∀ b ∈ wr, h0.get? b = none) :
    ∀ (m i : Nat) (s : Shared), items.size - i = m → i ≤ items.size → St i s → Old h0 s.heap → Z i s.heap →
      (∀ s', Moved (S :: wr) G s s' → Z items.size s'.heap → Old h0 s'.heap → R (.ok (.ret .none)) s') → codeAny (model P w) A (.builtin "set.update.loop" ⟨[.ref S, .ref I], []⟩) R s := by
  have out2 : S ∉ wr := fun z => out (W.sub _ z)
  have wide : ∀ b ∈ wr, b ∈ S :: wr := fun b z => List.mem_cons_of_mem _ z
  have old2 : ∀ {s s' : Shared}, Moved wr G s s' → Old h0 s.heap → Old h0 s'.heap := fun mv ol b o e => mv.heap b o (fun z => by rw [nw b z] at e; cases e) (ol b o e)
  intro m
  induction m with
  | zero =>
    intro i s hm hi st ol z fin
    obtain rfl : i = items.size := by omega
    refine codeAny_builtin F.entry_set_update_loop ?_; rw [Around.under_plainId F.plain_set_update_loop _]
    show wpAny _ A.in1 (pyNext (.ref I) >>= _) _ _ s
    refine wpAny_bind (W.done s _ _ st fun s2 mv => ?_); show wpAny _ A.in1 (ret Value.none) _ _ s2
    exact wpAny_pure (fin s2 (mv.mono wide) (g.stay _ _ _ z (fun o e => mv.heap S o out2 e) (old2 mv ol) (Nat.le_refl _)) (old2 mv ol))
  | succ m ih =>
    intro i s hm hi st ol z fin
    have hlt : i < items.size := by omega
    refine codeAny_builtin F.entry_set_update_loop ?_; rw [Around.under_plainId F.plain_set_update_loop _]
    show wpAny _ A.in1 (pyNext (.ref I) >>= _) _ _ s
    refine wpAny_bind (W.item i s _ _ hlt st fun v s2 hv st2 mv => ?_)
    have ol2 := old2 mv ol
    show wpAny _ A.in1 (holding [v] (setAdd S v) >>= _) _ _ s2
    refine wpAny_bind (wpAny_holding (g.step i v s2 _ _ hv (g.stay _ _ _ z (fun o e => mv.heap S o out2 e) ol2 hi) ol2 fun b h' k sb z2 => ?_))
    have same : ∀ c, c ≠ S → ∀ o, s2.heap.get? c = some o → h'.get? c = some o := fun c hc o e => (sb.2 c hc).trans e
    have ol3 : Old h0 h' := fun c o e => same c (fun y => by rw [y, nS] at e; cases e) o (ol2 c o e)
    refine wpAny_pure ⟨plainId_quiet F.plain_set_update_loop _, ih (i + 1) _ (by omega) hlt (W.frame _ s2 _ _ st2 (Nat.le_add_right _ _) fun c hc o e => same c (fun y => out (y ▸ hc)) o e) ol3 z2 fun s3 mv3 z3 ol4 => ?_⟩
    exact fin s3 (Moved.trans W.gtrans ((mv.mono wide).then_heap (Nat.le_add_right _ _) fun c o hc e => same c (fun y => hc (y ▸ List.mem_cons_self ..)) o e) mv3) z3 ol4

set_option maxHeartbeats 3200000 in
theorem set_of {T : String} {l : Addr} {ol : Obj} {nl : Nat} {items : Array Value} {Q : Value → Shared → Prop} {Z : Nat → Heap → Prop} (hh : A.handled = none) (hol : s.heap.get? l = some ol) (hcl : ol.cls = .type T) (hdl : ol.data = .seq items nl) (g1 : isSubtype (.type T) (.type "set") = pure false) (g2 : isSubtype (.type T) (.type "frozenset") = pure false) (g3 : (Value.type T == Value.type "dict") = false)
    {It : Heap → Addr → Nat → Prop} (itr : ∀ {A' : Around} {s' : Shared} {Q' : Value → Shared → Prop} {E' : Value → Shared → Prop}, s'.heap.get? l = some ol → (∀ h' : Heap, It h' s'.heap.objs.size 0 → h'.objs.size = s'.heap.objs.size + 1 → (∀ b o, s'.heap.get? b = some o → h'.get? b = some o) → Q' (.ref s'.heap.objs.size) { s' with heap := h' }) → wpAny (model P w) A' (pyIter (.ref l)) Q' E' s')
    (wk : ∀ {A' : Around} (I : Addr), A'.handled = none → l ≠ I → Walks P w A' I [I, l] [I] items.size (fun i v => items[i]? = some v) (fun i h => It h I i ∧ h.get? l = some ol))
    (g : ∀ A' : Around, A'.units ≤ A.units + 4 → GrowS P w A' s.heap s.heap.objs.size items Z)
    (q : ∀ (h' : Heap) (tk : Nat), Z items.size h' → Old s.heap h' → Q (.ref s.heap.objs.size) { s with heap := h', toks := tk }) : wpAny (model P w) A (call (.type "set") [.ref l]) Q E s := by
  obtain ⟨c, tl, f0⟩ := F.called_set.mro
  have f1 := F.called_set.made; have f2 := F.called_set.sub
  refine wpAny_call (codeAny_of_tree ?_)
  show wpAny _ _ (callAny (.type "set") _) _ _ _
  refine wpAny_pure ⟨Code.quiet_builtin _ (by decide +kernel), codeAny_builtin F.entry_type_call ?_⟩
  rw [Around.under_plain (weight_type_call_type "set" [.ref l] []) rfl]
  have f3 := F.called_set.notType; have f4 := F.called_set.canCreate; have f5 := F.typeCall_set_1 (.ref l)
  repeat (any_goals (first | assumption | wp_step))
  refine codeAny_mono (code_set_led1 (.ref l) (E := E) (Q₁ := fun x s1 => x = .ref s.heap.objs.size ∧ s1 = { s with heap := s.heap.push (freshSet w) }) ⟨rfl, rfl⟩) fun r s1 hr => ?_
  cases r with
  | error e => exact hr
  | ok fl =>
    cases fl with
    | ret x =>
      obtain ⟨rfl, rfl⟩ := hr
      have atS : (s.heap.push (freshSet w)).get? s.heap.objs.size = some (freshSet w) := Heap.get?_push_size _ rfl
      have tyS : Shared.TypeIs { s with heap := s.heap.push (freshSet w) } (.ref s.heap.objs.size) "set" := ⟨_, atS, rfl⟩
      have f6 := F.called_set.init.lookup; have f7 := F.called_set.init.bind (.ref s.heap.objs.size)
      repeat (any_goals (first | assumption | wp_step))
      refine codeAny_mono (codeAny_call_builtin (R := wants (fun r s2 => r = .none ∧ ∃ h' tk, s2 = { s with heap := h', toks := tk } ∧ Z items.size h' ∧ Old s.heap h') E) F.called_set.init.plain F.entry_set_init (check_set_init_1 tyS ?_)) fun r2 s2 hr2 => ?_
      · have none_of : ∀ b, s.heap.objs.size ≤ b → s.heap.get? b = none := fun b hb => by
          cases e : s.heap.get? b with
          | none => rfl
          | some o => exact absurd (Nat.lt_of_lt_of_le (Heap.lt_size e) hb) (Nat.lt_irrefl _)
        have hol1 := Heap.get?_push_of_some (freshSet w) hol
        obtain ⟨oc, od, oa, os⟩ := ol
        simp only at hcl hdl; subst hcl; subst hdl
        have hol2 : (s.heap.push (freshSet w)).get? l = some { cls := .type T, dict := od, data := .seq items nl, slots := os } := hol1
        unfold Builtin.«set.__init__» noKeywords Builtin.Frozenset.updateFrom
        generalize hPI : pyIter = PI
        wp_walk
        subst hPI
        refine itr hol1 fun h4 it4 z4 k4 => wpAny_bind (wpAny_runValue ?_)
        have lS : l < s.heap.objs.size := Heap.lt_size hol
        have neI : l ≠ (s.heap.push (freshSet w)).objs.size := by rw [Heap.size_push]; exact Nat.ne_of_lt (Nat.lt_succ_of_lt lS)
        have out : s.heap.objs.size ∉ [(s.heap.push (freshSet w)).objs.size, l] := by
          rw [Heap.size_push]; intro z
          rcases List.mem_cons.mp z with z | z
          · exact absurd z (Nat.ne_of_lt (Nat.lt_succ_self _))
          · exact absurd (List.mem_singleton.mp z) (Nat.ne_of_gt lS)
        have old0 : Old s.heap h4 := fun b o e => k4 _ _ (Heap.get?_push_of_some _ e)
        refine grow_loop ((wk _ (by simp [hh]) neI).toS) (g _ ?units) out (none_of _ (Nat.le_refl _)) (fun b hb => none_of b (by rw [List.mem_singleton.mp hb, Heap.size_push]; exact Nat.le_succ _)) (items.size - 0) 0 _ (by omega) (Nat.zero_le _)
          ⟨it4, k4 _ _ hol1⟩ old0 ((g A (Nat.le_add_right _ _)).zero _ (k4 _ _ atS)) ?last
        case units => simp [Around.in1]
        case last =>
          intro s3 mv z ol3
          obtain ⟨h3, gg, dd, tk, oo⟩ := s3
          obtain rfl : gg = s.gens := mv.gens
          obtain rfl : dd = s.drawn := mv.drawn
          obtain rfl : oo = s.os := mv.os
          show wpAny _ _ _ _ _ _; refine wpAny_pure ?_
          show wpAny _ _ (ret Value.none) _ _ _
          exact wpAny_pure ⟨rfl, h3, tk, rfl, z, ol3⟩
      · cases r2 with
        | error e => exact hr2
        | ok fl2 =>
          cases fl2 with
          | ret r =>
            obtain ⟨rfl, h', tk, rfl, z, ol⟩ := hr2
            repeat (any_goals (first | assumption | wp_step))
            exact q _ _ z ol
          | _ => exact hr2.elim
    | _ => exact hr.elim

theorem set_of_list {l : Addr} {items : Array Value} {Q : Value → Shared → Prop} {Z : Nat → Heap → Prop} (hh : A.handled = none) (hl : s.heap.IsList l items) (g : ∀ A' : Around, A'.units ≤ A.units + 4 → GrowS P w A' s.heap s.heap.objs.size items Z)
    (q : ∀ (h' : Heap) (tk : Nat), Z items.size h' → Old s.heap h' → Q (.ref s.heap.objs.size) { s with heap := h', toks := tk }) : wpAny (model P w) A (call (.type "set") [.ref l]) Q E s := by
  obtain ⟨ol, hol, hcl, nl, hdl⟩ := hl
  refine set_of (It := fun h I i => h.IsListIter I l i) hh hol hcl hdl F.sub_list_set F.sub_list_frozenset (by decide) (fun {A' s' Q' E'} h k => ?_) (fun {A'} I hh ne => ?_) g q
  · exact wpAny_pyIter_list ⟨ol, h, hcl, nl, hdl⟩ (k _ ⟨_, Heap.get?_push_size _ rfl, rfl, rfl⟩ (Heap.size_push ..) fun b o e => Heap.get?_push_of_some _ e)
  · have W := Walks.list (prog := P) (w := w) hh I l ne items
    exact ⟨W.sub, fun i h h' st k => ⟨(W.frame i h h' ⟨st.1, ol, st.2, hcl, nl, hdl⟩ k).1, k l (by simp) _ st.2⟩, fun i s Q E hi st q => W.item i s Q E hi ⟨st.1, ol, st.2, hcl, nl, hdl⟩ fun v h' tk hv st' kp => q v h' tk hv ⟨st'.1, kp l _ (by simpa using ne) st.2⟩ kp,
      fun s Q E st q => W.done s Q E ⟨st.1, ol, st.2, hcl, nl, hdl⟩ q, fun i s Q E st q => W.self i s Q E ⟨st.1, ol, st.2, hcl, nl, hdl⟩ q⟩
theorem set_of_tuple {l : Addr} {items : Array Value} {Q : Value → Shared → Prop} {Z : Nat → Heap → Prop} (hh : A.handled = none) (hl : s.heap.IsTuple l items) (g : ∀ A' : Around, A'.units ≤ A.units + 4 → GrowS P w A' s.heap s.heap.objs.size items Z)
    (q : ∀ (h' : Heap) (tk : Nat), Z items.size h' → Old s.heap h' → Q (.ref s.heap.objs.size) { s with heap := h', toks := tk }) : wpAny (model P w) A (call (.type "set") [.ref l]) Q E s := by
  obtain ⟨ol, hol, hcl, nl, hdl⟩ := hl
  refine set_of (It := fun h I i => h.IsTupleIter I l i) hh hol hcl hdl F.sub_tuple_set F.sub_tuple_frozenset (by decide) (fun {A' s' Q' E'} h k => ?_) (fun {A'} I hh ne => ?_) g q
  · exact wpAny_pyIter_tuple ⟨ol, h, hcl, nl, hdl⟩ (k _ ⟨_, Heap.get?_push_size _ rfl, rfl, rfl⟩ (Heap.size_push ..) fun b o e => Heap.get?_push_of_some _ e)
  · have W := Walks.tuple (prog := P) (w := w) hh I l ne items
    exact ⟨W.sub, fun i h h' st k => ⟨(W.frame i h h' ⟨st.1, ol, st.2, hcl, nl, hdl⟩ k).1, k l (by simp) _ st.2⟩, fun i s Q E hi st q => W.item i s Q E hi ⟨st.1, ol, st.2, hcl, nl, hdl⟩ fun v h' tk hv st' kp => q v h' tk hv ⟨st'.1, kp l _ (by simpa using ne) st.2⟩ kp,
      fun s Q E st q => W.done s Q E ⟨st.1, ol, st.2, hcl, nl, hdl⟩ q, fun i s Q E st q => W.self i s Q E ⟨st.1, ol, st.2, hcl, nl, hdl⟩ q⟩

/-! texts -/
theorem grow_texts {h0 : Heap} {S : Addr} (nS : h0.get? S = none) {items : Array Value} {xs : List Str} (hi : StrsAre items.toList xs) (nd : xs.Nodup) (few : xs.length < 64) :
    GrowS P w A h0 S items (fun i h => h.SetOf (PySem.strKind P w) S (fun k => decide (k ∈ xs.take i)) i) where
  zero := fun h e => SetOf_congr ((setObjOf_fresh (knd := PySem.strKind P w) _).setOf e (by unfold scanBound; omega)) (fun k => by simp) rfl
  stay := fun i h h' z e _ _ => by
    obtain ⟨o, es, ep, t, ho, r⟩ := z
    exact ⟨o, es, ep, t, e o ho, r⟩
  step := fun i v s E Q e z _ q => by
    have hl := StrsAre.len_eq hi
    rw [Array.length_toList] at hl
    have il : i < xs.length := by
      rcases Nat.lt_or_ge i xs.length with c | c
      · exact c
      · rw [Array.getElem?_eq_none (by omega)] at e; cases e
    obtain ⟨x, ex⟩ : ∃ x, xs[i]? = some x := ⟨_, List.getElem?_eq_getElem il⟩
    obtain ⟨tk, rfl⟩ := SS.strs_at hi i v (by rw [Array.getElem?_toList]; exact e)
    rw [show xs.getD i Str.empty = x from by rw [List.getD_eq_getElem?_getD, ex]; rfl]
    have new : x ∉ xs.take i := fun z => by
      obtain ⟨j, hj, ej⟩ := List.getElem_of_mem z
      rw [List.length_take] at hj
      have e1 : xs[j]? = some x := by rw [← ej, List.getElem_take, List.getElem?_eq_getElem]
      have := (List.getElem?_inj (by omega) nd).mp (e1.trans ex.symm)
      omega
    unfold setAdd
    refine wpAny_holding (wpAny_bind ((PySem.strKind P w).pyHash (k := x) (strKind_is _ _ _ _) ?_))
    refine wpAny_setAddHashed_of (knd := PySem.strKind P w) (s := { s with toks := s.toks + 1 }) (strKind_is _ _ _ _) rfl z (by unfold scanBound; omega) fun h' sb z2 => ?_
    refine q _ h' 1 sb (SetOf_congr z2 (fun k => ?_) (by rw [if_neg (by simpa using new)]))
    rw [take_next ex]
    by_cases hk : k ∈ xs.take i <;> by_cases h2 : k = x <;> simp [hk, h2]
/-! tuples -/
theorem grow_tups {h0 : Heap} {S : Addr} (nS : h0.get? S = none) {items : Array Value} {ks : List (Addr × List Key)} (hi : items.toList = ks.map fun p => Value.ref p.1) (nd : (ks.map (·.2)).Nodup) (few : ks.length ≤ 16)
    (keys : ∀ p ∈ ks, AtK P w h0 p.2 p.1) (hu : A.units < cLine) : GrowS P w A h0 S items (fun i h => ∃ L es t, SetK P w h S L es t ∧ L.Perm (ks.take i)) where
  zero := fun h e => ⟨[], #[], .fresh 0 0 (!w.params.followText "set-order"), ⟨⟨_, 0, e, ⟨rfl, rfl, rfl⟩, rfl⟩, rfl, ⟨List.Pairwise.nil, rfl, rfl, .inl rfl, (fun x hx => by cases hx), fun i h j z => by simp at z⟩, (fun p hp => by cases hp),
    ⟨by show 0 * 5 < 7 * 3; decide, by decide⟩⟩, List.Perm.refl _⟩
  stay := fun i h h' z e ol _ => by
    obtain ⟨L, es, t, R, pm⟩ := z
    obtain ⟨o, ep, ho, r⟩ := R.obj
    refine ⟨L, es, t, ⟨⟨o, ep, e o ho, r⟩, R.rows, R.tab, fun p hp => ?_, R.room⟩, pm⟩
    obtain ⟨o2, vs, m, h2, h3⟩ := keys p (List.mem_of_mem_take (pm.mem_iff.mp hp))
    exact ⟨o2, vs, m, ol _ _ h2, h3⟩
  step := fun i v s E Q e z ol q => by
    obtain ⟨L, es, t, R, pm⟩ := z
    have e1 : items.toList[i]? = some v := by rw [Array.getElem?_toList]; exact e
    rw [hi, List.getElem?_map] at e1
    obtain ⟨p, ep⟩ : ∃ p, ks[i]? = some p := by
      cases c : ks[i]? with
      | none => rw [c] at e1; cases e1
      | some p => exact ⟨p, rfl⟩
    rw [ep] at e1
    obtain rfl : Value.ref p.1 = v := Option.some.inj e1
    have il := (List.getElem?_eq_some_iff.mp ep).1
    have hl := pm.length_eq
    rw [List.length_take] at hl
    have at_ : AtK P w s.heap p.2 p.1 := by
      obtain ⟨o2, vs, m, h2, h3⟩ := keys p (List.mem_of_getElem? ep)
      exact ⟨o2, vs, m, ol _ _ h2, h3⟩
    have new : ∀ q ∈ L, q.2 ≠ p.2 := fun q hq e2 => by
      obtain ⟨j, hj, ej⟩ := List.getElem_of_mem (pm.mem_iff.mp hq)
      rw [List.length_take] at hj
      have e3 : (ks.map (·.2))[j]? = some p.2 := by rw [List.getElem?_map, ← e2, ← ej, List.getElem_take, List.getElem?_eq_getElem]; rfl
      have e4 : (ks.map (·.2))[i]? = some p.2 := by rw [List.getElem?_map, ep]; rfl
      have := (List.getElem?_inj (by rw [List.length_map]; omega) nd).mp (e3.trans e4.symm)
      omega
    unfold setAdd
    refine wpAny_holding (wpAny_bind (wpAny_pyHash_tuple hu at_ ?_))
    refine add_new (s := { s with toks := s.toks + (p.2.length + 1) }) R at_ hu new (by omega) fun h' L' es' t' sb R' pm' => ?_
    refine q _ h' _ sb ⟨L', es', t', R', ?_⟩
    rw [take_next ep]
    exact pm'.trans ((pm.cons _).trans (List.perm_append_singleton _ _).symm)
end
end Km
/-! Text KmVals -/
/-! list(d.values()) -/
namespace Km
open PySem PySem.Spec PyProof.Rows L2 LamX
section
variable {X : Cx} {o : Expr} {p pos apos mpos : Pos} {td : TE}
def tListVals (td : TE) : TE := fun σ H Q => td σ H fun x H1 => ∃ a kvs, x = V.ref a ∧ H1 a = some (.dK kvs) ∧ ∀ q, H1 q = none → Q (.ref q) (upd H1 q (.lst (kvs.map (·.2))))
theorem pe_listVals (hc : X.calm = true) (hg : Gl X "list") (hm : X.mg "list" = none) (hd : PE X o td) (hbase : attributeBase o "values" X.env (eval o X.env) = eval o X.env := by rfl) (hline : (apos.endLine == mpos.line) = true := by rfl)
    (hse : starEach [Expr.Call (.Attribute o "values" apos) [] [] mpos] X.env = [(false, eval (Expr.Call (.Attribute o "values" apos) [] [] mpos) X.env)] := by rfl) :
    PE X (.Call (.Name "list" p) [.Call (.Attribute o "values" apos) [] [] mpos] [] pos) (tListVals td) := by
  refine ⟨fun pins s σ H Q I h => ?_⟩
  refine wpAny_Call_Name_kw (ld_blt I hg hm (u := .type "list") (by first | rfl | decide +kernel) ?_ (by first | decide +kernel | decide) (by first | decide +kernel | decide))
  rw [hse]
  refine PySem.callWith_type1 (wpAny_Call_method0_late hbase hline (thn (hd.run pins s σ H _ I h) fun v s1 ⟨x, H1, I1, r1, a, kvs, ex, ha, q⟩ => ?_))
  subst ex
  obtain rfl : v = Value.ref a := r1
  obtain ⟨z, hsys, vs, rel, dof⟩ := (show ObjOk X.prog X.w H1 s1.heap a (.dK kvs) from I1.hok a _ ha)
  obtain ⟨ep, dat⟩ := dof.dictAt
  have dat' := dat
  obtain ⟨ob, es, ho, ex, hdat, hko, hpr, hnd⟩ := dat'
  refine ⟨"dict", "dict.values", F.plainAttrs_dict, F.slot_dict_values, F.type_dict_values, ⟨ob, ho, ex.1⟩, fun b e => ?_, Calls.callWith_builtin rfl (PySem.evalArgs_none ?_)⟩
  · cases e
    exact ⟨ob, ho, ex.2.1⟩
  refine call_meetsIn F.slot_dict_values ⟨ob, ho, ex.1⟩ F.entry_dict_values (F.args_dict_values_1 _) (meets_dict_values (mixKind X.prog X.w) a hsys) ⟨⟨vs, dof⟩, ?_⟩
  have k1 : ∀ b u, s1.heap.get? b = some u → (s1.heap.push { cls := .type "dict_values", data := .fields #[.ref a] }).get? b = some u := fun b u e => Heap.get?_push_of_some _ e
  have dat1 : (s1.heap.push { cls := .type "dict_values", data := .fields #[.ref a] }).DictAt (mixKind X.prog X.w) a vs ep := dat.keep k1
  have I2 : Inv X pins σ H1 { s1 with heap := s1.heap.push { cls := .type "dict_values", data := .fields #[.ref a] } } := I1.kept (t' := s1.toks) k1
  have hl : kvs.length = vs.length := Paired.length rel
  have view : (s1.heap.push { cls := .type "dict_values", data := .fields #[.ref a] }).IsValuesView s1.heap.objs.size a := ⟨_, Heap.get?_push_size _ rfl, rfl, rfl⟩
  refine PySem.W.kdl_call (s := { s1 with heap := s1.heap.push { cls := .type "dict_values", data := .fields #[.ref a] } }) (PySem.W.kdl_values (knd := mixKind X.prog X.w) (kvs := vs) (ep := ep) (d := a) (r := s1.heap.objs.size)) (I.ok.hd hc) ⟨view, dat1⟩ (by rw [← hl]; exact z) fun h' tk acc' c' hkeep hS hacc => ?_
  refine ⟨.ref _, upd H1 _ (.lst (kvs.map (·.2))), I2.laid (t' := tk) hkeep (Nat.le_refl _) (show ObjOk X.prog X.w _ _ _ (.lst (kvs.map (·.2))) from ⟨?_, acc'.toList, c', ?_, ?_⟩), rfl, q _ (I2.hok.fresh (Nat.le_refl _))⟩
  · rw [List.length_map]
    exact z
  · have el : acc'.toList.length = acc'.size := by simp
    refine vals_of_at (by rw [List.length_map, el, hacc.1, hl]) fun j x w h1 h2 => ?_
    obtain ⟨k, hky⟩ := hacc.2 j w (by rw [← Array.getElem?_toList]; exact h2)
    obtain ⟨y, e1, e2⟩ := KV.at' rel hky
    rw [List.getElem?_map, e1] at h1
    cases h1
    exact e2
  · rw [Array.toArray_toList]
    exact hS
end
theorem vals_tas (H : Hp) : ∀ kvs : List (Str × Int), TAs H (kvs.map ((fun x : Key × V => x.2) ∘ fun p => (Sum.inr p.1, V.int p.2))) (kvs.map fun q => PyData.int q.2)
  | [] => .nil
  | _ :: xs => .cons (.int _) (vals_tas H xs)
section
variable {Tb : List (Addr × Str)} {δ : List Sl} {ω : Om} {Φ : Sl → Om → Prop} {td : TE}
theorem ex_listVals (h : EX Tb td δ ω fun s ω1 => ∃ a kvs, s = .pt a ∧ (a, Ob.dk kvs) ∈ ω1 ∧ ∀ p, Φ (.pt p) ((p, .ls (kvs.map fun q : Str × Int => PyData.int q.2)) :: ω1)) : EX Tb (tListVals td) δ ω Φ := fun B σ H Q S k =>
  h B σ H _ S fun v s ω1 H1 q e kk p => by
    obtain ⟨a, kvs, rfl, hm, q⟩ := q
    refine ⟨a, kvV kvs, kk.ref, (p.obs _ hm).1, fun b hb => ?_⟩
    have se := same_new (H := H1) (o := .lst ((kvV kvs).map (·.2))) hb
    refine k _ _ _ _ (q b) (e.trans (Ext.of se).tup) rfl (p.new se hb ⟨_, upd_same, ?_⟩)
    unfold kvV
    rw [List.map_map]
    exact vals_tas _ kvs
end
/-! any(list of ints) -/
def nz (i : Int) : Bool := decide (i ≠ 0)
theorem ints_any : ∀ {vs : List Int} {us : List Value}, Vals (vs.map V.int) us → ∀ (j : Nat) (u : Value), us[j]? = some u → ∃ t, u = Value.int (vs.getD j 0) t
  | [], _, .nil, j, u, h => by simp at h
  | x :: xs, _, .cons hx hxs, 0, u, h => by
    obtain ⟨t, e⟩ := hx
    simp at h
    exact ⟨t, by rw [← h, e]; rfl⟩
  | x :: xs, _, .cons hx hxs, j + 1, u, h => ints_any hxs j u (by simpa using h)
theorem truth_ints {prog : Program} {w : World} {A : Around} {ns : List Int} {its : List Value} (r : Vals (ns.map V.int) its) : TruthOf prog w A (fun i v => its.toArray[i]? = some v) (fun i => (ns.map nz).getD i false) := fun i v s Q E hv hq => by
  have hv' : its[i]? = some v := by simpa using hv
  obtain ⟨t, rfl⟩ := ints_any r i v hv'
  have hi : i < ns.length := by
    have := (List.getElem?_eq_some_iff.mp hv').1
    have e := r.length
    rw [List.length_map] at e
    omega
  have hg : (ns.map nz).getD i false = nz (ns.getD i 0) := by
    rw [List.getD_eq_getElem?_getD, List.getElem?_map, List.getElem?_eq_getElem hi, List.getD_eq_getElem?_getD, List.getElem?_eq_getElem hi]
    rfl
  have hq' : Q ((ns.map nz).getD i false) s := hq
  rw [hg] at hq'
  refine PySem.P.truthy_int ?_
  have e : (ns.getD i 0 != 0) = nz (ns.getD i 0) := by
    generalize ns.getD i 0 = z
    unfold nz
    by_cases h : z = 0
    · rw [h]; rfl
    · rw [decide_eq_true h]
      exact bne_iff_ne.mpr h
  rw [e]
  exact hq'
section
variable {X : Cx}
def rAnyI (K : PySem.W.Frag) : List V → Hp → VK → Prop := fun vs H Q => ∃ (a : Addr) (ns : List Int), vs = [V.ref a] ∧ SqL K H a (ns.map V.int) ∧ Q (.bl ((ns.map nz).any id)) H
theorem cr_anyI (hc : X.calm = true) : CallR X (.builtin "any") (rAnyI X.K) := by
  intro pins s σ H vs us Q I r h
  obtain ⟨a, ns, rfl, hs, q⟩ := h
  obtain ⟨its, rv, hl, _⟩ := I.list hs
  rw [Vals.ref1 r]
  refine call_any_walk (iter_any hl.isList fun s₂ e2 st hne => ?_)
  subst e2
  refine ⟨_, _, _, _, _, _, _, rfl, Walks.list (A := X.A.in1) (I.ok.hd hc) _ a hne its.toArray, st, truth_ints rv, fun h' tk hk => ?_⟩
  refine ⟨.bl _, H, I.kept fun b o eo => hk b o (fun hmem => ?_) (Heap.get?_push_of_some _ eo), ?_, q⟩
  · rcases List.mem_cons.mp hmem with e1 | hmem
    · exact absurd (e1 ▸ Heap.lt_size eo) (Nat.lt_irrefl _)
    · cases hmem
  · show Value.bool _ = Value.bool _
    have hl := rv.length
    rw [List.length_map] at hl
    rw [← L2.any_range, List.size_toArray, List.length_map, hl]
end
section
variable {Tb : List (Addr × Str)} {ω : Om} {Φ : Sl → Om → Prop} {s : Sl}
theorem kx_anyI (K : PySem.W.Frag) {ns : List Int} (hl : IsLs ω s (ns.map .int)) (q : Φ (.dt (.bool ((ns.map nz).any id))) ω) : KX Tb (rAnyI K) [s] ω Φ := fun B H vs Q S h k => by
  obtain ⟨v, rfl, hv⟩ := one_of h
  replace h := hv
  obtain ⟨a, xs, rfl, ha, ta⟩ := isLs hl S h
  exact ⟨a, ns, rfl, SqL.of (ta.ints ▸ ha), k _ _ ω H q (TupEx.refl H) (slDt (.bl _)) S⟩
end
section
variable {Tb : List (Addr × Str)} {δ : List Sl} {ω : Om} {P : Po} {t : L2.TA}
/-- a, b = x, y where one is a cell -/
theorem rr_asg2 (K : PySem.W.Frag) {i j : Nat} (h : EA Tb t δ ω fun ss ω' => ∃ s1 s2, ss = [s1, s2] ∧ P.nx ((δ.set i s1).set j s2) ω') : RR Tb (tAsg (tTup t) (gTup K 2 (gCons (gName i) (gCons (gName j) gNil)))) δ ω P := fun B σ H D S k1 _ _ _ =>
  h B σ H _ S fun vs ss ω' H' q e k p => by
    obtain ⟨s1, s2, rfl, q⟩ := q
    match vs, k with
    | [v1, v2], k =>
      refine ⟨by show 2 ≤ sizeLine; rw [sizeLine_eq]; decide, fun a ha => ?_⟩
      have se := same_new (H := H') (o := .tup [v1, v2]) ha
      have te := (Ext.of se).tup
      refine ⟨a, [v1, v2], rfl, SqT.of upd_same, rfl, v1, _, rfl, v2, _, rfl, rfl, k1 _ ω' _ _ q (e.trans te) ?_⟩
      exact (((S.re e p).same se).set i (k.1.mono te)).set j (k.2.1.mono te)
end
end Km
/-! Text KmLen -/
/-! len(set(xs)); sorted(t); t[::-1]; f(k = ..) -/
namespace Km
open PySem PySem.Spec PyProof.Rows L2 LamX
section
variable {X : Cx}
/-- xs: a tuple of texts or a list of tuples of texts, no two alike -/
def tLenSetD (K : PySem.W.Frag) (ta : TE) : TE := fun σ H Q => ta σ H fun x H1 => ∃ l, x = V.ref l ∧
  ((∃ xs : List Str, SqT K H1 l (xs.map V.str) ∧ xs.Nodup ∧ xs.length < 64 ∧ Q (.int xs.length) H1) ∨
   (∃ ps : List (Addr × List Key), SqL K H1 l (ps.map fun p => V.ref p.1) ∧ (∀ p ∈ ps, Tu H1 p.1 (p.2.map kV)) ∧ (ps.map (·.2)).Nodup ∧ ps.length ≤ 16 ∧ Q (.int ps.length) H1))
theorem strs_of : ∀ {ys : List Str} {us : List Value}, Vals (ys.map V.str) us → StrsAre us ys
  | [], _, .nil => .nil
  | y :: ys, _, .cons ⟨k, e⟩ t => by
    subst e
    exact .cons y k (strs_of t)
theorem refs_of : ∀ {as : List Addr} {us : List Value}, Vals (as.map V.ref) us → us = as.map Value.ref
  | [], _, .nil => rfl
  | a :: as, _, .cons h t => by
    have e : _ = Value.ref a := h
    rw [e, refs_of t]; rfl
theorem pe_lenSetD {a : Expr} {ta : TE} {p p2 q pos : Pos} (hu : X.A.units + 64 < cLine) (hc : X.calm = true) (hg : Gl X "len") (hm : X.mg "len" = none) (hg2 : Gl X "set") (hm2 : X.mg "set" = none) (ha : PE X a ta)
    (st : starEach [a] X.env = (false, eval a X.env) :: starEach [] X.env := by rfl) : PE X (.Call (.Name "len" p) [.Call (.Name "set" p2) [a] [] q] [] pos) (tLenSetD X.K ta) := by
  constructor
  intro pins s σ H Q I h
  refine Call_ (ld_blt I hg hm boot_len ?_)
  refine callWith_builtin1 (args_cons ?_ rfl) rfl rfl
  refine Call_ (ld_blt I hg2 hm2 boot_set ?_)
  refine PyProof.Rows.callWith_type1 (args_cons (thn (ha.run pins s σ H _ I h) ?_) st) st rfl
  rintro v s1 ⟨x, H1, I1, r1, l, rfl, w1⟩
  refine args_nil ?_
  obtain rfl : v = Value.ref l := r1
  have S0 : s1.heap.get? s1.heap.objs.size = none := by
    cases e : s1.heap.get? s1.heap.objs.size with
    | none => rfl
    | some o => exact absurd (Heap.lt_size e) (Nat.lt_irrefl _)
  rcases w1 with ⟨xs, hx, nd, few, fin⟩ | ⟨ps, hx, keys, nd, few, fin⟩
  · obtain ⟨its, rel, tp, _⟩ := I1.tuple hx
    have sa := strs_of rel
    have hl : its.toArray.size = xs.length := by rw [List.size_toArray, ← rel.length, List.length_map]
    refine set_of_tuple (I1.ok.hd hc) tp (fun A' _ => grow_texts S0 (by simpa using sa) nd few) fun g tk z old => ?_
    refine args_nil ?_
    rw [hl] at z
    obtain ⟨o, es, ep, t, ho, hex, hd, _, _, _, hf, hn⟩ := z
    have I2 : Inv X pins σ H1 { s1 with heap := g, toks := tk } := I1.kept old
    exact call_len_set ho hex hd hf (by rw [hn]; omega) ⟨.int xs.length, H1, I2.tok _, ⟨_, by rw [hn]⟩, fin⟩
  · obtain ⟨its, rel, tp, _⟩ := I1.list hx
    have e0 : its = ps.map fun p => Value.ref p.1 := by
      have z := refs_of (as := ps.map (·.1)) (by rw [List.map_map]; exact rel)
      rw [z, List.map_map]; rfl
    have hl : its.toArray.size = ps.length := by rw [List.size_toArray, e0, List.length_map]
    refine set_of_list (I1.ok.hd hc) tp.isList (fun A' hA => grow_tups S0 (ks := ps) (by simpa using e0) nd few (fun p hp => tu_key I1 (keys p hp)) (by omega)) fun g tk z old => ?_
    refine args_nil ?_
    rw [hl] at z
    obtain ⟨L, es, t, R, pm⟩ := z
    rw [List.take_length] at pm
    have hn : es.size = ps.length := (rowsK_len R.rows).trans pm.length_eq
    obtain ⟨o, ep, ho, hex, hd⟩ := R.obj
    have I2 : Inv X pins σ H1 { s1 with heap := g, toks := tk } := I1.kept old
    exact call_len_set ho hex hd (R.fit (s := { s1 with heap := g })) (by rw [hn]; omega) ⟨.int ps.length, H1, I2.tok _, ⟨_, by rw [hn]⟩, fin⟩
end
section
variable {Tb : List (Addr × Str)} {ta : TE} {δ : List Sl} {ω : Om} {Φ : Sl → Om → Prop}
theorem TAs.tups {H : Hp} : ∀ {xs : List V} {ls : List (List Str)}, TAs H xs (ls.map tS) → ∃ ps : List (Addr × List Key), xs = ps.map (fun p => V.ref p.1) ∧ (∀ p ∈ ps, Tu H p.1 (p.2.map kV)) ∧ ps.map (·.2) = ls.map kS
  | _, [], h => by
    cases h
    exact ⟨[], rfl, (fun p hp => by cases hp), rfl⟩
  | _, l :: ls, h => by
    cases h with
    | cons h t =>
      obtain ⟨a, rfl, ha⟩ := h.tuS
      obtain ⟨ps, rfl, h2, h3⟩ := TAs.tups t
      exact ⟨(a, kS l) :: ps, rfl, fun p hp => (List.mem_cons.mp hp).elim (fun e => e ▸ ha) (h2 p), by rw [List.map_cons, List.map_cons, h3]⟩
theorem ex_lenSetT (K : PySem.W.Frag) (h : EX Tb ta δ ω fun s ω1 => ∃ xs, s = .dt (tS xs) ∧ xs.Nodup ∧ xs.length < 64 ∧ Φ (.dt (.int xs.length)) ω1) : EX Tb (tLenSetD K ta) δ ω Φ := fun B σ H Q S k =>
  h B σ H _ S fun v s ω1 H1 q e kk p => by
    obtain ⟨xs, rfl, nd, few, q⟩ := q
    obtain ⟨a, rfl, ht⟩ := kk.data.tuS
    rw [kS_kV] at ht
    exact ⟨a, rfl, .inl ⟨xs, ht.sq, nd, few, k _ _ ω1 H1 q e (slDt (.int _)) p⟩⟩
theorem ex_lenSetL (K : PySem.W.Frag) (h : EX Tb ta δ ω fun s ω1 => ∃ ls : List (List Str), IsLs ω1 s (ls.map tS) ∧ ls.Nodup ∧ ls.length ≤ 16 ∧ Φ (.dt (.int ls.length)) ω1) : EX Tb (tLenSetD K ta) δ ω Φ := fun B σ H Q S k =>
  h B σ H _ S fun v s ω1 H1 q e kk p => by
    obtain ⟨ls, hl, nd, few, q⟩ := q
    obtain ⟨a, xs, rfl, ha, t⟩ := isLs hl p kk
    obtain ⟨ps, rfl, h2, h3⟩ := t.tups
    have hn : ps.length = ls.length := by
      have z := congrArg List.length h3
      simpa using z
    refine ⟨a, rfl, .inr ⟨ps, SqL.of ha, h2, ?_, by omega, ?_⟩⟩
    · rw [h3]
      exact List.Pairwise.map kS (fun a b ne e => ne (kS_inj e)) nd
    · rw [hn]
      exact k _ _ ω1 H1 q e (slDt (.int _)) p
end

/-! ### sorted(t), t a tuple of texts -/
section
variable {prog : Program} {w : World} {A : Around} {E : Value → Shared → Prop} {s : Shared}
theorem collect_tup {l : Addr} {vs : List Value} {Q : List Value → Shared → Prop} (hl : s.heap.IsTuple l vs.toArray) (few : vs.length ≤ sizeLine)
    (q : Q vs { s with heap := (s.heap.push (seqObj "list" #[] 0)).update s.heap.objs.size (Obj.mapSeq (· ++ vs.toArray)) }) : wpAny (model prog w) A (collect (.ref l)) Q E s := by
  obtain ⟨o, ho, hc, n, hd⟩ := id hl
  have ho' : (s.heap.push (seqObj "list" #[] 0)).get? l = some o := Heap.get?_push_of_some _ ho
  unfold collect
  refine wpAny_bind (wpAny_runValue (codeAny_builtin entry_proto_collect' ?_))
  show wpAny _ _ (do again (.builtin "list.__iadd__" ⟨[← newList [], Value.ref l], []⟩)) _ _ s
  refine wpAny_bind (wpAny_newList (wpAny_pure ⟨Code.quiet_builtin _ (by decide +kernel), codeAny_builtin entry_list_iadd' ?_⟩) (Nat.zero_le _))
  show wpAny _ _ (Builtin.List.listExtendWith (Value.ref s.heap.objs.size) (Value.ref l) (Value.ref s.heap.objs.size)) _ _ { s with heap := s.heap.push (seqObj "list" #[] 0) }
  unfold Builtin.List.listExtendWith
  refine wpAny_bind (wpAny_typeOf (T := "tuple") ⟨o, ho', hc⟩ ?_)
  rw [if_pos (by rw [show (Value.type "tuple" == Value.type "tuple") = true from rfl]; simp)]
  refine wpAny_bind (listItems_at ho' hd (wpAny_bind (listItems_at (xs := #[]) (n := 0) (Heap.get?_push_size _ rfl) rfl ?_)))
  rw [if_neg (by simp)]
  refine wpAny_bind (listUpdate_at (xs := #[]) (n := 0) (Heap.get?_push_size _ rfl) rfl (wpAny_pure ?_) (Nat.zero_le _) (by show (#[] ++ vs.toArray).size ≤ sizeLine + 1; simp only [List.size_toArray, List.length_nil, Array.size_append]; omega))
  show wpAny (model prog w) A (do
      let u ← load s.heap.objs.size
      match u.data with
      | .seq xs _ => pure xs.toList
      | _ => unsupported "internal:collect") Q E { s with heap := (s.heap.push (seqObj "list" #[] 0)).update s.heap.objs.size (Obj.mapSeq (· ++ vs.toArray)) }
  refine wpAny_bind (wpAny_load (get?_update_seq (Heap.get?_push_size _ rfl) _) ?_)
  show wpAny _ _ (pure ((#[] : Array Value) ++ vs.toArray).toList) Q E _
  rw [show ((#[] : Array Value) ++ vs.toArray).toList = vs from by simp]
  exact wpAny_pure q
theorem sort_tup {l : Addr} {vs : List Value} {ss : List Str} {Q : Value → Shared → Prop} (hl : s.heap.IsTuple l vs.toArray) (hS : StrsAre vs ss) (few : vs.length < 64)
    (q : ∀ (out : Array Value) (ts : List Str), StrsAre out.toList ts → ts.Perm ss → sortedS ts = true → Q (.ref (s.heap.objs.size + 1)) { s with heap := sortedAll s.heap vs out }) : wpAny (model prog w) A (call (.builtin "sorted") [.ref l]) Q E s := by
  have hz : vs.length ≤ sizeLine := by rw [sizeLine_eq]; omega
  refine Calls.call_function_entry kind_sorted plain_sorted entry_sorted (args_sorted1 _) ?_
  unfold Builtin.«sorted»
  refine wpAny_bind (m := checkCount "sorted" 1 1 _) (wpAny_pure (wpAny_bind (collect_tup hl hz (wpAny_bind (wpAny_newList ?_ hz)))))
  have e1 : ((s.heap.push (seqObj "list" #[] 0)).update s.heap.objs.size (Obj.mapSeq (· ++ vs.toArray))).objs.size = s.heap.objs.size + 1 := by rw [Heap.size_update, size_push']
  have at1 : (((s.heap.push (seqObj "list" #[] 0)).update s.heap.objs.size (Obj.mapSeq (· ++ vs.toArray))).push (seqObj "list" vs.toArray 0)).get? (s.heap.objs.size + 1) = some (seqObj "list" vs.toArray 0) := e1 ▸ Heap.get?_push_size _ rfl
  show wpAny _ _ _ _ _ { s with heap := ((s.heap.push (seqObj "list" #[] 0)).update s.heap.objs.size (Obj.mapSeq (· ++ vs.toArray))).push (seqObj "list" vs.toArray 0) }
  rw [e1]
  refine wpAny_bind (wpAny_holding (wpAny_call_entry slot_list_sort ⟨_, at1, rfl⟩ entry_list_sort (list_sort_treeK strKind_oneLt at1 hS.keysOf (fun v₁ v₂ rest e => keyKind_strs (by rw [← e]; exact hS)) few fun st a1 a2 => ⟨_, rfl, ?_⟩) (args_list_sort _)))
  obtain ⟨ts, h1, h2, h3⟩ := sorted_out_str hS a1 a2
  exact wpAny_pure ⟨_, rfl, q _ ts h1 h2 h3⟩
end
section
variable {X : Cx}
def rSortTup (K : PySem.W.Frag) : List V → Hp → VK → Prop := fun vs H Q => ∃ (a : Addr) (xs : List Str), vs = [V.ref a] ∧ SqT K H a (xs.map V.str) ∧ xs.length < 64 ∧ ∀ (ys : List Str) (p : Addr), ys.Perm xs → sortedS ys = true → H p = none → Q (.ref p) (upd H p (.lst (ys.map V.str)))
theorem cr_sortTup : CallR X (.builtin "sorted") (rSortTup X.K) := by
  rintro pins s σ H vs us Q I r ⟨a, xs, rfl, hx, few, fin⟩
  obtain ⟨its, rel, tp, _⟩ := I.tuple hx
  rw [Vals.ref1 r]
  have hl := rel.length
  rw [List.length_map] at hl
  refine sort_tup tp (strs_of rel) (by omega) fun out ys h1 h2 h3 => ?_
  obtain ⟨ep, at1⟩ := sortedAll_at s.heap its out
  have few2 : (ys.map V.str).length ≤ sizeLine := by rw [List.length_map, h2.length_eq, sizeLine_eq]; omega
  exact ⟨.ref _, upd H (s.heap.objs.size + 1) (.lst (ys.map V.str)), I.laid (t' := s.toks) (fun _ _ => sortedAll_old) (Nat.le_succ _) ⟨few2, out.toList, ep, vals_of_strs h1, at1⟩, rfl, fin ys _ h2 h3 (I.hok.fresh (Nat.le_succ _))⟩
end
section
variable {Tb : List (Addr × Str)} {ω : Om} {Φ : Sl → Om → Prop}
/-- two texts in order -/
def srt (p : Str × Str) : List Str := if sortedS [p.1, p.2] = true then [p.1, p.2] else [p.2, p.1]
theorem srt_perm (p : Str × Str) : (srt p).Perm [p.1, p.2] := by
  unfold srt
  split
  · exact List.Perm.refl _
  · exact List.Perm.swap ..
theorem cps_antisymm {a b : Str} (h1 : ltCps b.cps.toList a.cps.toList = false) (h2 : ltCps a.cps.toList b.cps.toList = false) : a = b := by
  rw [ltCps_eq, decide_eq_false_iff_not] at h1 h2
  have e : a.cps.toList = b.cps.toList := List.le_antisymm h1 h2
  cases a; cases b
  simpa using e
theorem perm2 {a b : Str} {ys : List Str} (h : ys.Perm [a, b]) : ys = [a, b] ∨ ys = [b, a] := by
  have hl := h.length_eq
  match ys, hl with
  | [x, y], _ =>
    have hx : x = a ∨ x = b := by simpa using h.mem_iff.mp (List.mem_cons_self ..)
    rcases hx with rfl | rfl
    · have := (List.perm_cons x).mp h
      rw [List.perm_singleton.mp this]; exact .inl rfl
    · have := (List.perm_cons x).mp (h.trans (List.Perm.swap ..))
      rw [List.perm_singleton.mp this]; exact .inr rfl
theorem srt_of {p : Str × Str} {ys : List Str} (h : ys.Perm [p.1, p.2]) (s : sortedS ys = true) : ys = srt p := by
  unfold srt
  rcases perm2 h with rfl | rfl
  · rw [if_pos s]
  · by_cases s2 : sortedS [p.1, p.2] = true
    · rw [if_pos s2]
      simp only [sortedS, risingS, Bool.and_true, Bool.not_eq_true'] at s s2
      rw [cps_antisymm s2 s]
    · rw [if_neg s2]
theorem srt_inj {p q : Str × Str} (h : srt p = srt q) : p = q ∨ p = (q.2, q.1) := by
  have pm : [p.1, p.2].Perm [q.1, q.2] := (srt_perm p).symm.trans (h ▸ srt_perm q)
  rcases perm2 pm with e | e
  · left
    cases p; cases q
    simpa using e
  · right
    cases p; cases q
    simpa using e
theorem kx_sortTup (K : PySem.W.Frag) {p : Str × Str} (q : ∀ a : Addr, Φ (.pt a) ((a, .ls ((srt p).map .str)) :: ω)) : KX Tb (rSortTup K) [.dt (rdD p)] ω Φ := fun B H vs Q S h k => by
  obtain ⟨v, rfl, hv⟩ := one_of h
  obtain ⟨a, rfl, ht⟩ := T.tuS (l := [p.1, p.2]) hv.data
  rw [kS_kV] at ht
  refine ⟨a, [p.1, p.2], rfl, ht.sq, by simp, fun ys b pm s hp => ?_⟩
  obtain rfl := srt_of pm s
  have se := same_new (H := H) (o := .lst ((srt p).map V.str)) hp
  exact k _ _ _ _ (q b) (Ext.of se).tup rfl (S.new se hp ⟨_, upd_same, TAs.ofStrs _⟩)
end
end Km
/-! Text KmMin -/
/-! min(t, key = lambda y: web[0].index(y)); t[::-1]; f(k = .., ..) -/
namespace Km
open PySem PySem.Spec PyProof.Rows L2 LamX
theorem vals_back : ∀ {xs : List V} {us : List Value} {i : Nat} {u : Value}, Vals xs us → us[i]? = some u → ∃ x, xs[i]? = some x ∧ RelV x u
  | _, _, _, _, .nil, e => by simp at e
  | _, _, 0, _, .cons r _, e => by
    have e' := Option.some.inj e
    subst e'
    exact ⟨_, rfl, r⟩
  | _, _, i + 1, _, .cons _ t, e => vals_back (i := i) t e
section
variable {X : Cx}
def tMinKey (T : List (Addr × Str)) (ta tb : TE) : TE := fun σ H Q => ta σ H fun x H1 => Tabs T H1 ∧ ∀ H2, Ext H1 H2 → Tabs T H2 → ∃ l xs, ∃ kf : Nat → Int, x = .ref l ∧ Tu H2 l xs ∧ 0 < xs.length ∧
  (∀ i v, xs[i]? = some v → ∀ Q' : VK, Q' (.int (kf i)) H2 → tb (σ ++ [some v]) H2 Q') ∧ ∀ i v, xs[i]? = some v → (∀ j, j < xs.length → kf i ≤ kf j) → Q v H2
theorem pe_minKey {T : List (Addr × Str)} {c Pt : Addr} {a body : Expr} {params : Arguments} {scope : Scope} {y : Str} {k : Nat} {ta tb : TE} {p pos lpos kpos : Pos} (hg : Gl X "min") (hm : X.mg "min" = none) (hc : X.calm = true) (TB : TabB X.base X.mg c Pt) (hcode : X.env.code = .ref c)
    (hT1 : T = [(Pt, X.env.qual ++ "<lambda>")]) (L : LamY X.env.scope scope y) (new : y ∉ X.N) (hr : Room (k + 2) X.A) (ha : PE X a ta) (hdef : defaultsOf params X.env = ([], []))
    (hbind : ∀ (q : Str) (cl : List (Str × Addr)) (pm cv ctv u : Value), bindArgs (PySem.W.kla_fn "<lambda>" q params body scope cl pm cv ctv) ⟨[u], []⟩ = pure [(y, u)])
    (hb : ∀ (s : Shared) (H : Hp) (f c' : Addr), PE (lamY X X.A.in1 s H scope y f c') body tb)
    (st : starEach [a] X.env = (false, eval a X.env) :: starEach [] X.env := by rfl) (he : backTo pos (starEach [a] X.env) = (false, eval a X.env) :: backTo pos (starEach [] X.env) := by rfl) (hpl : (backTo pos (starEach [a] X.env)).any (·.1) = false := by rfl)
    (hks : (backToKw pos (keywordEach [⟨some "key", .Lambda params body scope lpos, kpos⟩] X.env)).filterMap (·.1) = [Str.ofString "key"] := by rfl) :
    PE X (.Call (.Name "min" p) [a] [⟨some "key", .Lambda params body scope lpos, kpos⟩] pos) (tMinKey T ta tb) := by
  constructor
  intro pins s σ H Q I h
  refine wpAny_Call_Name_kw (ld_blt I hg hm (u := .builtin "min") (by first | rfl | decide +kernel) ?_)
  have hfree : ∀ z ∈ scope.names, z.2 = .free → ∃ c, X.env.cells.lookup z.1 = some c := fun z hz e => (L.free z hz e).elim (fun k => I.ok.has _ (.inl k)) fun k => I.ok.has _ (.inr k)
  refine PyProof.Rows.callWith_kw (thn ((pa_cons ha pa_nil st).run pos pins s σ H (fun vs H1 => match vs with | [x] => (Tabs T H1 ∧ ∀ H2, Ext H1 H2 → Tabs T H2 → ∃ l xs, ∃ kf : Nat → Int, x = .ref l ∧ Tu H2 l xs ∧ 0 < xs.length ∧
    (∀ i v, xs[i]? = some v → ∀ Q' : VK, Q' (.int (kf i)) H2 → tb (σ ++ [some v]) H2 Q') ∧ ∀ i v, xs[i]? = some v → (∀ j, j < xs.length → kf i ≤ kf j) → Q v H2) | _ => False) I h) ?_) he hpl (by rfl) (by rfl)
  rintro us s1 ⟨vs, H1, I1, r1, w1⟩
  match vs, w1 with
  | [x], w1 =>
  obtain ⟨hT, w1⟩ := w1
  rw [hks]
  show wpAny _ _ (evalAll [do let v ← eval (.Lambda params body scope lpos) X.env; standAt pos; pure v]) _ _ s1
  refine wpAny_evalAll_cons (wpAny_bind (lam_new I1 TB hcode hT1 hT hdef hfree fun f c' pm ctv H2 s2 I2 ext T2 hf hfn hfr hlt hco => wpAny_bind (wpAny_standAt (wpAny_pure (wpAny_evalAll_nil ?_)))))
  obtain ⟨l, xs, kf, rfl, ht, hne, hk, fin⟩ := w1 H2 ext T2
  obtain ⟨u, rfl, ru⟩ := vals1 r1
  obtain rfl : u = Value.ref l := ru
  obtain ⟨ob, h1, _⟩ := ht
  obtain ⟨at0, _, its, rel, o2, at2, cl, n, hd⟩ := (show ObjOk X.prog X.w H2 s2.heap l (.frz ob (.tup xs)) from I2.hok l _ h1)
  rw [at0] at at2
  cases at2
  have hl := rel.length
  have tup : ∀ s, Inv X pins σ H2 s → s.heap.IsTuple l its.toArray := fun s J => by
    obtain ⟨at1, _⟩ := (show ObjOk X.prog X.w H2 s.heap l (.frz ob (.tup xs)) from J.hok l _ h1)
    exact ⟨ob, at1, cl, n, hd⟩
  show wpAny _ _ (call (.builtin "min") [Value.ref l] [(Str.ofString "key", Value.ref f)]) _ _ s2
  refine min_key kf (I2.ok.hd hc) I2 tup (by rw [List.size_toArray, ← hl]; exact hne) hf hfn hfr (fun i v s3 hv J hfo => ?_) fun i v s3 hv best J => ?_
  · have hv' : its[i]? = some v := by simpa using hv
    obtain ⟨xv, e, rv⟩ := vals_back rel hv'
    exact lamY_call (k := k) J L new hfo hco (hbind _ _ _ _ _ _) J.env0.in1 hr.in1 (fun _ => hb s3 H2 f c') rv (hk i xv e _ ⟨rfl, rfl⟩)
  · have hv' : its[i]? = some v := by simpa using hv
    obtain ⟨xv, e, rv⟩ := vals_back rel hv'
    exact ⟨xv, H2, J, rv, fin i xv e fun j hj => best j (by rw [List.size_toArray, ← hl]; exact hj)⟩
end
section
variable {Tb : List (Addr × Str)} {ta : TE} {δ : List Sl} {ω : Om} {Φ : Sl → Om → Prop}
theorem Sees.snoc {B H : Hp} {σ : L2.St} (S : Sees Tb B σ H δ ω) {i : Nat} {s : Sl} (hi : δ[i]? = some s) (v : V) : ∃ x, (σ ++ [some v])[i]? = some x ∧ SlOk B H x s := by
  obtain ⟨x, h1, h2⟩ := S.sl i s hi
  exact ⟨x, by rw [List.getElem?_append_left (List.getElem?_eq_some_iff.mp h1).1]; exact h1, h2⟩
/-- .. of the places, by their place in the web -/
theorem ex_minWeb (K : PySem.W.Frag) {n : Nat} {ps ts : List Str} {w : PyData} (hn : δ.length = n) (hw : δ[0]? = some (.dt (.tuple [tS ps, w]))) (h : EX Tb ta δ ω fun s ω1 => s = .dt (tS ts) ∧ ts ≠ [] ∧ (∀ t ∈ ts, t ∈ ps) ∧ ∀ t ∈ ts, (∀ u ∈ ts, ps.idxOf t ≤ ps.idxOf u) → Φ (.dt (.str t)) ω1) :
    EX Tb (tMinKey Tb ta (tTix K (tOp (rIxT K) (tVar 0) (tC (.int 0))) (tCons (tVar n) tNil))) δ ω Φ := fun B σ H Q S k =>
  h B σ H _ S fun v s ω1 H1 q e kk p => by
    obtain ⟨rfl, ne, sub, q⟩ := q
    refine ⟨p.tab, fun H2 ex T2 => ?_⟩
    obtain ⟨l, rfl, ht⟩ := kk.data.tuS
    rw [kS_kV] at ht
    have S2 := ((S.re e p).ext ex T2)
    refine ⟨l, ts.map V.str, fun i => ((ps.idxOf (ts.getD i Str.empty) : Nat) : Int), rfl, ex.tup.tu ht, by rw [List.length_map]; exact List.length_pos_iff.mpr ne, fun i v hv Q' hq => ?_, fun i v hv best => ?_⟩
    · rw [List.getElem?_map] at hv
      cases e1 : ts[i]? with
      | none => rw [e1] at hv; cases hv
      | some t =>
        rw [e1] at hv
        obtain rfl : V.str t = v := Option.some.inj hv
        have ed : ts.getD i Str.empty = t := by rw [List.getD_eq_getElem?_getD, e1]; rfl
        have hq : Q' (.int ((ps.idxOf (ts.getD i Str.empty) : Nat) : Int)) H2 := hq
        rw [ed] at hq
        obtain ⟨xw, hx, hok⟩ := S2.snoc hw (V.str t)
        obtain ⟨xv, rfl, tw⟩ := hok
        obtain ⟨aw, ws, rfl, hws, tws⟩ := tw.tupv
        cases tws with
        | cons tp tr =>
          rename_i wp wr
          obtain ⟨ap, zs, rfl, hzs, tzs⟩ := tp.tupv
          have ez := tzs.strs
          subst ez
          have tm := sub t (List.mem_of_getElem? e1)
          have hlt : ps.idxOf t < ps.length := List.idxOf_lt_length_of_mem tm
          refine ⟨_, hx, aw, _, 0, _, rfl, rfl, hws.sq, atI_n (j := 0) rfl, ap, _, rfl, hzs, V.str t, ?_, ps, t, ps.idxOf t, rfl, hzs.sq, ?_, fun m hm2 e3 => ?_, hq⟩
          · rw [List.getElem?_append_right (by rw [S.len, hn]; exact Nat.le_refl _), S.len, hn, Nat.sub_self]; rfl
          · rw [List.getElem?_eq_getElem hlt, List.getElem_idxOf]
          · obtain ⟨hm3, e4⟩ := List.getElem?_eq_some_iff.mp e3
            have := List.not_of_lt_findIdx (p := fun z => z == t) hm2
            rw [e4] at this
            simp at this
    · rw [List.getElem?_map] at hv
      cases e1 : ts[i]? with
      | none => rw [e1] at hv; cases hv
      | some t =>
        rw [e1] at hv
        obtain rfl : V.str t = v := Option.some.inj hv
        refine k _ _ ω1 H2 (q t (List.mem_of_getElem? e1) fun u hu => ?_) (e.trans ex.tup) (slDt (.str t)) (p.ext ex T2)
        obtain ⟨j, hj, ej⟩ := List.getElem_of_mem hu
        have b : ((ps.idxOf (ts.getD i Str.empty) : Nat) : Int) ≤ ((ps.idxOf (ts.getD j Str.empty) : Nat) : Int) := best j (by rw [List.length_map]; exact hj)
        have ed : ts.getD i Str.empty = t := by rw [List.getD_eq_getElem?_getD, e1]; rfl
        have ed2 : ts.getD j Str.empty = u := by rw [List.getD_eq_getElem?_getD, List.getElem?_eq_getElem hj, ej]; rfl
        rw [ed, ed2] at b
        exact Int.ofNat_le.mp b
end

/-! ### t[::-1] -/
section
variable {prog : Program} {w : World} {A : Around} {E : Value → Shared → Prop} {s : Shared}
theorem back_bounds (n : Nat) : Builtin.Slice.sliceAdjust none none (-1) (n : Int) = ((n : Int) - 1, -1) := rfl
theorem back_places (n : Nat) : Builtin.Slice.slicePlaces ((n : Int) - 1) (-1) (-1) = n := by
  unfold Builtin.Slice.slicePlaces
  rw [if_neg (by decide), show (-(-1 : Int)) = 1 from rfl, Int.ediv_one]
  split <;> omega
theorem back_pick (xs : Array Value) : ((List.range xs.size).filterMap fun (m : Nat) => xs[(((xs.size : Nat) : Int) - 1 + (m : Int) * (-1)).toNat]?) = xs.toList.reverse := by
  have key : ∀ k, k ≤ xs.size → ((List.range k).filterMap fun (m : Nat) => xs[(((xs.size : Nat) : Int) - 1 + (m : Int) * (-1)).toNat]?) = xs.toList.reverse.take k := by
    intro k
    induction k with
    | zero => exact fun _ => rfl
    | succ k ih =>
      intro hk
      have e : (((xs.size : Nat) : Int) - 1 + (k : Int) * (-1)).toNat = xs.size - 1 - k := by omega
      have at_ : xs.toList.reverse[k]? = some (xs[xs.size - 1 - k]'(by omega)) := by
        rw [List.getElem?_reverse (by rw [Array.length_toList]; omega), Array.length_toList, Array.getElem?_toList, Array.getElem?_eq_getElem]
      rw [List.range_succ, List.filterMap_append, ih (by omega), take_next at_, List.filterMap_cons_some (b := xs[xs.size - 1 - k]'(by omega)) (by rw [e, Array.getElem?_eq_getElem])]
      rfl
  have h := key xs.size (Nat.le_refl _)
  rw [h, List.take_of_length_le (by rw [List.length_reverse, Array.length_toList]; exact Nat.le_refl _)]
theorem get_back {t sl : Addr} {items : Array Value} {vl vu vs : Value} {Q : Value → Shared → Prop} (ht : IsTup s.heap t items) (hs : s.heap.IsSliceOf sl vl vu vs) (pl : IsPart vl none) (pu : IsPart vu none) (ps : IsPart vs (some (-1))) (few : items.size ≤ sizeLine)
    (q : Q (.ref s.heap.objs.size) { s with heap := s.heap.push (tupOb items.toList.reverse) }) : wpAny (model prog w) A (getItem (.ref t) (.ref sl)) Q E s := by
  obtain ⟨os, a1, a2, a3⟩ := id hs
  have room : sizeOk (.seq items.toList.reverse.toArray) := by
    show items.toList.reverse.toArray.size ≤ sizeLine
    rw [List.size_toArray, List.length_reverse, Array.length_toList]
    exact few
  unfold getItem
  try with_reducible refine wpAny_holding ?_
  first | refine wpAny_bind (wpAny_pure ?_) | skip
  refine wpAny_bind (wpAny_sequenceKey ht.typeIs (by decide) ?_)
  refine wpAny_bind (wpAny_callSpecial?_slot (name := Str.ofString "__getitem__") ht.typeIs slot_tuple_getitem (wpAny_call_entry slot_tuple_getitem ht.typeIs PyProof.Rows.entry_tuple_getitem ?_ (PyProof.Rows.args_tuple_getitem _ _)))
  show wpAny _ _ (Builtin.Tuple.tupleItemsOf (Value.ref t) >>= _) _ _ s
  refine wpAny_bind (tupleItemsOf_ ht (wpAny_bind (wpAny_typeOf (⟨os, a1, a2⟩ : s.TypeIs (.ref sl) "slice") ?_)))
  rw [if_pos (by decide)]
  refine wpAny_bind ?_
  unfold Builtin.Slice.sliceApplied Builtin.Slice.sliceFields
  refine wpAny_bind (wpAny_bind (wpAny_field a1 a3 (x := vl) rfl (wpAny_bind (wpAny_field a1 a3 (x := vu) rfl (wpAny_bind (wpAny_field a1 a3 (x := vs) rfl (wpAny_pure ?_)))))))
  refine wpAny_bind (HT.slicePart_ ps ?_)
  show wpAny _ _ (if ((-1 : Int) == 0) = true then _ else _) _ _ s
  rw [if_neg (by decide)]
  refine wpAny_bind (HT.slicePart_ pl (wpAny_bind (HT.slicePart_ pu (wpAny_bind (wpAny_pure ?_)))))
  show wpAny _ _ (match Builtin.Slice.sliceAdjust none none (-1) (items.size : Int) with | (lo, hi) => pure (lo, (-1 : Int), Builtin.Slice.slicePlaces lo hi (-1))) _ _ s
  rw [back_bounds]
  show wpAny _ _ (pure ((items.size : Int) - 1, (-1 : Int), Builtin.Slice.slicePlaces ((items.size : Int) - 1) (-1) (-1))) _ _ s
  rw [back_places]
  refine wpAny_pure ?_
  show wpAny _ _ (if (((items.size : Int) - 1) == 0 && (-1 : Int) == 1 && items.size == items.size) = true then _ else _) _ _ s
  rw [if_neg (by simp), back_pick]
  first
    | exact wpAny_bind (m := Builtin.Tuple.tupleExact _) (wpAny_newObj_type (wpAny_pure ⟨_, rfl, wpAny_pure q⟩) room)
    | exact wpAny_bind (m := Builtin.Tuple.tupleExact _) (wpAny_newObj_type (wpAny_bind (wpAny_pure (wpAny_pure ⟨_, rfl, wpAny_pure q⟩))) room)
    | exact wpAny_bind (wpAny_bind (m := Builtin.Tuple.tupleExact _) (wpAny_newObj_type (wpAny_pure (wpAny_pure ⟨_, rfl, wpAny_pure q⟩)) room))
    | exact wpAny_bind (wpAny_bind (m := Builtin.Tuple.tupleExact _) (wpAny_newObj_type (wpAny_pure ⟨_, rfl, wpAny_pure q⟩) room))
end
section
variable {X : Cx}
def tBack (K : PySem.W.Frag) (te : TE) : TE := fun σ H Q => te σ H fun x H1 => ∃ a xs, x = .ref a ∧ SqT K H1 a xs ∧ ∀ p (o : Obj), H1 p = none → o.dict = none → Q (.ref p) (upd H1 p (.frz o (.tup xs.reverse)))
theorem pe_back {e : Expr} {te : TE} {k : Nat} {p1 p2 p3 pos : Pos} (he : PE X e te) : PE X (.Subscript e (.Slice none none (some (.UnaryOp .USub (.Constant (.int 1) k p1) p2)) p3) pos) (tBack X.K te) := by
  constructor
  intro pins s σ H Q I h
  refine Subscript_ (thn (he.run pins s σ H _ I h) ?_)
  rintro v s1 ⟨x, H1, I1, r1, a, xs, rfl, hx, fin⟩
  obtain rfl : v = Value.ref a := r1
  have hst : PO X (some (.UnaryOp .USub (.Constant (.int 1) k p1) p2)) (tPart (tUn (rU fun i => .int (-i)) (tC (.int 1)))) := po_some (pe_un un_neg pe_int)
  refine wpAny_Slice (thn (po_none.run pins s1 σ H1 (fun o H2 => o = none ∧ H2 = H1) I1 ⟨rfl, rfl⟩) ?_)
  rintro vl s2 ⟨_, _, I2, pl, rfl, rfl⟩
  refine thn (po_none.run pins s2 σ _ (fun o H3 => o = none ∧ H3 = _) I2 ⟨rfl, rfl⟩) ?_
  rintro vu s3 ⟨_, _, I3, pu, rfl, rfl⟩
  refine thn (hst.run pins s3 σ _ (fun o H4 => o = some (-1) ∧ H4 = _) I3 ⟨1, rfl, -1, rfl, rfl, rfl⟩) ?_
  rintro vs s4 ⟨_, _, I4, ps, rfl, rfl⟩
  have I5 := I4.kept (t' := s4.toks) (h' := s4.heap.push { cls := .type "slice", data := .fields #[vl, vu, vs] }) fun b o q => Heap.get?_push_of_some _ q
  obtain ⟨its, rel, tp, few⟩ := I5.tuple hx
  have hl := rel.length
  show wpAny (model X.prog X.w) X.A (subscriptTail e (.Slice none none (some (.UnaryOp .USub (.Constant (.int 1) k p1) p2)) p3) (.ref a) (.ref s4.heap.objs.size)) (EP X pins σ Q) X.xe _
  refine tail_any (ops := [.ref a, .ref s4.heap.objs.size]) tp.typeIs (PyProof.Rows.slot_tuple_getitem.lookup) ?_ (by with_unfolding_all rfl)
  refine get_back tp (Heap.IsSliceOf.new _ vl vu vs) pl pu ps (by rw [List.size_toArray]; omega) ?_
  exact ⟨.ref _, _, lay_tup I5 (ys := xs.reverse) (its := its.reverse) rel.reverse (by rw [List.length_reverse]; exact few), rfl, fin _ _ (I5.hok.fresh (Nat.le_refl _)) rfl⟩
end
section
variable {Tb : List (Addr × Str)} {te : TE} {δ : List Sl} {ω : Om} {Φ : Sl → Om → Prop}
theorem ex_back (K : PySem.W.Frag) (h : EX Tb te δ ω fun s ω1 => ∃ ds, s = .dt (.tuple ds) ∧ Φ (.dt (.tuple ds.reverse)) ω1) : EX Tb (tBack K te) δ ω Φ := fun B σ H Q S k =>
  h B σ H _ S fun v s ω1 H1 q e kk p => by
    obtain ⟨ds, rfl, q⟩ := q
    obtain ⟨a, xs, rfl, ha, ta⟩ := kk.data.tupv
    refine ⟨a, xs, rfl, ha.sq, fun p1 o hp hn => ?_⟩
    obtain ⟨se, tu⟩ := lay_same (xs := xs.reverse) hp hn
    have te3 := (Ext.of se).tup
    exact k _ _ ω1 _ q (e.trans te3) (slDt (.tup tu (ta.rev.mono te3))) (p.same se)
end

/-! ### f(b = y, a = x) -/
section
variable {X : Cx} {Tb : List (Addr × Str)}
def tGo2 (Tb : List (Addr × Str)) (R : Prm) (t1 t2 : TE) : TE := fun σ H Q => t1 σ H fun v2 H1 => t2 σ H1 fun v1 H2 => spG Tb 2 R [v1, v2] H2 Q E0
/-- a def of two parameters that may be called by keywords, the second first -/
def OkK (Tb : List (Addr × Str)) (P : Program) (w : World) (K : PySem.W.Frag) (mg : Str → Option Value) (base : Heap) (k : Nat) (x a b : Str) (R : Prm) : Prop :=
  ∃ f fd, FnOk P w K mg base CX0 k f fd [a, b] (spG Tb 2 R) ∧ mg x = some (.ref f) ∧ PySem.W.keepIn K (.ref f) = true ∧ Binds K fd [a, b] [] ∧ ∀ (s : Shared) (u1 u2 : Value), BindsTo s fd ⟨[], [(b, u2), (a, u1)]⟩ [(a, u1), (b, u2)]
theorem OkK.ok {P : Program} {w : World} {K : PySem.W.Frag} {mg : Str → Option Value} {base : Heap} {k : Nat} {x a b : Str} {R : Prm} (h : OkK Tb P w K mg base k x a b R) : OkF Tb P w K mg base k x [a, b] R :=
  let ⟨f, fd, h1, h2, h3, h4, _⟩ := h; ⟨f, fd, h1, h2, h3, h4⟩
theorem okK_of {P : Program} {w : World} {K : PySem.W.Frag} {mg : Str → Option Value} {base : Heap} {x a b : Str} {st : Stmt} {N : List Str} {R : Prm} (k : Nat) (h : Stands K mg x st) (S : FnScope N [a, b] (defScope st))
    (hb : ∀ {f : Addr} {fd : FuncData}, FunD K x x (defArgs st) (defBody st) (defScope st) [] [] f fd → Binds K fd [a, b] [])
    (hk : ∀ (kV doc pm : Value) (an : Option Addr) (cdv ct u1 u2 : Value), bindArgs (PySem.W.fnOf x x (defArgs st) (defBody st) (defScope st) .none kV doc pm an cdv ct) ⟨[], [(b, u2), (a, u1)]⟩ = pure [(a, u1), (b, u2)])
    (body : ∀ (f : Addr) (cdv : Value) (A : Around) (outer : List Env) (s : Shared) (H : Hp) (E : XK), Room k (A.deeper (envOfC x (defScope st) s.heap.objs.size f cdv)) →
      ∃ t, PSs (cxOf CX0 P w K mg base N x (defScope st) f cdv A outer s H E).nox (defBody st) t ∧ ∀ δ ω Φ, R δ ω Φ → RR Tb t (δ ++ List.replicate (N.length - 2) .un) ω { nx := fun _ ω' => ∃ ω'', Kp ω' ω'' ∧ Φ (.dt .none) ω'', rt := fun s ω' => ∃ ω'', Kp ω' ω'' ∧ Φ s ω'' }) :
    OkK Tb P w K mg base (k + 1) x a b R := by
  obtain ⟨f, fd, F, g⟩ := h
  refine ⟨f, fd, F.ok S (fun vs H Q E h => h.1) (fun cdv A outer s H vs Q E hr h => ?_), g, F.kp, hb F, fun s u1 u2 => ?_⟩
  · obtain ⟨t, h1, h2⟩ := body f cdv A outer s H E hr
    exact ⟨t, PSs.nox h1, body_ok h2 h⟩
  · obtain ⟨oc, od, dV, kV, doc, pm, an, cdv, ct, osl, rfl, lk, hcd, hD, hK⟩ := F.ex
    rcases hD with ⟨_, rfl⟩ | ⟨e, _⟩
    · exact .of_eq (hk kV doc pm an cdv ct u1 u2)
    · exact absurd rfl e
theorem pe_goK {k : Nat} {x a b : Str} {R : Prm} {p pos k1 k2 : Pos} {e1 e2 : Expr} {t1 t2 : TE} (h : OkK Tb X.prog X.w X.K X.mg X.base k x a b R) (hr : Room k X.A) (hg : Gl X x) (h1 : PE X e1 t1) (h2 : PE X e2 t2)
    (hdb : (x == ("__debug__" : Str)) = false := by decide) (hall : (backToKw pos (keywordEach [⟨some b, e1, k1⟩, ⟨some a, e2, k2⟩] X.env)).all (·.1.isSome) = true := by rfl)
    (hks : (backToKw pos (keywordEach [⟨some b, e1, k1⟩, ⟨some a, e2, k2⟩] X.env)).filterMap (·.1) = [b, a] := by rfl)
    (hpl : ((backTo pos (starEach [] X.env)).any (·.1) || (backToKw pos (keywordEach [⟨some b, e1, k1⟩, ⟨some a, e2, k2⟩] X.env)).any (·.1.isNone)) = false := by rfl) :
    PE X (.Call (.Name x p) [] [⟨some b, e1, k1⟩, ⟨some a, e2, k2⟩] pos) (tGo2 Tb R t1 t2) := by
  obtain ⟨f, fd, F, g, kp, _, bd⟩ := h
  constructor
  intro pins s σ H Q I w
  refine wpAny_Call_Name_kw (ld_glob I hg g ?_ hdb)
  refine PySem.W.callWith_KW0 (h₀ := X.base) I.ok.mod.kin kp hall ?_ hpl
  rw [hks]
  refine thn ((pk_cons (nm := some b) (kpos := k1) h1 (pk_cons (nm := some a) (kpos := k2) h2 pk_nil)).run pos pins s σ H (fun vs H2 => match vs with | [v2, v1] => spG Tb 2 R [v1, v2] H2 Q E0 | _ => False) I w) ?_
  rintro ws s2 ⟨zs, H2, I2, rz, q2⟩
  match zs, ws, rz, q2 with
  | [v2, v1], [u2, u1], .cons r2 (.cons r1 .nil), q2 =>
    refine ⟨I2.kIn, ?_⟩
    refine wpAny_call (codeAny_mono (F.run X.A X.stack s2 H2 ⟨[], [(b, u2), (a, u1)]⟩ [u1, u2] [v1, v2] Q E0 hr I2.env0 (bd s2 u1 u2) (.cons r1 (.cons r2 .nil)) q2) fun r s3 hq => ?_)
    cases r with
    | error e => exact (show False from hq).elim
    | ok fl =>
      cases fl with
      | ret u => exact I2.after hq
      | next => exact False.elim hq
      | brk => exact False.elim hq
      | cont => exact False.elim hq
end
section
variable {Tb : List (Addr × Str)} {t1 t2 : TE} {δ : List Sl} {ω : Om} {Φ : Sl → Om → Prop}
theorem ex_goK {Pm : List PyData → (List PyData → Prop) → Prop} (h : EX Tb t1 δ ω fun s2 ω1 => EX Tb t2 δ ω1 fun s1 ω2 => ∃ d1 d2, s1 = .dt d1 ∧ s2 = .dt d2 ∧ Pm [d1, d2] fun es => ∀ p, Φ (.pt p) ((p, .ls es) :: ω2)) : EX Tb (tGo2 Tb (newR Pm) t1 t2) δ ω Φ := fun B σ H Q S k =>
  h B σ H _ S fun v2 s2 ω1 H1 q e1 k1 p1 => q B σ H1 _ (S.re e1 p1) fun v1 s1 ω2 H2 q2 e2 k2 p2 => by
    obtain ⟨d1, d2, rfl, rfl, q3⟩ := q2
    have hp : (([] : Om) ++ ω2).Perm ω2 := List.Perm.refl _
    exact ⟨rfl, calm H2 [], [.dt d1, .dt d2], [], fun s ω' => Φ s (ω' ++ ω2), conv_ok p2 hp (conv_data ω2 [d1, d2]) ⟨k2, k1.mono e2, True.intro⟩, calm_heap p2 hp, ⟨rfl, [d1, d2], rfl, q3⟩, fun v s ω' H' q' e' r' p' => k v s (ω' ++ ω2) H' q' ((e1.trans e2).trans e') r'.sl (calm_back p2 hp p')⟩
end
end Km
/-! Text KmT -/
namespace Km
open PySem PySem.Spec PyProof.Rows L2 LamX
local macro_rules
  | `(tactic| walk_at "km1") => `(tactic| first
    | ((with_reducible apply ex_v); (focus rfl); (focus rfl))
    | with_reducible refine ex_int ?_
    | with_reducible refine ex_str ?_
    | with_reducible refine ex_bl ?_
    | with_reducible refine ex_non ?_
    | with_reducible refine ex_op ?_
    | with_reducible refine ex_un ?_
    | with_reducible refine ux_neg ?_
    | with_reducible refine ox_i0I ?_
    | with_reducible refine ox_i0B ?_
    | with_reducible refine ex_tup ?_
    | with_reducible refine ex_lst ?_
    | with_reducible refine ex_slT _ ?_
    | with_reducible refine ex_slL _ ?_
    | with_reducible refine px_none ?_
    | with_reducible refine px_some ?_
    | with_reducible refine ea_nil ?_
    | with_reducible refine ea_cons ?_
    | with_reducible refine ex_isi _ ?_
    | with_reducible refine ex_cb ?_
    | with_reducible refine ex_isN ?_
    | with_reducible refine ex_notN ?_
    | with_reducible refine ex_chain ?_
    | with_reducible refine ex_if ?_
    | with_reducible refine ex_and ?_
    | with_reducible refine ex_or ?_
    | with_reducible refine ex_not ?_
    | with_reducible refine ex_tix _ ?_
    | with_reducible refine ex_goD ?_
    | with_reducible refine ex_goN ?_
    | with_reducible refine ex_goF ?_
    | with_reducible refine ex_dget ?_
    | with_reducible refine ex_din ?_
    | with_reducible refine ex_dnotin ?_
    | with_reducible refine ex_dnew ?_
    | with_reducible refine et_test ?_
    | with_reducible refine et_val ?_
    | with_reducible refine et_and ?_
    | with_reducible refine et_or ?_
    | with_reducible refine et_not ?_
    | with_reducible refine et_yes ?_
    | with_reducible refine rr_seq ?_
    | with_reducible refine rr_asg ?_
    | with_reducible refine rr_ret ?_
    | with_reducible refine rr_retN ?_
    | with_reducible refine rr_drop ?_
    | with_reducible refine rr_if ?_
    | with_reducible refine rr_par ?_
    | with_reducible refine rr_next ?_
    | with_reducible refine rr_break ?_
    | with_reducible refine ix_tup _ ?_
    | with_reducible refine ix_range1 ?_
    | with_reducible refine ix_range2 ?_
    | with_reducible refine ix_down ?_
    | with_reducible refine ix_str ?_
    | with_reducible refine ix_keys ?_
    | with_reducible refine nb_dt ?_
    | with_reducible refine nb_pt ?_
    | with_reducible refine lc_name (by simp) ?_
    | with_reducible refine lc_pair (by simp) (by simp) ?_
    | with_reducible refine lc_new (by simp) (by simp) ?_
    | with_reducible refine for_name ?_
    | with_reducible refine for_pair ?_
    | with_reducible refine for_new ?_
    | with_reducible refine tup0 ?_
    | with_reducible refine tup1 ?_
    | with_reducible refine tup2 ?_
    | with_reducible refine tup3 ?_
    | with_reducible refine arg1 ?_
    | with_reducible refine arg2 ?_
    | with_reducible refine arg3 ?_
    | with_reducible refine arg4 ?_
    | with_reducible refine ⟨_, rfl, ?_⟩
    | with_reducible refine ⟨_, _, rfl, ?_⟩)
local macro_rules
  | `(tactic| walk_at "kms") => `(tactic| try simp (maxSteps := 2000) only [wipeS, List.map_cons, List.map_nil, List.set_cons_zero, List.set_cons_succ, Bool.false_eq_true, Bool.not_true, Bool.not_false, reduceIte])
local macro_rules
  | `(tactic| walk_at "km") => `(tactic| repeat (walk_at "km1"; walk_at "kms"))
local macro_rules
  | `(tactic| walk_at "kp") => `(tactic| repeat (first | exact Kp.refl _ | refine Kp.cons2 ?_ | refine Kp.cons ?_))
local macro_rules
  | `(tactic| walk_at "ls") => `(tactic| repeat (first | exact isLs_hd | exact isLs_bo | refine isLs_tl ?_))

theorem okL_of {Tb : List (Addr × Str)} {P : Program} {w : World} {K : PySem.W.Frag} {mg : Str → Option Value} {base : Heap} {x : Str} {st : Stmt} {ps N : List Str} {R : Prm} (k : Nat) (h : StandsL Tb base K mg x st) (S : FnScope N ps (defScope st))
    (hb : ∀ {f : Addr} {fd : FuncData}, FunD K x x (defArgs st) (defBody st) (defScope st) [] [] f fd → Binds K fd ps [])
    (body : ∀ (f c Pt : Addr) (A : Around) (outer : List Env) (s : Shared) (H : Hp) (E : XK), TabB base mg c Pt → Tb = [(Pt, (x ++ ".<locals>.") ++ "<lambda>")] → Room k (A.deeper (envOfC x (defScope st) s.heap.objs.size f (.ref c))) →
      ∃ t, PSs (cxOf CX0 P w K mg base N x (defScope st) f (.ref c) A outer s H E).nox (defBody st) t ∧ ∀ δ ω Φ, R δ ω Φ → RR Tb t (δ ++ List.replicate (N.length - ps.length) .un) ω { nx := fun _ ω' => ∃ ω'', Kp ω' ω'' ∧ Φ (.dt .none) ω'', rt := fun s ω' => ∃ ω'', Kp ω' ω'' ∧ Φ s ω'' }) :
    OkF Tb P w K mg base (k + 1) x ps R := by
  obtain ⟨f, c, Pt, fd, oc, od, dV, kV, doc, pm, an, ct, osl, rfl, lk, hcd, kp, F, g, TB, hT⟩ := h.ex
  refine ⟨f, _, fn_of lk hcd S (fun vs H Q E h => h.1) (fun A outer s H vs Q E hr h => ?_), g, kp, hb F⟩
  obtain ⟨t, h1, h2⟩ := body f c Pt A outer s H E TB hT hr
  exact ⟨t, PSs.nox h1, body_ok h2 h⟩
theorem lamY_told_from_least : LamY (defScope s_told_from_least) ⟨.function, [("place", .local), ("web", .free)], false, false, []⟩ "place" := ⟨rfl, rfl, rfl, rfl, by decide +kernel, by decide +kernel⟩
theorem new_told_from_least : ("place" : Str) ∉ N_told_from_least := by decide +kernel
variable {Tb : List (Addr × Str)} {P : Program} {w : World} {K : PySem.W.Frag} {mg : Str → Option Value} {base : Heap} {C : Addr}
/-! told_from_least(web, ring) -/
theorem tfl_eq {ps : List Str} {x : Str} {r : List Str} {t : Str} (sub : ∀ y ∈ x :: r, y ∈ ps) (ht : t ∈ x :: r) (le : ∀ u ∈ x :: r, ps.idxOf t ≤ ps.idxOf u) : t = leastOf ps x r := by
  have m : leastOf ps x r ∈ x :: r := by
    rcases leastOf_mem ps r x with h | h
    · rw [h]; exact List.mem_cons_self ..
    · exact List.mem_cons_of_mem _ h
  obtain ⟨h1, h2⟩ := leastOf_le ps r x
  have h3 : ps.idxOf (leastOf ps x r) ≤ ps.idxOf t := (List.mem_cons.mp ht).elim (fun e => e ▸ h1) (h2 t)
  exact idx_inj (sub t ht) (Nat.le_antisymm (le _ m) h3)
abbrev R_told_from_least : Prm := pureR fun ds k => ∃ (ps : List Str) (rs : List (Str × Str)) (l : List Str), ds = [webD ps rs, tS l] ∧ WebV ps rs ∧ (∀ y ∈ l, y ∈ ps) ∧ l.Nodup ∧ 3 ≤ l.length ∧ k (tS (tfl ps l))
theorem ok_told_from_least (G : Glob Tb base K mg C) : OkF Tb P w K mg base 4 "told_from_least" ["web", "ring"] R_told_from_least := by
  refine okL_of 3 G.d_told_from_least sc_told_from_least (fun F => F.bindsN fun _ _ _ _ _ _ us hl => match us, hl with | [_, _], _ => rfl) (fun f c Pt A outer s H E TB hT hr => ?_)
  have sc := sc_told_from_least
  have hv := hv_of hr
  have hu := hu_of hr
  refine ⟨_, (pss_cons (ps_set (i := 2) sc.nd rfl (Or.inl rfl) (pe_tix (pv 1) (pa_cons (pe_minKey (k := 1) rfl G.f_min rfl TB rfl hT lamY_told_from_least new_told_from_least (hr.mono (by decide)) (pv 1) rfl (fun _ _ _ _ _ _ => rfl) (fun _ _ _ _ => (pe_tix (K0 := K) (pe_ix (r := rIxT K) L2.ix_tup (pv 0) pe_int (fun _ _ => rfl)) (pa_cons (pv 4) pa_nil)))) pa_nil)))
  (pss_cons (ps_set (i := 3) sc.nd rfl (Or.inl rfl) (pe_op op_catF (pe_slice sl_tupF (pv 1) (po_some (pv 2)) po_none) (pe_slice sl_tupF (pv 1) po_none (po_some (pv 2)))))
  (pss_cons (ps_if (pt_cmpR op_lt (pe_tix (pe_ix L2.ix_tup (pv 0) pe_int (fun _ _ => rfl)) (pa_cons (pe_ix L2.ix_tup (pv 3) pe_int (fun _ _ => rfl)) pa_nil)) (pe_tix (pe_ix L2.ix_tup (pv 0) pe_int (fun _ _ => rfl)) (pa_cons (pe_ix L2.ix_tup (pv 3) (pe_un un_neg pe_int) (fun _ _ => rfl)) pa_nil)) (nomark _)) (pss_one (ps_ret (pv 3))) pss_nil)
  (pss_one (ps_ret (pe_op op_catF (pe_slice sl_tupF (pv 3) po_none (po_some pe_int)) (pe_back (pe_slice sl_tupF (pv 3) (po_some pe_int) po_none)))))))), ?_⟩
  clear sc hu
  rintro δ ω Φ ⟨rfl, ds, rfl, ps, rs, l, rfl, W, sub, nd, h3, q⟩
  show RR Tb _ [.dt (webD ps rs), .dt (tS l), .un, .un] [] _
  have hl : l ≠ [] := fun e => by rw [e] at h3; exact absurd h3 (by decide)
  walk_at "km"
  refine ex_minWeb _ (ts := l) rfl rfl ?_
  walk_at "km"
  refine ⟨by first | rfl | trivial, hl, sub, fun t ht le => ?_⟩
  walk_at "km"
  have hlt : l.idxOf t < l.length := List.idxOf_lt_length_of_mem ht
  have sm := W.p5
  have hlen : l.length ≤ ps.length := by
    exact List.Nodup.length_le_of_subset nd fun y hy => sub y hy
  refine ⟨ht, ?_⟩
  walk_at "km"
  rw [cut_from, cut_to]
  refine ox_catM _ (by simp; omega) ?_
  obtain ⟨f, hf⟩ : ∃ f, f = l.drop (l.idxOf t) ++ l.take (l.idxOf t) := ⟨_, rfl⟩
  have fl : f.length = l.length := by rw [hf]; simp; omega
  have fsub : ∀ y ∈ f, y ∈ ps := fun y hy => by
    rw [hf] at hy
    exact (List.mem_append.mp hy).elim (fun z => sub y (List.mem_of_mem_drop z)) fun z => sub y (List.mem_of_mem_take z)
  have ftfl : ∀ a z, f[1]? = some a → f.getLast? = some z → tfl ps l = if ps.idxOf a < ps.idxOf z then f else f.take 1 ++ (f.drop 1).reverse := by
    intro a z ha hz
    cases l with
    | nil => exact absurd rfl hl
    | cons x r =>
      have et := tfl_eq sub ht le
      have e1 : tfl ps (x :: r) = if ps.idxOf (f.getD 1 x) < ps.idxOf (f.getD (f.length - 1) x) then f else f.take 1 ++ (f.drop 1).reverse := by
        rw [hf, et]
        rfl
      rw [e1]
      rw [List.getD_eq_getElem?_getD, ha, List.getD_eq_getElem?_getD, ← List.getLast?_eq_getElem?, hz]
      rfl
  rw [← hf]
  obtain ⟨s0, a, m, z, ef⟩ : ∃ s0 a m z, f = s0 :: a :: (m ++ [z]) := by
    match f, fl with
    | [], fl => rw [← fl] at h3; exact absurd h3 (by decide)
    | [_], fl => rw [← fl] at h3; simp at h3
    | s0 :: a :: u, fl =>
      have hu : u ≠ [] := fun e => by rw [← fl, e] at h3; simp at h3
      exact ⟨s0, a, u.dropLast, u.getLast hu, by rw [List.dropLast_concat_getLast]⟩
  have fa : f[1]? = some a := by rw [ef]; rfl
  have fz : f.getLast? = some z := by rw [ef, show s0 :: a :: (m ++ [z]) = (s0 :: a :: m) ++ [z] from rfl, List.getLast?_concat]
  have q2 := ftfl a z fa fz
  walk_at "km"
  refine ox_ixT _ (atI_n (j := 0) rfl) ?_
  refine ⟨ps, rfl, ?_⟩
  walk_at "km"
  refine ox_ixT _ (atI_n (j := 1) (by rw [List.getElem?_map, fa]; rfl)) ?_
  walk_at "km"
  refine ⟨fsub a (List.mem_of_getElem? fa), ?_⟩
  walk_at "km"
  refine ox_ixT _ (atI_n (j := 0) rfl) ?_
  refine ⟨ps, rfl, ?_⟩
  walk_at "km"
  refine ox_ixT _ (atI_neg1 (by rw [List.getLast?_map, fz]; rfl)) ?_
  walk_at "km"
  refine ⟨fsub z (List.mem_of_getLast? fz), ?_⟩
  walk_at "km"
  by_cases less : ps.idxOf a < ps.idxOf z
  · refine ifT (decide_eq_true (Int.ofNat_lt.mpr less)) ?_
    walk_at "km"
    rw [if_pos less] at q2
    rw [q2] at q
    exact kp_end (Kp.refl _) q
  · refine ifF (decide_eq_false fun z => less (Int.ofNat_lt.mp z)) ?_
    walk_at "km"
    rw [if_neg less] at q2
    rw [q2] at q
    refine ex_back _ ?_
    walk_at "km"
    rw [show (1 : Int) = ((1 : Nat) : Int) from rfl, cut_from, cut_to]
    rw [← List.map_reverse]
    refine ox_catM _ (by simp; omega) ?_
    exact ⟨(fun _ z => nomatch z), kp_end (Kp.refl _) q⟩
end Km
/-! Text KmF8 -/
namespace Km
open PySem PySem.Spec PyProof.Rows L2 LamX
local macro_rules
  | `(tactic| walk_at "km1") => `(tactic| first
    | ((with_reducible apply ex_v); (focus rfl); (focus rfl))
    | with_reducible refine ex_int ?_
    | with_reducible refine ex_str ?_
    | with_reducible refine ex_bl ?_
    | with_reducible refine ex_non ?_
    | with_reducible refine ex_op ?_
    | with_reducible refine ex_un ?_
    | with_reducible refine ux_neg ?_
    | with_reducible refine ox_i0I ?_
    | with_reducible refine ox_i0B ?_
    | with_reducible refine ex_tup ?_
    | with_reducible refine ex_lst ?_
    | with_reducible refine ex_slT _ ?_
    | with_reducible refine ex_slL _ ?_
    | with_reducible refine px_none ?_
    | with_reducible refine px_some ?_
    | with_reducible refine ea_nil ?_
    | with_reducible refine ea_cons ?_
    | with_reducible refine ex_isi _ ?_
    | with_reducible refine ex_cb ?_
    | with_reducible refine ex_isN ?_
    | with_reducible refine ex_notN ?_
    | with_reducible refine ex_chain ?_
    | with_reducible refine ex_if ?_
    | with_reducible refine ex_and ?_
    | with_reducible refine ex_or ?_
    | with_reducible refine ex_not ?_
    | with_reducible refine ex_tix _ ?_
    | with_reducible refine ex_goD ?_
    | with_reducible refine ex_goN ?_
    | with_reducible refine ex_goF ?_
    | with_reducible refine ex_dget ?_
    | with_reducible refine ex_din ?_
    | with_reducible refine ex_dnotin ?_
    | with_reducible refine ex_dnew ?_
    | with_reducible refine et_test ?_
    | with_reducible refine et_val ?_
    | with_reducible refine et_and ?_
    | with_reducible refine et_or ?_
    | with_reducible refine et_not ?_
    | with_reducible refine et_yes ?_
    | with_reducible refine rr_seq ?_
    | with_reducible refine rr_asg ?_
    | with_reducible refine rr_ret ?_
    | with_reducible refine rr_retN ?_
    | with_reducible refine rr_drop ?_
    | with_reducible refine rr_if ?_
    | with_reducible refine rr_par ?_
    | with_reducible refine rr_next ?_
    | with_reducible refine rr_break ?_
    | with_reducible refine ix_tup _ ?_
    | with_reducible refine ix_range1 ?_
    | with_reducible refine ix_range2 ?_
    | with_reducible refine ix_down ?_
    | with_reducible refine ix_str ?_
    | with_reducible refine ix_keys ?_
    | with_reducible refine nb_dt ?_
    | with_reducible refine nb_pt ?_
    | with_reducible refine lc_name (by simp) ?_
    | with_reducible refine lc_pair (by simp) (by simp) ?_
    | with_reducible refine lc_new (by simp) (by simp) ?_
    | with_reducible refine for_name ?_
    | with_reducible refine for_pair ?_
    | with_reducible refine for_new ?_
    | with_reducible refine tup0 ?_
    | with_reducible refine tup1 ?_
    | with_reducible refine tup2 ?_
    | with_reducible refine tup3 ?_
    | with_reducible refine arg1 ?_
    | with_reducible refine arg2 ?_
    | with_reducible refine arg3 ?_
    | with_reducible refine arg4 ?_
    | with_reducible refine ⟨_, rfl, ?_⟩
    | with_reducible refine ⟨_, _, rfl, ?_⟩)
local macro_rules
  | `(tactic| walk_at "kms") => `(tactic| try simp (maxSteps := 2000) only [wipeS, List.map_cons, List.map_nil, List.set_cons_zero, List.set_cons_succ, Bool.false_eq_true, Bool.not_true, Bool.not_false, reduceIte])
local macro_rules
  | `(tactic| walk_at "km") => `(tactic| repeat (walk_at "km1"; walk_at "kms"))
local macro_rules
  | `(tactic| walk_at "kp") => `(tactic| repeat (first | exact Kp.refl _ | refine Kp.cons2 ?_ | refine Kp.cons ?_))
local macro_rules
  | `(tactic| walk_at "ls") => `(tactic| repeat (first | exact isLs_hd | exact isLs_bo | refine isLs_tl ?_))

variable {Tb : List (Addr × Str)} {P : Program} {w : World} {K : PySem.W.Frag} {mg : Str → Option Value} {base : Heap} {C : Addr}
/-! way_within(roads, place, other) -/
def optD : Option (List Str) → PyData
  | none => .none
  | some w => tS w
def stackD (st : List (List Str)) : List PyData := (st.map fun w => tS w.reverse).reverse
theorem stackD_cons (v : List Str) (st : List (List Str)) : stackD (v :: st) = stackD st ++ [tS v.reverse] := by
  unfold stackD
  rw [List.map_cons, List.reverse_cons]
theorem stackD_ok {ps : List Str} (hl : Lawful ps) {st : List (List Str)} (h : ∀ v ∈ st, ∀ y ∈ v, y ∈ ps) : okds 1 (stackD st) = true := okds_iff.mpr fun d hd => by
  obtain ⟨v, hv, rfl⟩ := List.mem_map.mp (List.mem_reverse.mp hd)
  exact okd_tS fun z hz => hl z (h v hv z (List.mem_reverse.mp hz))
theorem stackD_nil {st : List (List Str)} : stackD st = [] ↔ st = [] := by
  unfold stackD
  simp
theorem kp_nil (ω : Om) : Kp ω [] := ⟨ω, List.nil_sublist _, List.Perm.refl _⟩
theorem okds_nil (n : Nat) : okds n [] = true := by simp [okds]
theorem wexts_some {rs : List (Str × Str)} {v : List Str} {x t : Str} {r : Str × Str} (h : whead v x r = some t) : wexts (rs ++ [r]) v x = wexts rs v x ++ [t :: v] := by
  unfold wexts wheads
  rw [List.filterMap_append, List.map_append, List.filterMap_cons, h]
  rfl
theorem wexts_none {rs : List (Str × Str)} {v : List Str} {x : Str} {r : Str × Str} (h : whead v x r = none) : wexts (rs ++ [r]) v x = wexts rs v x := by
  unfold wexts wheads
  rw [List.filterMap_append, List.map_append, List.filterMap_cons, h]
  simp
theorem stackD_len (st : List (List Str)) : (stackD st).length = st.length := by simp [stackD]
theorem wexts_len (rs : List (Str × Str)) (v : List Str) (x : Str) : (wexts rs v x).length ≤ rs.length := by
  unfold wexts wheads
  rw [List.length_map]
  exact List.length_filterMap_le ..
abbrev R_way_within : Prm := fun δ ω Φ => ω = [] ∧ ∃ (ps : List Str) (laid : List (Str × Str)) (a b : Str), δ = [.bo (.ls (laid.map rdD)), .dt (.str a), .dt (.str b)] ∧ Lawful ps ∧ ps.length ≤ 5 ∧ laid.length ≤ 14 ∧
  (∀ r ∈ laid, r.1 ∈ ps ∧ r.2 ∈ ps) ∧ a ∈ ps ∧ b ∈ ps ∧ wayGo laid b (wt ps.length + 1) [[a]] = some (way (wt ps.length + 1) laid a b) ∧ Φ (.dt (optD (way (wt ps.length + 1) laid a b))) []
theorem ok_way_within (G : Glob Tb base K mg C) : OkF Tb P w K mg base 2 "way_within" ["roads", "place", "other"] R_way_within := by
  refine okF_of 1 G.d_way_within sc_way_within (fun F => F.bindsN fun _ _ _ _ _ _ us hl => match us, hl with | [_, _, _], _ => rfl) (fun f cdv A outer s H E hr => ?_)
  have sc := sc_way_within
  have hv := hv_of hr
  have hu := hu_of hr
  refine ⟨_, (pss_cons (ps_set (i := 3) sc.nd rfl (Or.inl rfl) (pe_lst (pa_cons (pe_tupF (pa_cons (pv 1) pa_nil)) pa_nil)))
  (pss_cons (ps_while PassesOwn.never (pt_cmpR (op_neD hr.units) (pv 3) (pe_lst pa_nil) (nomark _)) (pss_cons (ps_set (i := 4) sc.nd rfl (Or.inl rfl) (pe_bm0 (PySem.F.plainAttrs_list) (PySem.F.slot_list_pop) (PySem.F.type_list_pop) mt_pop (pv 3)))
  (pss_cons (ps_if (pt_cmpR (op_eqD hr.units) (pe_ix L2.ix_tup (pv 4) (pe_un un_neg pe_int) (fun _ _ => rfl)) (pv 2) (nomark _)) (pss_one (ps_ret (pv 4))) pss_nil)
  (pss_one (ps_for PassesOwn.never rfl (pi_list (pv 0)) (pg_tup (n := 2) rfl (pgs_cons (pg_name (i := 5) sc.nd rfl (Or.inl rfl)) (pgs_cons (pg_name (i := 6) sc.nd rfl (Or.inl rfl)) pgs_nil))) (pss_one (ps_if (pt_cmpR (op_inTp hv) (pe_ix L2.ix_tup (pv 4) (pe_un un_neg pe_int) (fun _ _ => rfl)) (pe_tupF (pa_cons (pv 5) (pa_cons (pv 6) pa_nil))) (by rfl)) (pss_cons (ps_set (i := 7) sc.nd rfl (Or.inl rfl) (pe_ifExp (pt_cmpR (op_eqD hr.units) (pv 5) (pe_ix L2.ix_tup (pv 4) (pe_un un_neg pe_int) (fun _ _ => rfl)) (nomark _)) (pv 6) (pv 5)))
  (pss_one (ps_if (pt_cmpR (op_notInTp hv) (pv 7) (pv 4) (by rfl)) (pss_one (ps_expr (pe_bm (PySem.F.plainAttrs_list) (PySem.F.slot_list_append) (PySem.F.type_list_append) mt_append (pv 3) (pa_cons (pe_op op_catF (pv 4) (pe_tupF (pa_cons (pv 7) pa_nil))) pa_nil)))) pss_nil))) pss_nil)))))))
  (pss_one (ps_ret pe_non)))), ?_⟩
  clear sc hu
  rintro δ ω Φ ⟨rfl, ps, laid, a, b, rfl, hl, p5, l14, he, ha, hb, hgo, q⟩
  generalize way (wt ps.length + 1) laid a b = res at hgo q
  show RR Tb _ [.bo (.ls (laid.map rdD)), .dt (.str a), .dt (.str b), .un, .un, .un, .un, .un] [] _
  have hwt : wt ps.length + 1 ≤ 327 := by
    have : ∀ n, n ≤ 5 → wt n ≤ 326 := by decide
    have := this _ p5
    omega
  refine rr_cut (fun δ' ω' => ∃ p, δ' = [.bo (.ls (laid.map rdD)), .dt (.str a), .dt (.str b), .pt p, .un, .un, .un, .un] ∧ ω' = [(p, .ls (stackD [[a]]))]) ?_ ?_
  · walk_at "km"
    intro p
    walk_at "km"
    rfl
  rintro δ' ω' ⟨p, rfl, rfl⟩
  refine rr_cut (fun δ' ω' => res = none) ?_ ?_
  · refine rr_while (fun n δ' ω' => ∃ st s4 s5 s6 s7, wayGo laid b n st = some res ∧ (∀ v ∈ st, ∀ y ∈ v, y ∈ ps) ∧ (∀ v ∈ st, v ≠ []) ∧ (st.length + 14 * n ≤ 5000 ∧ ∀ v ∈ st, v.length + n ≤ 400) ∧ δ' = [.bo (.ls (laid.map rdD)), .dt (.str a), .dt (.str b), .pt p, s4, s5, s6, s7] ∧ ω' = [(p, .ls (stackD st))])
      (wt ps.length + 1) ⟨[[a]], .un, .un, .un, .un, hgo, by simpa using ha, by simp, ⟨by simp; omega, by simp; omega⟩, rfl, rfl⟩ ?_
    rintro n δ' ω' ⟨st, s4, s5, s6, s7, g1, g2, g3, ⟨g4, g5⟩, rfl, rfl⟩
    walk_at "km"
    intro q1
    walk_at "km"
    refine ox_nel _ 1 (isLs_tl isLs_hd) isLs_hd (stackD_ok hl g2) (okds_nil 1) (by decide) fun b1 h1 => ?_
    rw [stackD_nil] at h1
    refine ⟨_, rfl, ?_⟩
    cases n with
    | zero =>
      unfold wayGo at g1
      cases g1
    | succ n =>
    cases st with
    | nil =>
      rw [h1.mpr rfl]
      walk_at "kms"
      unfold wayGo at g1
      exact (Option.some.inj g1).symm
    | cons v st =>
      have hb1 : b1 = false := by
        cases b1 with
        | false => rfl
        | true => exact absurd (h1.mp rfl) (by simp)
      subst hb1
      walk_at "kms"
      refine rr_kp (Kp.cons (Kp.refl _)) ?_
      obtain ⟨x, u, rfl⟩ : ∃ x u, v = x :: u := by
        cases v with
        | nil => exact absurd rfl (g3 [] (List.mem_cons_self ..))
        | cons x u => exact ⟨x, u, rfl⟩
      have mx : ∀ y ∈ x :: u, y ∈ ps := g2 _ (List.mem_cons_self ..)
      have lx := hl x (mx x (List.mem_cons_self ..))
      rw [stackD_cons]
      walk_at "km"
      refine ex_pop _ 0 ?_
      walk_at "km"
      refine ⟨_, _, _, rfl, rfl, ?_⟩
      walk_at "km"
      refine ox_ixM _ (z := x) (atI_e (by simp)) ?_
      walk_at "km"
      refine ox_eqs _ lx (hl b hb) ?_
      unfold wayGo at g1
      by_cases hxb : x = b
      · rw [if_pos hxb] at g1
        refine ⟨_, rfl, ifT (decide_eq_true hxb) ?_⟩
        walk_at "km"
        refine kp_end (kp_nil _) ?_
        rw [← Option.some.inj g1] at q
        exact q
      · rw [if_neg hxb] at g1
        refine ⟨_, rfl, ifF (decide_eq_false hxb) ?_⟩
        walk_at "km"
        refine rr_for T (fun i δ' ω' => ∃ s5 s6 s7, δ' = [.bo (.ls (laid.map rdD)), .dt (.str a), .dt (.str b), .pt p, .dt (tS (x :: u).reverse), s5, s6, s7] ∧ ω' = [(p, .ls (stackD ((wexts (laid.take i) (x :: u) x).reverse ++ st)))]) ?_
        refine ix_list _ ?_
        walk_at "km"
        refine ⟨laid.map rdD, .inl ⟨rfl, ⟨_, _, _, rfl, by simp [wexts, wheads]⟩, fun _ _ _ _ => True.intro, ?_, ?_⟩⟩
        · rintro i d δ' ω' hd ⟨t5, t6, t7, rfl, rfl⟩
          rw [List.getElem?_map] at hd
          cases hr : laid[i]? with
          | none => rw [hr] at hd; cases hd
          | some r =>
          rw [hr] at hd
          cases hd
          obtain ⟨one, two⟩ := r
          obtain ⟨m1, m2⟩ := he _ (List.mem_of_getElem? hr)
          have tk := take_succ hr
          walk_at "km"
          refine ox_ixM _ (z := x) (atI_e (by simp)) ?_
          walk_at "km"
          refine ox_in _ 1 (okd_s 1 lx) (okd_rd (p := (one, two)) (hl _ m1) (hl _ m2)) (by decide) fun b2 h2 => ?_
          have h2' : b2 = true ↔ (x = one ∨ x = two) := h2.trans (by simp)
          refine ⟨_, rfl, ?_⟩
          by_cases hx : x = one ∨ x = two
          · rw [h2'.mpr hx]
            walk_at "kms"
            refine rr_cut (fun δ' ω' => δ' = [.bo (.ls (laid.map rdD)), .dt (.str a), .dt (.str b), .pt p, .dt (tS (x :: u).reverse), .dt (.str one), .dt (.str two), .dt (.str (thereOf x (one, two)))] ∧ ω' = [(p, .ls (stackD ((wexts (laid.take i) (x :: u) x).reverse ++ st)))]) ?_ ?_
            · walk_at "km"
              refine ox_ixM _ (z := x) (atI_e (by simp)) ?_
              refine ox_eqs _ (hl _ m1) lx ?_
              unfold thereOf
              by_cases h1 : one = x
              · refine ⟨_, rfl, ifT (decide_eq_true h1) ?_⟩
                walk_at "km"
                simp [h1]
              · refine ⟨_, rfl, ifF (decide_eq_false h1) ?_⟩
                walk_at "km"
                simp [h1]
            · rintro δ' ω' ⟨rfl, rfl⟩
              have mt : thereOf x (one, two) ∈ ps := by
                unfold thereOf
                split
                · exact m2
                · exact m1
              walk_at "km"
              refine ox_notin _ 1 (okd_s 1 (hl _ mt)) (okd_tS (l := (x :: u).reverse) fun z hz => hl z (mx z (List.mem_reverse.mp hz))) (by decide) fun b3 h3 => ?_
              rw [mem_tS, List.mem_reverse] at h3
              refine ⟨_, rfl, ?_⟩
              have hwh : whead (x :: u) x (one, two) = if thereOf x (one, two) ∈ x :: u then none else some (thereOf x (one, two)) := by
                unfold whead
                rw [if_pos hx]
              generalize thereOf x (one, two) = t at mt h3 hwh ⊢
              by_cases ht : t ∈ x :: u
              · rw [if_pos ht] at hwh
                rw [h3.mpr ht]
                walk_at "kms"
                walk_at "km"
                refine ⟨_, Kp.refl _, _, _, _, rfl, ?_⟩
                rw [tk, wexts_none hwh]
              · rw [if_neg ht] at hwh
                have hb3 : b3 = false := by
                  cases b3 with
                  | false => rfl
                  | true => exact absurd (h3.mp rfl) ht
                rw [hb3]
                walk_at "kms"
                walk_at "km"
                refine ex_append _ 0 ?_
                walk_at "km"
                refine ⟨⟨_, List.mem_cons_self ..⟩, ?_⟩
                walk_at "km"
                refine ox_catM _ (l := (x :: u).reverse) (m := [t]) ?_ ?_
                · have := g5 _ (List.mem_cons_self ..)
                  rw [List.length_reverse]
                  simp only [List.length_cons, List.length_nil] at this ⊢
                  omega
                · walk_at "km"
                  refine ⟨?_, _, Kp.refl _, _, _, _, rfl, ?_⟩
                  · refine few_lt ?_
                    rw [stackD_len, List.length_append, List.length_reverse]
                    have := wexts_len (laid.take i) (x :: u) x
                    rw [List.length_take] at this
                    simp only [List.length_cons] at g4
                    omega
                  · rw [tk, wexts_some hwh, List.reverse_append, show ([t :: x :: u] : List (List Str)).reverse = [t :: x :: u] from rfl, List.append_assoc, List.singleton_append, stackD_cons]
                    simp
          · have hb2 : b2 = false := by
              cases b2 with
              | false => rfl
              | true => exact absurd (h2'.mp rfl) hx
            rw [hb2]
            have hwh : whead (x :: u) x (one, two) = none := by
              unfold whead
              rw [if_neg hx]
            walk_at "kms"
            walk_at "km"
            refine ⟨_, Kp.refl _, _, _, _, rfl, ?_⟩
            rw [tk, wexts_none hwh]
        · rintro δ' ω' ⟨t5, t6, t7, rfl, rfl⟩
          rw [List.length_map, List.take_length]
          refine ⟨n, _, Nat.lt_succ_self n, Kp.refl _, _, _, _, _, _, g1, ?_, ?_, ⟨?_, ?_⟩, rfl, rfl⟩
          · intro v hv y hy
            rcases List.mem_append.mp hv with hv | hv
            · obtain ⟨t, ht, rfl⟩ := List.mem_map.mp (List.mem_reverse.mp hv)
              rcases List.mem_cons.mp hy with rfl | hy
              · obtain ⟨_, h5⟩ := wheads_mem.mp ht
                rcases adj_iff.mp h5 with h5 | h5
                · exact (he _ h5).2
                · exact (he _ h5).1
              · exact mx y hy
            · exact g2 v (List.mem_cons_of_mem _ hv) y hy
          · intro v hv
            rcases List.mem_append.mp hv with hv | hv
            · obtain ⟨t, ht, rfl⟩ := List.mem_map.mp (List.mem_reverse.mp hv)
              exact List.cons_ne_nil _ _
            · exact g3 v (List.mem_cons_of_mem _ hv)
          · have := wexts_len laid (x :: u) x
            rw [List.length_append, List.length_reverse]
            simp only [List.length_cons] at g4
            omega
          · intro v hv
            rcases List.mem_append.mp hv with hv | hv
            · obtain ⟨t, ht, rfl⟩ := List.mem_map.mp (List.mem_reverse.mp hv)
              have := g5 _ (List.mem_cons_self ..)
              simp only [List.length_cons] at this ⊢
              omega
            · have := g5 v (List.mem_cons_of_mem _ hv)
              omega
  · rintro δ' ω' rfl
    walk_at "km"
    exact kp_end (kp_nil _) q
/-! told_rings(web) -/
abbrev R_told_rings : Prm := newR fun ds k => ∃ (ps : List Str) (rs : List (Str × Str)), ds = [webD ps rs] ∧ WebV ps rs ∧ k ((toldRings ps rs).map tS)
theorem told_len (ps : List Str) : ∀ (rest laid : List (Str × Str)), (told ps laid rest).length ≤ rest.length
  | [], _ => Nat.le_refl _
  | r :: rest, laid => by
    unfold told
    split
    · exact Nat.le_trans (told_len ps rest _) (Nat.le_succ _)
    · exact Nat.succ_le_succ (told_len ps rest _)
theorem ok_told_rings (G : Glob Tb base K mg C) : OkF Tb P w K mg base 5 "told_rings" ["web"] R_told_rings := by
  refine okF_of 4 G.d_told_rings sc_told_rings (fun F => F.bindsN fun _ _ _ _ _ _ us hl => match us, hl with | [_], _ => rfl) (fun f cdv A outer s H E hr => ?_)
  have sc := sc_told_rings
  have hv := hv_of hr
  have hu := hu_of hr
  have ok_told_from_least_ := ok_told_from_least (Tb := Tb) (P := P) (w := w) (base := base) G
  have ok_way_within_ := ok_way_within (Tb := Tb) (P := P) (w := w) (base := base) G
  refine ⟨_, (pss_cons (ps_par (i := 1) (j := 2) (by rfl) sc.nd rfl rfl (by decide) rfl rfl (pa_cons (pe_lst pa_nil) (pa_cons (pe_lst pa_nil) pa_nil)) (by rfl))
  (pss_cons (ps_for PassesOwn.never rfl (pi_tup (pe_ix L2.ix_tup (pv 0) pe_int (fun _ _ => rfl))) (pg_tup (n := 2) rfl (pgs_cons (pg_name (i := 3) sc.nd rfl (Or.inl rfl)) (pgs_cons (pg_name (i := 4) sc.nd rfl (Or.inl rfl)) pgs_nil))) (pss_cons (ps_set (i := 5) sc.nd rfl (Or.inl rfl) (pe_go 3 ok_way_within_ (hr.mono (by decide)) rfl (pa_cons (pv 1) (pa_cons (pv 3) (pa_cons (pv 4) pa_nil)))))
  (pss_one (ps_if (pt_cmp (pc_isN (pv 5)) (by rfl)) (pss_one (ps_expr (pe_bm (PySem.F.plainAttrs_list) (PySem.F.slot_list_append) (PySem.F.type_list_append) mt_append (pv 1) (pa_cons (pe_tupF (pa_cons (pv 3) (pa_cons (pv 4) pa_nil))) pa_nil)))) (pss_one (ps_expr (pe_bm (PySem.F.plainAttrs_list) (PySem.F.slot_list_append) (PySem.F.type_list_append) mt_append (pv 2) (pa_cons (pe_go 2 ok_told_from_least_ (hr.mono (by decide)) rfl (pa_cons (pv 0) (pa_cons (pv 5) pa_nil))) pa_nil))))))))
  (pss_one (ps_ret (pv 2))))), ?_⟩
  clear sc hu
  rintro δ ω Φ ⟨rfl, ds, rfl, ps, rs, rfl, W, q⟩
  show RR Tb _ [.dt (webD ps rs), .un, .un, .un, .un, .un] [] _
  refine rr_cut (fun δ' ω' => ∃ p g, δ' = [.dt (webD ps rs), .pt p, .pt g, .un, .un, .un] ∧ ω' = [(g, .ls []), (p, .ls [])]) ?_ ?_
  · walk_at "km"
    intro p
    walk_at "km"
    intro g
    walk_at "km"
  rintro δ' ω' ⟨p, g, rfl, rfl⟩
  refine rr_cut (fun δ' ω' => ∃ s1 s2 s3 o, δ' = [.dt (webD ps rs), .pt p, .pt g, s1, s2, s3] ∧ ω' = [(g, .ls ((toldRings ps rs).map tS)), (p, o)]) ?_ ?_
  · refine rr_for T (fun i δ' ω' => ∃ s1 s2 s3 L F, LaidOk ps rs L (rs.drop i) ∧ toldRings ps rs = F ++ told ps L (rs.drop i) ∧ L.length ≤ i ∧ F.length ≤ i ∧ δ' = [.dt (webD ps rs), .pt p, .pt g, s1, s2, s3] ∧ ω' = [(g, .ls (F.map tS)), (p, .ls (L.map rdD))]) ?_
    walk_at "km"
    refine ox_ixT _ (atI_n (j := 1) rfl) ?_
    walk_at "km"
    refine ⟨⟨_, _, _, [], [], laid_start W.web, rfl, Nat.le_refl _, Nat.le_refl _, rfl, rfl⟩, fun _ _ _ _ => True.intro, ?_, ?_⟩
    · rintro i d δ' ω' hd ⟨s1, s2, s3, L, F, c1, c2, c3, c4, rfl, rfl⟩
      rw [List.getElem?_map] at hd
      cases hr : rs[i]? with
      | none => rw [hr] at hd; cases hd
      | some r =>
      rw [hr] at hd
      cases hd
      obtain ⟨one, two⟩ := r
      have hi : i < rs.length := (List.getElem?_eq_some_iff.mp hr).1
      have hdr : rs.drop i = (one, two) :: rs.drop (i + 1) := by
        rw [List.drop_eq_getElem_cons hi, (List.getElem?_eq_some_iff.mp hr).2]
      have r14 := W.r10
      have p5 := W.p5
      obtain ⟨m1, m2, m3⟩ := W.web.ends _ (List.mem_of_getElem? hr)
      rw [hdr] at c1 c2
      have hin : ∀ r ∈ L, r.1 ∈ ps ∧ r.2 ∈ ps := fun r hr => ⟨(W.web.ends r (c1.sub r hr)).1, (W.web.ends r (c1.sub r hr)).2.1⟩
      walk_at "km"
      refine ex_go ?_
      walk_at "km"
      refine ⟨rfl, [], [(g, .ls (F.map tS)), (p, .ls (L.map rdD))], [.bo (.ls (L.map rdD)), .dt (.str one), .dt (.str two)], fun s ω' => s = .dt (optD (way (wt ps.length + 1) L one two)) ∧ ω' = [], List.Perm.refl _, .lend (by simp) (.dt (.dt .nil)), ⟨rfl, ps, L, one, two, rfl, W.law, p5, by omega, hin, m1, m2, way_go (c1.one.sublist (List.sublist_append_left _ _)) hin m1, rfl, rfl⟩, ?_⟩
      rintro s4 ω4 _ ⟨rfl, rfl⟩
      unfold told at c2
      cases hw : way (wt ps.length + 1) L one two with
      | none =>
        rw [hw] at c2
        walk_at "kms"
        walk_at "km"
        refine ⟨true, rfl, ?_⟩
        walk_at "km"
        refine ex_append _ 1 ?_
        walk_at "km"
        refine ⟨⟨L.map rdD, by simp⟩, ?_⟩
        walk_at "km"
        refine ⟨few_lt (by rw [List.length_map]; omega), ?_⟩
        refine ⟨_, Kp.refl _, _, _, _, L ++ [(one, two)], F, c1.lay, c2, by simp; omega, by omega, rfl, by simp⟩
      | some v =>
        rw [hw] at c2
        obtain ⟨v1, v2, v3⟩ := way_ring W.web c1 hw
        walk_at "kms"
        walk_at "km"
        refine ⟨false, rfl, ?_⟩
        walk_at "km"
        refine ex_append _ 0 ?_
        walk_at "km"
        refine ⟨⟨F.map tS, by simp⟩, ?_⟩
        walk_at "km"
        refine ⟨ps, rs, v, rfl, W, v2, v1.nd, v1.three, ?_⟩
        walk_at "km"
        refine ⟨few_lt (by rw [List.length_map]; omega), ?_⟩
        refine ⟨_, Kp.refl _, _, _, _, L, F ++ [tfl ps v], c1.put, by rw [c2]; simp, by omega, by simp; omega, rfl, by simp⟩
    · rintro δ' ω' ⟨s1, s2, s3, L, F, c1, c2, c3, c4, rfl, rfl⟩
      rw [List.length_map, List.drop_length] at c2
      have e : toldRings ps rs = F := by rw [c2]; simp [told]
      exact ⟨_, _, _, _, rfl, by rw [e]⟩
  · rintro δ' ω' ⟨s1, s2, s3, o, rfl, rfl⟩
    walk_at "km"
    exact kp_end (Kp.cons2 (Kp.cons (Kp.refl _))) (q g)
end Km
/-! Text KmF9 -/
namespace Km
open PySem PySem.Spec PyProof.Rows L2 LamX
local macro_rules
  | `(tactic| walk_at "km1") => `(tactic| first
    | ((with_reducible apply ex_v); (focus rfl); (focus rfl))
    | with_reducible refine ex_int ?_
    | with_reducible refine ex_str ?_
    | with_reducible refine ex_bl ?_
    | with_reducible refine ex_non ?_
    | with_reducible refine ex_op ?_
    | with_reducible refine ex_un ?_
    | with_reducible refine ux_neg ?_
    | with_reducible refine ox_i0I ?_
    | with_reducible refine ox_i0B ?_
    | with_reducible refine ex_tup ?_
    | with_reducible refine ex_lst ?_
    | with_reducible refine ex_slT _ ?_
    | with_reducible refine ex_slL _ ?_
    | with_reducible refine px_none ?_
    | with_reducible refine px_some ?_
    | with_reducible refine ea_nil ?_
    | with_reducible refine ea_cons ?_
    | with_reducible refine ex_isi _ ?_
    | with_reducible refine ex_cb ?_
    | with_reducible refine ex_isN ?_
    | with_reducible refine ex_notN ?_
    | with_reducible refine ex_chain ?_
    | with_reducible refine ex_if ?_
    | with_reducible refine ex_and ?_
    | with_reducible refine ex_or ?_
    | with_reducible refine ex_not ?_
    | with_reducible refine ex_tix _ ?_
    | with_reducible refine ex_goD ?_
    | with_reducible refine ex_goN ?_
    | with_reducible refine ex_goF ?_
    | with_reducible refine ex_dget ?_
    | with_reducible refine ex_din ?_
    | with_reducible refine ex_dnotin ?_
    | with_reducible refine ex_dnew ?_
    | with_reducible refine et_test ?_
    | with_reducible refine et_val ?_
    | with_reducible refine et_and ?_
    | with_reducible refine et_or ?_
    | with_reducible refine et_not ?_
    | with_reducible refine et_yes ?_
    | with_reducible refine rr_seq ?_
    | with_reducible refine rr_asg ?_
    | with_reducible refine rr_ret ?_
    | with_reducible refine rr_retN ?_
    | with_reducible refine rr_drop ?_
    | with_reducible refine rr_if ?_
    | with_reducible refine rr_par ?_
    | with_reducible refine rr_next ?_
    | with_reducible refine rr_break ?_
    | with_reducible refine ix_tup _ ?_
    | with_reducible refine ix_range1 ?_
    | with_reducible refine ix_range2 ?_
    | with_reducible refine ix_down ?_
    | with_reducible refine ix_str ?_
    | with_reducible refine ix_keys ?_
    | with_reducible refine nb_dt ?_
    | with_reducible refine nb_pt ?_
    | with_reducible refine lc_name (by simp) ?_
    | with_reducible refine lc_pair (by simp) (by simp) ?_
    | with_reducible refine lc_new (by simp) (by simp) ?_
    | with_reducible refine for_name ?_
    | with_reducible refine for_pair ?_
    | with_reducible refine for_new ?_
    | with_reducible refine tup0 ?_
    | with_reducible refine tup1 ?_
    | with_reducible refine tup2 ?_
    | with_reducible refine tup3 ?_
    | with_reducible refine arg1 ?_
    | with_reducible refine arg2 ?_
    | with_reducible refine arg3 ?_
    | with_reducible refine arg4 ?_
    | with_reducible refine ⟨_, rfl, ?_⟩
    | with_reducible refine ⟨_, _, rfl, ?_⟩)
local macro_rules
  | `(tactic| walk_at "kms") => `(tactic| try simp (maxSteps := 2000) only [wipeS, List.map_cons, List.map_nil, List.set_cons_zero, List.set_cons_succ, Bool.false_eq_true, Bool.not_true, Bool.not_false, reduceIte])
local macro_rules
  | `(tactic| walk_at "km") => `(tactic| repeat (walk_at "km1"; walk_at "kms"))
local macro_rules
  | `(tactic| walk_at "kp") => `(tactic| repeat (first | exact Kp.refl _ | refine Kp.cons2 ?_ | refine Kp.cons ?_))
local macro_rules
  | `(tactic| walk_at "ls") => `(tactic| repeat (first | exact isLs_hd | exact isLs_bo | refine isLs_tl ?_))

variable {Tb : List (Addr × Str)} {P : Program} {w : World} {K : PySem.W.Frag} {mg : Str → Option Value} {base : Heap} {C : Addr}
/-! ring_apart(web, order, other) -/
abbrev R_ring_apart : Prm := pureR fun ds k => ∃ (ps : List Str) (rs : List (Str × Str)) (o o' : List Str), ds = [webD ps rs, tS o, tS o'] ∧ WebV ps rs ∧ o.Perm ps ∧ o'.Perm ps ∧
  ((∀ l ∈ toldRings ps rs, stepsN o l = stepsN o' l) → k .none) ∧ ∀ l ∈ toldRings ps rs, stepsN o l ≠ stepsN o' l → k (tS l)
theorem told_mem {ps : List Str} {rs : List (Str × Str)} (W : WebV ps rs) {l : List Str} (h : l ∈ toldRings ps rs) : l.Nodup ∧ (∀ y ∈ l, y ∈ ps) ∧ l.length ≤ 5 := by
  obtain ⟨h1, _, h3⟩ := told_rings W.web rs [] (laid_start W.web) l h
  exact ⟨h1.nd, h3, Nat.le_trans (List.Nodup.length_le_of_subset h1.nd fun _ hy => h3 _ hy) W.p5⟩
theorem ok_ring_apart (G : Glob Tb base K mg C) : OkF Tb P w K mg base 6 "ring_apart" ["web", "order", "other"] R_ring_apart := by
  refine okF_of 5 G.d_ring_apart sc_ring_apart (fun F => F.bindsN fun _ _ _ _ _ _ us hl => match us, hl with | [_, _, _], _ => rfl) (fun f cdv A outer s H E hr => ?_)
  have sc := sc_ring_apart
  have hv := hv_of hr
  have hu := hu_of hr
  have ok_steps_forward_ := ok_steps_forward (Tb := Tb) (P := P) (w := w) (base := base) G
  have ok_told_rings_ := ok_told_rings (Tb := Tb) (P := P) (w := w) (base := base) G
  refine ⟨_, (pss_cons (ps_for PassesOwn.never rfl (pi_list (pe_go 1 ok_told_rings_ (hr.mono (by decide)) rfl (pa_cons (pv 0) pa_nil))) (pg_name (i := 3) sc.nd rfl (Or.inl rfl)) (pss_one (ps_if (pt_cmpR (op_neD hr.units) (pe_go 2 ok_steps_forward_ (hr.mono (by decide)) rfl (pa_cons (pv 1) (pa_cons (pv 3) pa_nil))) (pe_go 2 ok_steps_forward_ (hr.mono (by decide)) rfl (pa_cons (pv 2) (pa_cons (pv 3) pa_nil))) (nomark _)) (pss_one (ps_ret (pv 3))) pss_nil)))
  (pss_one (ps_ret pe_non))), ?_⟩
  clear sc hu
  rintro δ ω Φ ⟨rfl, ds, rfl, ps, rs, o, o', rfl, W, ho, ho', q1, q2⟩
  show RR Tb _ [.dt (webD ps rs), .dt (tS o), .dt (tS o'), .un] [] _
  refine rr_cut (fun δ' ω' => ∀ l ∈ toldRings ps rs, stepsN o l = stepsN o' l) ?_ ?_
  · refine rr_forE T ?_
    refine ix_list _ ?_
    walk_at "km"
    refine ⟨W, fun p => ⟨(toldRings ps rs).map tS, .inr ⟨p, rfl, by simp, fun i δ' ω' => ∃ s, (∀ l ∈ (toldRings ps rs).take i, stepsN o l = stepsN o' l) ∧ δ' = [.dt (webD ps rs), .dt (tS o), .dt (tS o'), s] ∧ ω' = [(p, .ls ((toldRings ps rs).map tS))], ⟨_, by simp, rfl, rfl⟩, ?_, ?_, ?_⟩⟩⟩
    · rintro i δ' ω' ⟨s, _, _, rfl⟩
      simp
    · rintro i d δ' ω' hd ⟨s, h1, rfl, rfl⟩
      rw [List.getElem?_map] at hd
      cases hr : (toldRings ps rs)[i]? with
      | none => rw [hr] at hd; cases hd
      | some l =>
      rw [hr] at hd
      cases hd
      have ml := List.mem_of_getElem? hr
      obtain ⟨t1, t2, t3⟩ := told_mem W ml
      walk_at "km"
      refine ⟨fun y hy => ho.mem_iff.mpr (t2 y hy), by omega, ?_⟩
      walk_at "km"
      refine ⟨fun y hy => ho'.mem_iff.mpr (t2 y hy), by omega, ?_⟩
      refine ox_nei _ ?_
      refine ⟨_, rfl, ?_⟩
      by_cases he : stepsN o l = stepsN o' l
      · refine ifF (by rw [he]; simp) ?_
        walk_at "km"
        refine ⟨_, Kp.refl _, _, ?_, rfl, rfl⟩
        rw [take_succ hr]
        intro l' hl'
        rcases List.mem_append.mp hl' with h | h
        · exact h1 l' h
        · rw [List.mem_singleton.mp h]
          exact he
      · refine ifT (by simp; omega) ?_
        walk_at "km"
        exact kp_end (kp_nil _) (q2 l ml he)
    · rintro δ' ω' ⟨s, h1, rfl, rfl⟩
      rw [List.length_map, List.take_length] at h1
      exact h1
  · rintro δ' ω' h
    walk_at "km"
    exact kp_end (kp_nil _) (q1 h)
/-! orders_behind(web, order, thing) -/
theorem run_perm' {rs : List (Str × Str)} {ps o o' : List Str} {ms : List Mv} (ho : o.Perm ps) (h : run rs o ms = some o') : o'.Perm ps := (run_perm h).trans ho
abbrev R_orders_behind : Prm := fun δ ω Φ => ω = [] ∧ ∃ (ps : List Str) (rs : List (Str × Str)) (o o' : List Str) (ms : List Mv), δ = [.dt (webD ps rs), .dt (tS o), .bo (.ls (ms.map mvD))] ∧ WebV ps rs ∧ o.Perm ps ∧ run rs o ms = some o' ∧ ms.length ≤ 100000 ∧
  ∀ (p : Addr) (os : List (List Str)), os.getLast? = some o' → Φ (.pt p) [(p, .ls (os.map tS))]
theorem ok_orders_behind (G : Glob Tb base K mg C) : OkF Tb P w K mg base 5 "orders_behind" ["web", "order", "thing"] R_orders_behind := by
  refine okF_of 4 G.d_orders_behind sc_orders_behind (fun F => F.bindsN fun _ _ _ _ _ _ us hl => match us, hl with | [_, _, _], _ => rfl) (fun f cdv A outer s H E hr => ?_)
  have sc := sc_orders_behind
  have hv := hv_of hr
  have hu := hu_of hr
  have ok_behind_move_ := ok_behind_move (Tb := Tb) (P := P) (w := w) (base := base) G
  have ok_is_move_ := ok_is_move (Tb := Tb) (P := P) (w := w) (base := base) G
  refine ⟨_, (pss_cons (ps_if (pt_not (pt_val (pe_callB call_isi (by rfl) G.f_isinstance (by decide +kernel) (pa_cons (pv 2) (pa_cons (pe_bltn (v := .ty "list") (by rfl) G.f_list (by decide +kernel) rfl) pa_nil))))) (pss_one (ps_ret pe_non)) pss_nil)
  (pss_cons (ps_set (i := 3) sc.nd rfl (Or.inl rfl) (pe_lst (pa_cons (pv 1) pa_nil)))
  (pss_cons (ps_for PassesOwn.never rfl (pi_list (pv 2)) (pg_name (i := 4) sc.nd rfl (Or.inl rfl)) (pss_cons (ps_set (i := 5) sc.nd rfl (Or.inl rfl) (pe_ifExp (pt_val (pe_go 2 ok_is_move_ (hr.mono (by decide)) rfl (pa_cons (pv 4) (pa_cons (pe_callB cr_lenQ (by rfl) G.f_len (by decide +kernel) (pa_cons (pv 1) pa_nil)) pa_nil)))) (pe_go 3 ok_behind_move_ (hr.mono (by decide)) rfl (pa_cons (pv 0) (pa_cons (pe_ix L2.ix_list (pv 3) (pe_un un_neg pe_int) (fun _ _ => rfl)) (pa_cons (pv 4) pa_nil)))) pe_non))
  (pss_cons (ps_if (pt_cmp (pc_isN (pv 5)) (by rfl)) (pss_one (ps_ret pe_non)) pss_nil)
  (pss_one (ps_expr (pe_bm (PySem.F.plainAttrs_list) (PySem.F.slot_list_append) (PySem.F.type_list_append) mt_append (pv 3) (pa_cons (pv 5) pa_nil)))))))
  (pss_one (ps_ret (pv 3)))))), ?_⟩
  clear sc hu
  rintro δ ω Φ ⟨rfl, ps, rs, o, o', ms, rfl, W, ho, hrun, hms, q⟩
  show RR Tb _ [.dt (webD ps rs), .dt (tS o), .bo (.ls (ms.map mvD)), .un, .un, .un] [] _
  walk_at "km"
  refine ⟨.inr ⟨_, isLs_bo⟩, true, kit_ll, ?_⟩
  walk_at "kms"
  walk_at "km"
  intro p
  walk_at "km"
  refine rr_for T (fun i δ' ω' => ∃ (os : List (List Str)) (oi : List Str) (s1 s2 : Sl), os.getLast? = some oi ∧ run rs o (ms.take i) = some oi ∧ run rs oi (ms.drop i) = some o' ∧ os.length = i + 1 ∧ δ' = [.dt (webD ps rs), .dt (tS o), .bo (.ls (ms.map mvD)), .pt p, s1, s2] ∧ ω' = [(p, .ls (os.map tS))]) ?_
  refine ix_list _ ?_
  walk_at "km"
  refine ⟨_, .inl ⟨rfl, ⟨[o], o, _, _, rfl, rfl, hrun, rfl, rfl, rfl⟩, fun _ _ _ _ => True.intro, ?_, ?_⟩⟩
  · rintro i d δ' ω' hd ⟨os, oi, s1, s2, h1, h2, h3, h4, rfl, rfl⟩
    rw [List.getElem?_map] at hd
    cases hr : ms[i]? with
    | none => rw [hr] at hd; cases hd
    | some m =>
    rw [hr] at hd
    cases hd
    have hi : i < ms.length := (List.getElem?_eq_some_iff.mp hr).1
    have hdr : ms.drop i = m :: ms.drop (i + 1) := by
      rw [List.drop_eq_getElem_cons hi, (List.getElem?_eq_some_iff.mp hr).2]
    have hoi := run_perm' ho h2
    rw [hdr] at h3
    unfold run at h3
    cases ha : appMv rs oi m with
    | none => rw [ha] at h3; cases h3
    | some on =>
    rw [ha] at h3
    have hl := ho.length_eq
    walk_at "km"
    refine kx_lenT _ ?_
    walk_at "km"
    have hoil := hoi.length_eq
    refine ⟨fun k hk => ?_, ?_⟩
    · subst hk
      obtain ⟨u, a, b, v, e1, _, _, e2⟩ := app_swap_inv ha
      rw [List.length_map, hl, ← hoil, e1, ← e2]
      simp
    walk_at "km"
    refine ox_ixLM _ isLs_hd (z := oi) (atI_e h1) ?_
    walk_at "km"
    refine ⟨ps, rs, oi, on, m, rfl, W, hoi, ha, ?_⟩
    walk_at "km"
    refine ⟨false, rfl, ?_⟩
    walk_at "km"
    refine ex_append _ 0 ?_
    walk_at "km"
    refine ⟨⟨_, List.mem_cons_self ..⟩, ?_⟩
    walk_at "km"
    refine ⟨few_lt (by rw [List.length_map]; omega), ?_⟩
    refine ⟨_, Kp.refl _, os ++ [on], on, _, _, by simp, ?_, h3, by simp [h4], rfl, by simp⟩
    rw [take_succ hr]
    refine run_trans h2 ?_
    unfold run
    rw [ha]
    rfl
  · rintro δ' ω' ⟨os, oi, s1, s2, h1, h2, h3, h4, rfl, rfl⟩
    rw [List.length_map, List.drop_length] at h3
    cases h3
    walk_at "km"
    exact kp_end (Kp.refl _) (q p os h1)
end Km
/-! Text KmL1 -/
namespace Km
open PySem PySem.Spec PyProof.Rows L2 LamX
local macro_rules
  | `(tactic| walk_at "km1") => `(tactic| first
    | ((with_reducible apply ex_v); (focus rfl); (focus rfl))
    | with_reducible refine ex_int ?_
    | with_reducible refine ex_str ?_
    | with_reducible refine ex_bl ?_
    | with_reducible refine ex_non ?_
    | with_reducible refine ex_op ?_
    | with_reducible refine ex_un ?_
    | with_reducible refine ux_neg ?_
    | with_reducible refine ox_i0I ?_
    | with_reducible refine ox_i0B ?_
    | with_reducible refine ex_tup ?_
    | with_reducible refine ex_lst ?_
    | with_reducible refine ex_slT _ ?_
    | with_reducible refine ex_slL _ ?_
    | with_reducible refine px_none ?_
    | with_reducible refine px_some ?_
    | with_reducible refine ea_nil ?_
    | with_reducible refine ea_cons ?_
    | with_reducible refine ex_isi _ ?_
    | with_reducible refine ex_cb ?_
    | with_reducible refine ex_isN ?_
    | with_reducible refine ex_notN ?_
    | with_reducible refine ex_chain ?_
    | with_reducible refine ex_if ?_
    | with_reducible refine ex_and ?_
    | with_reducible refine ex_or ?_
    | with_reducible refine ex_not ?_
    | with_reducible refine ex_tix _ ?_
    | with_reducible refine ex_goD ?_
    | with_reducible refine ex_goN ?_
    | with_reducible refine ex_goF ?_
    | with_reducible refine ex_dget ?_
    | with_reducible refine ex_din ?_
    | with_reducible refine ex_dnotin ?_
    | with_reducible refine ex_dnew ?_
    | with_reducible refine et_test ?_
    | with_reducible refine et_val ?_
    | with_reducible refine et_and ?_
    | with_reducible refine et_or ?_
    | with_reducible refine et_not ?_
    | with_reducible refine et_yes ?_
    | with_reducible refine rr_seq ?_
    | with_reducible refine rr_asg ?_
    | with_reducible refine rr_ret ?_
    | with_reducible refine rr_retN ?_
    | with_reducible refine rr_drop ?_
    | with_reducible refine rr_if ?_
    | with_reducible refine rr_par ?_
    | with_reducible refine rr_next ?_
    | with_reducible refine rr_break ?_
    | with_reducible refine ix_tup _ ?_
    | with_reducible refine ix_range1 ?_
    | with_reducible refine ix_range2 ?_
    | with_reducible refine ix_down ?_
    | with_reducible refine ix_str ?_
    | with_reducible refine ix_keys ?_
    | with_reducible refine nb_dt ?_
    | with_reducible refine nb_pt ?_
    | with_reducible refine lc_name (by simp) ?_
    | with_reducible refine lc_pair (by simp) (by simp) ?_
    | with_reducible refine lc_new (by simp) (by simp) ?_
    | with_reducible refine for_name ?_
    | with_reducible refine for_pair ?_
    | with_reducible refine for_new ?_
    | with_reducible refine tup0 ?_
    | with_reducible refine tup1 ?_
    | with_reducible refine tup2 ?_
    | with_reducible refine tup3 ?_
    | with_reducible refine arg1 ?_
    | with_reducible refine arg2 ?_
    | with_reducible refine arg3 ?_
    | with_reducible refine arg4 ?_
    | with_reducible refine ⟨_, rfl, ?_⟩
    | with_reducible refine ⟨_, _, rfl, ?_⟩)
local macro_rules
  | `(tactic| walk_at "kms") => `(tactic| try simp (maxSteps := 2000) only [wipeS, List.map_cons, List.map_nil, List.set_cons_zero, List.set_cons_succ, Bool.false_eq_true, Bool.not_true, Bool.not_false, reduceIte])
local macro_rules
  | `(tactic| walk_at "km") => `(tactic| repeat (walk_at "km1"; walk_at "kms"))
local macro_rules
  | `(tactic| walk_at "kp") => `(tactic| repeat (first | exact Kp.refl _ | refine Kp.cons2 ?_ | refine Kp.cons ?_))
local macro_rules
  | `(tactic| walk_at "ls") => `(tactic| repeat (first | exact isLs_hd | exact isLs_bo | refine isLs_tl ?_))

variable {Tb : List (Addr × Str)} {P : Program} {w : World} {K : PySem.W.Frag} {mg : Str → Option Value} {base : Heap} {C : Addr}
/-! _law_neighbours(web, place) -/
abbrev R_law_neighbours : Prm := newR fun ds k => ∃ (ps : List Str) (rs : List (Str × Str)) (x : Str), ds = [webD ps rs, .str x] ∧ WebV ps rs ∧ x ∈ ps ∧ k ((nbrs ps rs x).map .str)
theorem ok_law_neighbours (G : Glob Tb base K mg C) : OkF Tb P w K mg base 2 "_law_neighbours" ["_law_web_here", "_law_place"] R_law_neighbours := by
  refine okF_of 1 G.d_law_neighbours sc_law_neighbours (fun F => F.bindsN fun _ _ _ _ _ _ us hl => match us, hl with | [_, _], _ => rfl) (fun f cdv A outer s H E hr => ?_)
  have sc := sc_law_neighbours
  have hv := hv_of hr
  have hu := hu_of hr
  refine ⟨_, (pss_cons (ps_set (i := 2) sc.nd rfl (Or.inl rfl) (pe_lst pa_nil))
  (pss_cons (ps_for PassesOwn.never rfl (pi_tup (pe_ix L2.ix_tup (pv 0) pe_int (fun _ _ => rfl))) (pg_name (i := 3) sc.nd rfl (Or.inl rfl)) (pss_one (ps_if (PW.pt (pw_or (pt_cmpR (op_inTp hv) (pe_tupF (pa_cons (pv 1) (pa_cons (pv 3) pa_nil))) (pe_ix L2.ix_tup (pv 0) pe_int (fun _ _ => rfl)) (by rfl)) (pw_or1 (pt_cmpR (op_inTp hv) (pe_tupF (pa_cons (pv 3) (pa_cons (pv 1) pa_nil))) (pe_ix L2.ix_tup (pv 0) pe_int (fun _ _ => rfl)) (by rfl))))) (pss_one (ps_expr (pe_bm (PySem.F.plainAttrs_list) (PySem.F.slot_list_append) (PySem.F.type_list_append) mt_append (pv 2) (pa_cons (pv 3) pa_nil)))) pss_nil)))
  (pss_one (ps_ret (pv 2))))), ?_⟩
  clear sc hu
  rintro δ ω Φ ⟨rfl, ds, rfl, ps, rs, x, rfl, W, hx, q⟩
  show RR Tb _ [.dt (webD ps rs), .dt (.str x), .un, .un] [] _
  have p5 := W.p5
  walk_at "km"
  intro p
  walk_at "km"
  refine rr_for T (fun i δ' ω' => ∃ s, δ' = [.dt (webD ps rs), .dt (.str x), .pt p, s] ∧ ω' = [(p, .ls ((nbrs (ps.take i) rs x).map .str))]) ?_
  walk_at "km"
  refine ox_ixT _ (atI_n (j := 0) rfl) ?_
  walk_at "km"
  refine ⟨⟨_, rfl, rfl⟩, fun _ _ _ _ => True.intro, ?_, ?_⟩
  · rintro i d δ' ω' hd ⟨s, rfl, rfl⟩
    rw [List.getElem?_map] at hd
    cases hr : ps[i]? with
    | none => rw [hr] at hd; cases hd
    | some y =>
    rw [hr] at hd
    cases hd
    have hi : i < ps.length := (List.getElem?_eq_some_iff.mp hr).1
    have ly := W.law y (List.mem_of_getElem? hr)
    have lx := W.law x hx
    have tk : nbrs (ps.take (i + 1)) rs x = nbrs (ps.take i) rs x ++ (if adj rs x y = true then [y] else []) := by
      unfold nbrs
      rw [take_succ hr, List.filter_append, List.filter_cons, List.filter_nil]
    have go : ∀ e : adj rs x y = true, RR Tb (tDrop (tBM K "list" rAppend (tVar 2) (tCons (tVar 3) tNil))) [.dt (webD ps rs), .dt (.str x), .pt p, .dt (.str y)] [(p, .ls ((nbrs (ps.take i) rs x).map .str))]
        { nx := fun δ3 ω3 => ∃ ω4, Kp ω3 ω4 ∧ ∃ s, δ3 = [.dt (webD ps rs), .dt (.str x), .pt p, s] ∧ ω4 = [(p, .ls ((nbrs (ps.take (i + 1)) rs x).map .str))], rt := fun s ω' => ∃ ω'', Kp ω' ω'' ∧ Φ s ω'' } := fun e => by
      walk_at "km"
      refine ex_append _ 0 ?_
      walk_at "km"
      refine ⟨⟨_, List.mem_cons_self ..⟩, ?_⟩
      walk_at "km"
      refine ⟨few_lt ?_, _, Kp.refl _, _, rfl, ?_⟩
      · rw [List.length_map]
        have : (nbrs (ps.take i) rs x).length ≤ (ps.take i).length := List.length_filter_le ..
        rw [List.length_take] at this
        omega
      · rw [tk, if_pos e]
        simp
    walk_at "km"
    refine ox_ixT _ (atI_n (j := 1) rfl) ?_
    refine ox_in _ 2 (okd_le (by decide) (okd_rd (p := (x, y)) lx ly)) (okd_rds W.lr) (by decide) fun b1 h1 => ?_
    rw [mem_rds] at h1
    refine ⟨_, rfl, ?_⟩
    cases b1 with
    | true =>
      walk_at "kms"
      exact (go (adj_iff.mpr (.inl (h1.mp rfl)))).imp (fun _ _ z => z) (fun _ _ z => z) (fun _ _ z => z.elim) (fun _ _ z => z.elim)
    | false =>
      walk_at "kms"
      walk_at "km"
      refine ox_ixT _ (atI_n (j := 1) rfl) ?_
      refine ox_in _ 2 (okd_le (by decide) (okd_rd (p := (y, x)) ly lx)) (okd_rds W.lr) (by decide) fun b2 h2 => ?_
      rw [mem_rds] at h2
      refine ⟨_, rfl, ?_⟩
      cases b2 with
      | true =>
        walk_at "kms"
        exact (go (adj_iff.mpr (.inr (h2.mp rfl)))).imp (fun _ _ z => z) (fun _ _ z => z) (fun _ _ z => z.elim) (fun _ _ z => z.elim)
      | false =>
        have e : adj rs x y = false := by
          cases e : adj rs x y with
          | false => rfl
          | true => rcases adj_iff.mp e with z | z
                    · exact absurd (h1.mpr z) (by decide)
                    · exact absurd (h2.mpr z) (by decide)
        walk_at "kms"
        walk_at "km"
        refine ⟨_, Kp.refl _, _, rfl, ?_⟩
        rw [tk, e]
        simp
  · rintro δ' ω' ⟨s, rfl, rfl⟩
    rw [List.length_map, List.take_length]
    walk_at "km"
    exact kp_end (Kp.refl _) (q p)
/-! _law_forward(order, ring) -/
def zipD (a b : List PyData) : List PyData := (a.zip b).map fun p => .tuple [p.1, p.2]
theorem ix_zip {Tb : List (Addr × Str)} {t : L2.TA} {δ : List Sl} {ω : Om} {Ψ : List PyData → (Om → Prop) → Om → Prop} (K : PySem.W.Frag) (h : EA Tb t δ ω fun ss ω1 => ∃ ds es, ss = [.dt (.tuple ds), .dt (.tuple es)] ∧ Ψ (zipD ds es) (fun _ => True) ω1) : IX TP Tb (RZ.iZipA K t) δ ω Ψ := fun B σ H R S k =>
  h B σ H _ S fun vs ss ω1 H1 q e kk p => by
    obtain ⟨ds, es, rfl, q⟩ := q
    obtain ⟨v, w, rfl, k1, k2⟩ := two_of kk
    obtain ⟨a, xs, rfl, ha, ta⟩ := k1.data.tupv
    obtain ⟨b, ys, rfl, hb, tb⟩ := k2.data.tupv
    refine ⟨a, b, xs, ys, rfl, .inr ⟨ha.sq, hb.sq, k _ _ _ ω1 H1 q ⟨fun H2 => TupEx H1 H2, fun i H2 v H3 => ∃ T x y, v = .ref T ∧ H2 T = none ∧ H3 = upd H2 T (.tup [x, y]) ∧ xs[i]? = some x ∧ ys[i]? = some y, ⟨?_, ?_, ?_⟩, fun H2 _ e2 _ _ => e2, ?_⟩ e p⟩⟩
    · intro i H2 hi e2
      have l1 := ta.length
      have l2 := tb.length
      unfold zipD at hi
      rw [List.length_map, List.length_zip] at hi
      exact ⟨xs, ys, xs[i]'(by omega), ys[i]'(by omega), (e2.tu ha).sq, (e2.tu hb).sq, List.getElem?_eq_getElem (by omega), List.getElem?_eq_getElem (by omega)⟩
    · intro H2 e2
      have l1 := ta.length
      have l2 := tb.length
      refine ⟨xs, ys, (e2.tu ha).sq, (e2.tu hb).sq, ?_⟩
      unfold zipD
      rw [List.length_map, List.length_zip]
      omega
    · rintro i H2 x H3 hi e2 ⟨T, y1, y2, h1, h2, h3, h4, h5⟩
      exact ⟨T, y1, y2, h1, h2, h3, h4 xs (e2.tu ha).sq, h5 ys (e2.tu hb).sq⟩
    · rintro i H2 x H3 e2 ⟨T, y1, y2, rfl, h2, rfl, h4, h5⟩
      obtain ⟨d1, e1, t1⟩ := ta.at_ h4
      obtain ⟨d2, e3, t2⟩ := tb.at_ h5
      have sm := same_new (H := H2) (o := .tup [y1, y2]) h2
      have te := e2.trans (Ext.of sm).tup
      refine ⟨sm, .tuple [d1, d2], ?_, T, y1, y2, d1, d2, rfl, upd_same, t1.mono te, t2.mono te, rfl⟩
      unfold zipD
      rw [List.getElem?_map, (List.getElem?_zip_eq_some (z := (d1, d2))).mpr ⟨e1, e3⟩]
      rfl
abbrev R_law_forward : Prm := pureR fun ds k => ∃ (o l : List Str), ds = [tS o, tS l] ∧ (∀ y ∈ l, y ∈ o) ∧ l.length ≤ 1000 ∧ k (.int (stepsN o l : Nat))
theorem ok_law_forward (G : Glob Tb base K mg C) : OkF Tb P w K mg base 2 "_law_forward" ["_law_order_here", "_law_ring"] R_law_forward := by
  refine okF_of 1 G.d_law_forward sc_law_forward (fun F => F.bindsN fun _ _ _ _ _ _ us hl => match us, hl with | [_, _], _ => rfl) (fun f cdv A outer s H E hr => ?_)
  have sc := sc_law_forward
  have hv := hv_of hr
  have hu := hu_of hr
  refine ⟨_, (pss_one (ps_ret (pe_callB cr_lenQ (by rfl) G.f_len (by decide +kernel) (pa_cons (pe_lc (own := [("_law_one_here", 2), ("_law_two", 3)]) (g := (gTup K 2 (gCons (gName 2) (gCons (gName 3) gNil)))) rfl sc.nd (RZ.pi_zipA (by rfl) G.f_zip (pa_cons (pv 1) (pa_cons (pe_op op_catF (pe_slice sl_tupF (pv 1) (po_some pe_int) po_none) (pe_slice sl_tupF (pv 1) po_none (po_some pe_int))) pa_nil))) (blkOk_by (N := N_law_forward) (sc := defScope s_law_forward) (by decide +kernel)) (fun _ _ _ _ _ => (pg_tup (n := 2) rfl (pgs_cons (pg_name (i := 2) sc.nd rfl (Or.inl rfl)) (pgs_cons (pg_name (i := 3) sc.nd rfl (Or.inl rfl)) pgs_nil)))) (fun _ _ _ _ _ => pts_one (pt_cmpR op_lt (pe_tix (K0 := K) (pv 0) (pa_cons (pv 2) pa_nil)) (pe_tix (K0 := K) (pv 0) (pa_cons (pv 3) pa_nil)) (nomark _))) (fun _ _ _ _ _ => pe_int)) pa_nil)))), ?_⟩
  clear sc hu
  rintro δ ω Φ ⟨rfl, ds, rfl, o, l, rfl, hs, hf, q⟩
  show RR Tb _ [.dt (tS o), .dt (tS l), .un, .un] [] _
  walk_at "km"
  refine ex_lcM TP (fun p : Str × Str => PyData.tuple [.str p.1, .str p.2]) (fun a b h => rd_inj a b h) (fun i : Nat => PyData.int (i : Nat)) (l.zip (l.drop 1 ++ l.take 1)) (fun p => if bef o p.1 p.2 = true then some 1 else none) ?_
  refine ix_zip _ ?_
  walk_at "km"
  rw [show (1 : Int) = ((1 : Nat) : Int) from rfl, cut_from, cut_to]
  refine ox_catM _ (by simp; omega) ?_
  walk_at "km"
  have mz : ∀ z ∈ l.zip (l.drop 1 ++ l.take 1), z.1 ∈ l ∧ z.2 ∈ l := fun z hz => by
    obtain ⟨h1, h2⟩ := List.of_mem_zip (show (z.1, z.2) ∈ _ from hz)
    refine ⟨h1, ?_⟩
    rcases List.mem_append.mp h2 with h2 | h2
    · exact List.mem_of_mem_drop h2
    · exact List.mem_of_mem_take h2
  refine ⟨?_, ?_, fun _ => True.intro, fun z hz => ?_, fun p => ?_⟩
  · unfold zipD
    rw [List.zip_map, List.map_map]
    rfl
  · rw [List.length_zip]
    omega
  · obtain ⟨z1, z2⟩ := mz z hz
    walk_at "km"
    intro D acc
    walk_at "km"
    refine ⟨hs _ z1, ?_⟩
    walk_at "km"
    refine ⟨hs _ z2, ?_⟩
    walk_at "km"
    rw [dec_bef]
    cases e : bef o z.1 z.2 with
    | true =>
      walk_at "kms"
      walk_at "km"
      exact ⟨trivial, Kp.refl _⟩
    | false =>
      walk_at "kms"
      exact ⟨by simp, Kp.refl _⟩
  · walk_at "km"
    refine kx_lenL _ isLs_hd ?_
    walk_at "km"
    refine kp_end (kp_nil _) ?_
    have e : ∀ m : List (Str × Str), (m.filterMap (fun p => if bef o p.1 p.2 = true then some 1 else none)).length = (m.filter fun p => bef o p.1 p.2).length := by
      intro m
      induction m with
      | nil => rfl
      | cons z m ih =>
        rw [List.filterMap_cons, List.filter_cons]
        cases bef o z.1 z.2 <;> simp [ih]
    rw [List.length_map, e, law_steps]
    exact q
end Km
/-! Text KmL2 -/
namespace Km
open PySem PySem.Spec PyProof.Rows L2 LamX
local macro_rules
  | `(tactic| walk_at "km1") => `(tactic| first
    | ((with_reducible apply ex_v); (focus rfl); (focus rfl))
    | with_reducible refine ex_int ?_
    | with_reducible refine ex_str ?_
    | with_reducible refine ex_bl ?_
    | with_reducible refine ex_non ?_
    | with_reducible refine ex_op ?_
    | with_reducible refine ex_un ?_
    | with_reducible refine ux_neg ?_
    | with_reducible refine ox_i0I ?_
    | with_reducible refine ox_i0B ?_
    | with_reducible refine ex_tup ?_
    | with_reducible refine ex_lst ?_
    | with_reducible refine ex_slT _ ?_
    | with_reducible refine ex_slL _ ?_
    | with_reducible refine px_none ?_
    | with_reducible refine px_some ?_
    | with_reducible refine ea_nil ?_
    | with_reducible refine ea_cons ?_
    | with_reducible refine ex_isi _ ?_
    | with_reducible refine ex_cb ?_
    | with_reducible refine ex_isN ?_
    | with_reducible refine ex_notN ?_
    | with_reducible refine ex_chain ?_
    | with_reducible refine ex_if ?_
    | with_reducible refine ex_and ?_
    | with_reducible refine ex_or ?_
    | with_reducible refine ex_not ?_
    | with_reducible refine ex_tix _ ?_
    | with_reducible refine ex_goD ?_
    | with_reducible refine ex_goN ?_
    | with_reducible refine ex_goF ?_
    | with_reducible refine ex_dget ?_
    | with_reducible refine ex_din ?_
    | with_reducible refine ex_dnotin ?_
    | with_reducible refine ex_dnew ?_
    | with_reducible refine et_test ?_
    | with_reducible refine et_val ?_
    | with_reducible refine et_and ?_
    | with_reducible refine et_or ?_
    | with_reducible refine et_not ?_
    | with_reducible refine et_yes ?_
    | with_reducible refine rr_seq ?_
    | with_reducible refine rr_asg ?_
    | with_reducible refine rr_ret ?_
    | with_reducible refine rr_retN ?_
    | with_reducible refine rr_drop ?_
    | with_reducible refine rr_if ?_
    | with_reducible refine rr_par ?_
    | with_reducible refine rr_next ?_
    | with_reducible refine rr_break ?_
    | with_reducible refine ix_tup _ ?_
    | with_reducible refine ix_range1 ?_
    | with_reducible refine ix_range2 ?_
    | with_reducible refine ix_down ?_
    | with_reducible refine ix_str ?_
    | with_reducible refine ix_keys ?_
    | with_reducible refine nb_dt ?_
    | with_reducible refine nb_pt ?_
    | with_reducible refine lc_name (by simp) ?_
    | with_reducible refine lc_pair (by simp) (by simp) ?_
    | with_reducible refine lc_new (by simp) (by simp) ?_
    | with_reducible refine for_name ?_
    | with_reducible refine for_pair ?_
    | with_reducible refine for_new ?_
    | with_reducible refine tup0 ?_
    | with_reducible refine tup1 ?_
    | with_reducible refine tup2 ?_
    | with_reducible refine tup3 ?_
    | with_reducible refine arg1 ?_
    | with_reducible refine arg2 ?_
    | with_reducible refine arg3 ?_
    | with_reducible refine arg4 ?_
    | with_reducible refine ⟨_, rfl, ?_⟩
    | with_reducible refine ⟨_, _, rfl, ?_⟩)
local macro_rules
  | `(tactic| walk_at "kms") => `(tactic| try simp (maxSteps := 2000) only [wipeS, List.map_cons, List.map_nil, List.set_cons_zero, List.set_cons_succ, Bool.false_eq_true, Bool.not_true, Bool.not_false, reduceIte])
local macro_rules
  | `(tactic| walk_at "km") => `(tactic| repeat (walk_at "km1"; walk_at "kms"))
local macro_rules
  | `(tactic| walk_at "kp") => `(tactic| repeat (first | exact Kp.refl _ | refine Kp.cons2 ?_ | refine Kp.cons ?_))
local macro_rules
  | `(tactic| walk_at "ls") => `(tactic| repeat (first | exact isLs_hd | exact isLs_bo | refine isLs_tl ?_))

variable {Tb : List (Addr × Str)} {P : Program} {w : World} {K : PySem.W.Frag} {mg : Str → Option Value} {base : Heap} {C : Addr}
theorem stackD_snoc (f : Str → List Str) (L : List Str) (st : List (List Str)) (y : Str) : stackD (((L ++ [y]).map f).reverse ++ st) = stackD ((L.map f).reverse ++ st) ++ [tS (f y).reverse] := by
  rw [List.map_append, List.reverse_append]
  exact stackD_cons _ _
/-! _law_rings_of(web, most) -/
abbrev R_law_rings_of : Prm := newR fun ds k => ∃ (ps : List Str) (rs : List (Str × Str)), ds = [webD ps rs, .int 200] ∧ WebV ps rs ∧ ∀ res, LawRings ps rs res → k (res.map tS)
theorem ok_law_rings_of (G : Glob Tb base K mg C) : OkF Tb P w K mg base 3 "_law_rings_of" ["_law_web_here", "_law_most"] R_law_rings_of := by
  refine okF_of 2 G.d_law_rings_of sc_law_rings_of (fun F => F.bindsN fun _ _ _ _ _ _ us hl => match us, hl with | [_, _], _ => rfl) (fun f cdv A outer s H E hr => ?_)
  have sc := sc_law_rings_of
  have hv := hv_of hr
  have hu := hu_of hr
  have ok_law_neighbours_ := ok_law_neighbours (Tb := Tb) (P := P) (w := w) (base := base) G
  refine ⟨_, (pss_cons (ps_par (i := 2) (j := 3) (by rfl) sc.nd rfl rfl (by decide) rfl rfl (pa_cons (pe_lst pa_nil) (pa_cons (pe_lc (own := [("_law_place", 4)]) (g := (gName 4)) rfl sc.nd (pi_tup (pe_ix L2.ix_tup (pv 0) pe_int (fun _ _ => rfl))) (blkOk_by (N := N_law_rings_of) (sc := defScope s_law_rings_of) (by decide +kernel)) (fun _ _ _ _ _ => (pg_name (i := 4) sc.nd rfl (Or.inl rfl))) (fun _ _ _ _ _ => pts_nil) (fun _ _ _ _ _ => (pe_tupF (pa_cons (pv 4) pa_nil)))) pa_nil)) (by rfl))
  (pss_cons (ps_while PassesOwn.never (PW.pt (pw_and (pt_cmpR (op_neD hr.units) (pv 3) (pe_lst pa_nil) (nomark _)) (pw_and1 (pt_cmpR op_lt (pe_callB cr_lenQ (by rfl) G.f_len (by decide +kernel) (pa_cons (pv 2) pa_nil)) (pv 1) (nomark _))))) (pss_cons (ps_set (i := 5) sc.nd rfl (Or.inl rfl) (pe_bm0 (PySem.F.plainAttrs_list) (PySem.F.slot_list_pop) (PySem.F.type_list_pop) mt_pop (pv 3)))
  (pss_one (ps_for PassesOwn.never rfl (pi_list (pe_go 2 ok_law_neighbours_ (hr.mono (by decide)) rfl (pa_cons (pv 0) (pa_cons (pe_ix L2.ix_tup (pv 5) (pe_un un_neg pe_int) (fun _ _ => rfl)) pa_nil)))) (pg_name (i := 6) sc.nd rfl (Or.inl rfl)) (pss_cons (ps_if (PW.pt (pw_and (pt_cmpR (op_eqD hr.units) (pv 6) (pe_ix L2.ix_tup (pv 5) pe_int (fun _ _ => rfl)) (nomark _)) (pw_and (pt_cmpR op_gt (pe_callB cr_lenQ (by rfl) G.f_len (by decide +kernel) (pa_cons (pv 5) pa_nil)) pe_int (nomark _)) (pw_and1 (pt_cmpR op_lt (pe_tix (pe_ix L2.ix_tup (pv 0) pe_int (fun _ _ => rfl)) (pa_cons (pe_ix L2.ix_tup (pv 5) pe_int (fun _ _ => rfl)) pa_nil)) (pe_tix (pe_ix L2.ix_tup (pv 0) pe_int (fun _ _ => rfl)) (pa_cons (pe_ix L2.ix_tup (pv 5) (pe_un un_neg pe_int) (fun _ _ => rfl)) pa_nil)) (nomark _)))))) (pss_one (ps_expr (pe_bm (PySem.F.plainAttrs_list) (PySem.F.slot_list_append) (PySem.F.type_list_append) mt_append (pv 2) (pa_cons (pv 5) pa_nil)))) pss_nil)
  (pss_one (ps_if (PW.pt (pw_and (pt_cmpR (op_notInTp hv) (pv 6) (pv 5) (by rfl)) (pw_and1 (pt_cmpR op_gt (pe_tix (pe_ix L2.ix_tup (pv 0) pe_int (fun _ _ => rfl)) (pa_cons (pv 6) pa_nil)) (pe_tix (pe_ix L2.ix_tup (pv 0) pe_int (fun _ _ => rfl)) (pa_cons (pe_ix L2.ix_tup (pv 5) pe_int (fun _ _ => rfl)) pa_nil)) (nomark _))))) (pss_one (ps_expr (pe_bm (PySem.F.plainAttrs_list) (PySem.F.slot_list_append) (PySem.F.type_list_append) mt_append (pv 3) (pa_cons (pe_op op_catF (pv 5) (pe_tupF (pa_cons (pv 6) pa_nil))) pa_nil)))) pss_nil)))))))
  (pss_one (ps_ret (pe_slice sl_list (pv 2) po_none (po_some (pv 1))))))), ?_⟩
  clear sc hu
  rintro δ ω Φ ⟨rfl, ds, rfl, ps, rs, rfl, W, q⟩
  obtain ⟨res, hgo, LR⟩ := rings_there W.web W.p5
  have q := q res LR
  have p5 := W.p5
  have hl := W.law
  show RR Tb _ [.dt (webD ps rs), .dt (.int 200), .un, .un, .un, .un, .un] [] _
  refine rr_cut (fun δ' ω' => ∃ g p, δ' = [.dt (webD ps rs), .dt (.int 200), .pt g, .pt p, .un, .un, .un] ∧ ω' = [(p, .ls (stackD ((ps.map fun y => [y]).reverse))), (g, .ls [])]) ?_ ?_
  · walk_at "km"
    intro g
    walk_at "km"
    refine ex_lcM T PyData.str str_inj (fun y : Str => tS [y]) ps (fun y => some y) ?_
    walk_at "km"
    refine ox_ixT _ (atI_n (j := 0) rfl) ?_
    walk_at "km"
    refine ⟨trivial, by omega, fun _ => True.intro, fun y hy => ?_, fun p => ?_⟩
    · walk_at "km"
      intro D acc
      walk_at "km"
      exact ⟨trivial, Kp.refl _⟩
    · walk_at "km"
      rw [filterMap_some]
      unfold stackD
      simp
  rintro δ' ω' ⟨g, p, rfl, rfl⟩
  refine rr_cut (fun δ' ω' => ∃ s4 s5 s6 o, δ' = [.dt (webD ps rs), .dt (.int 200), .pt g, .pt p, s4, s5, s6] ∧ Kp ω' [(p, .ls o), (g, .ls (res.map tS))]) ?_ ?_
  · refine rr_while (fun n δ' ω' => ∃ st got s4 s5 s6, ringsGo ps rs 200 n st got = some res ∧ (∀ v ∈ st, (∀ y ∈ v, y ∈ ps) ∧ v ≠ [] ∧ v.length + n ≤ 300) ∧ (st.length + 5 * n ≤ 1000 ∧ got.length + 5 * n ≤ 1000) ∧ δ' = [.dt (webD ps rs), .dt (.int 200), .pt g, .pt p, s4, s5, s6] ∧ ω' = [(p, .ls (stackD st)), (g, .ls (got.map tS))])
      100 ⟨_, [], _, _, _, hgo, ?_, ⟨?_, by simp⟩, rfl, rfl⟩ ?_
    · intro v hv
      obtain ⟨y, hy, rfl⟩ := List.mem_map.mp (List.mem_reverse.mp hv)
      refine ⟨fun z hz => ?_, List.cons_ne_nil _ _, by simp⟩
      rw [List.mem_singleton.mp hz]
      exact hy
    · rw [List.length_reverse, List.length_map]
      omega
    rintro n δ' ω' ⟨st, got, s4, s5, s6, g1, g2, ⟨g3, g4⟩, rfl, rfl⟩
    walk_at "km"
    intro q1
    walk_at "km"
    refine ox_nel _ 1 (isLs_tl isLs_hd) isLs_hd (stackD_ok hl fun v hv => (g2 v hv).1) (okds_nil 1) (by decide) fun b1 h1 => ?_
    rw [stackD_nil] at h1
    refine ⟨_, rfl, ?_⟩
    cases n with
    | zero =>
      unfold ringsGo at g1
      cases g1
    | succ n =>
    cases st with
    | nil =>
      rw [h1.mpr rfl]
      walk_at "kms"
      unfold ringsGo at g1
      cases g1
      exact ⟨_, _, _, _, rfl, Kp.cons (Kp.refl _)⟩
    | cons v st =>
      have hb1 : b1 = false := by
        cases b1 with
        | false => rfl
        | true => exact absurd (h1.mp rfl) (by simp)
      subst hb1
      walk_at "kms"
      walk_at "km"
      refine kx_lenL _ (isLs_tl (isLs_tl isLs_hd)) ?_
      walk_at "km"
      unfold ringsGo at g1
      by_cases hgot : got.length < 200
      · rw [if_pos hgot] at g1
        rw [decide_eq_true (show (((got.map tS).length : Nat) : Int) < 200 by rw [List.length_map]; omega)]
        walk_at "kms"
        refine rr_kp (Kp.cons (Kp.refl _)) ?_
        obtain ⟨x, u, rfl⟩ : ∃ x u, v = x :: u := by
          cases v with
          | nil => exact absurd rfl (g2 [] (List.mem_cons_self ..)).2.1
          | cons x u => exact ⟨x, u, rfl⟩
        obtain ⟨mx, _, lenx⟩ := g2 _ (List.mem_cons_self ..)
        have g1 : ringsGo ps rs 200 n ((rexts ps rs (x :: u) x (startOf x u)).reverse ++ st) (got ++ rgot ps rs (x :: u) x (startOf x u)) = some res := g1
        rw [stackD_cons]
        walk_at "km"
        refine ex_pop _ 0 ?_
        walk_at "km"
        refine ⟨_, _, _, rfl, rfl, ?_⟩
        walk_at "km"
        refine rr_forE T ?_
        refine ix_list _ ?_
        walk_at "km"
        refine ox_ixM _ (z := x) (atI_e (by simp)) ?_
        walk_at "km"
        have lx := hl x (mx x (List.mem_cons_self ..))
        have hst : startOf x u ∈ x :: u := by
          unfold startOf
          exact List.getLast_mem _
        have ls0 := hl _ (mx _ hst)
        have hhd : (x :: u).reverse[0]? = some (startOf x u) := by
          unfold startOf
          rw [← List.head?_eq_getElem?, List.head?_reverse]
          exact List.getLast?_eq_some_getLast _
        generalize startOf x u = st0 at g1 hst ls0 hhd
        have hnl : (nbrs ps rs x).length ≤ 5 := Nat.le_trans (List.length_filter_le ..) p5
        refine ⟨ps, rs, x, rfl, W, mx x (List.mem_cons_self ..), fun p3 => ⟨(nbrs ps rs x).map .str, .inr ⟨p3, rfl, by simp, fun i δ' ω' => ∃ s6, δ' = [.dt (webD ps rs), .dt (.int 200), .pt g, .pt p, s4, .dt (tS (x :: u).reverse), s6] ∧ ω' = [(p3, .ls ((nbrs ps rs x).map .str)), (p, .ls (stackD (((((nbrs ps rs x).take i).filter (rgo ps (x :: u) st0)).map fun t => t :: x :: u).reverse ++ st))), (g, .ls ((got ++ (((nbrs ps rs x).take i).filter (rclose ps (x :: u) x st0)).map fun _ => (x :: u).reverse).map tS))], ?_, ?_, ?_, ?_⟩⟩⟩
        · exact ⟨_, rfl, by simp⟩
        · rintro i δ' ω' ⟨s6, rfl, rfl⟩
          simp
        · rintro i d δ' ω' hd ⟨s6, rfl, rfl⟩
          rw [List.getElem?_map] at hd
          cases hr : (nbrs ps rs x)[i]? with
          | none => rw [hr] at hd; cases hd
          | some y =>
          rw [hr] at hd
          cases hd
          have hi : i < (nbrs ps rs x).length := (List.getElem?_eq_some_iff.mp hr).1
          obtain ⟨my, ay⟩ := nbrs_mem.mp (List.mem_of_getElem? hr)
          have ly := hl y my
          have tk := take_succ hr
          have cl : ∀ {m : List Str}, m = (nbrs ps rs x).take i ++ [y] → m.filter (rclose ps (x :: u) x st0) = ((nbrs ps rs x).take i).filter (rclose ps (x :: u) x st0) ++ (if rclose ps (x :: u) x st0 y = true then [y] else []) := fun e => by
            rw [e, List.filter_append, List.filter_cons, List.filter_nil]
          have gl : ∀ {m : List Str}, m = (nbrs ps rs x).take i ++ [y] → m.filter (rgo ps (x :: u) st0) = ((nbrs ps rs x).take i).filter (rgo ps (x :: u) st0) ++ (if rgo ps (x :: u) st0 y = true then [y] else []) := fun e => by
            rw [e, List.filter_append, List.filter_cons, List.filter_nil]
          have b1 : ((nbrs ps rs x).take i).length ≤ 5 := by
            rw [List.length_take]
            omega
          have b2 : (((nbrs ps rs x).take i).filter (rclose ps (x :: u) x st0)).length ≤ 5 := Nat.le_trans (List.length_filter_le ..) b1
          have b3 : (((nbrs ps rs x).take i).filter (rgo ps (x :: u) st0)).length ≤ 5 := Nat.le_trans (List.length_filter_le ..) b1
          refine for_name ?_
          walk_at "kms"
          refine rr_cut (fun δ' ω' => δ' = [.dt (webD ps rs), .dt (.int 200), .pt g, .pt p, s4, .dt (tS (x :: u).reverse), .dt (.str y)] ∧ ω' = [(p3, .ls ((nbrs ps rs x).map .str)), (p, .ls (stackD (((((nbrs ps rs x).take i).filter (rgo ps (x :: u) st0)).map fun t => t :: x :: u).reverse ++ st))), (g, .ls ((got ++ (((nbrs ps rs x).take (i + 1)).filter (rclose ps (x :: u) x st0)).map fun _ => (x :: u).reverse).map tS))]) ?_ ?_
          · rw [cl tk]
            walk_at "km"
            refine ox_ixM _ (z := st0) (atI_n hhd) ?_
            refine ox_eqs _ ly ls0 ?_
            refine ⟨_, rfl, ?_⟩
            by_cases c1 : y = st0
            · refine ifT (decide_eq_true c1) ?_
              walk_at "km"
              refine kx_lenT _ ?_
              walk_at "km"
              by_cases c2 : 2 < (x :: u).length
              · refine ifT (decide_eq_true (by rw [List.length_map, List.length_reverse]; omega)) ?_
                have h2 : ∃ y1, (x :: u).reverse[1]? = some y1 ∧ y1 ∈ ps ∧ (x :: u).reverse.getD 1 x = y1 := by
                  have hl1 : 1 < (x :: u).reverse.length := by
                    rw [List.length_reverse]
                    omega
                  refine ⟨(x :: u).reverse[1], List.getElem?_eq_getElem hl1, mx _ (List.mem_reverse.mp (List.getElem_mem hl1)), ?_⟩
                  rw [List.getD_eq_getElem?_getD, List.getElem?_eq_getElem hl1]
                  rfl
                obtain ⟨y1, e1, m1, e2⟩ := h2
                walk_at "km"
                refine ox_ixT _ (atI_n (j := 0) rfl) ?_
                walk_at "km"
                refine ox_ixM _ (z := y1) (atI_n (j := 1) e1) ?_
                walk_at "km"
                refine ⟨m1, ?_⟩
                walk_at "km"
                refine ox_ixT _ (atI_n (j := 0) rfl) ?_
                walk_at "km"
                refine ox_ixM _ (z := x) (atI_e (by simp)) ?_
                walk_at "km"
                refine ⟨mx x (List.mem_cons_self ..), ?_⟩
                walk_at "km"
                have e3 : rclose ps (x :: u) x st0 y = decide (ps.idxOf y1 < ps.idxOf x) := by
                  unfold rclose
                  rw [e2, decide_eq_true c1, decide_eq_true c2]
                  rfl
                by_cases c3 : ps.idxOf y1 < ps.idxOf x
                · refine ifT (decide_eq_true (by omega)) ?_
                  rw [e3, decide_eq_true c3]
                  walk_at "km"
                  refine ex_append _ 2 ?_
                  walk_at "km"
                  refine ⟨⟨_, List.mem_cons_of_mem _ (List.mem_cons_of_mem _ (List.mem_cons_self ..))⟩, ?_⟩
                  walk_at "km"
                  refine ⟨few_lt ?_, ?_⟩
                  · rw [List.length_map, List.length_append, List.length_map]
                    omega
                  · simp
                · refine ifF (decide_eq_false (by omega)) ?_
                  rw [e3, decide_eq_false c3]
                  walk_at "km"
                  simp
              · refine ifF (decide_eq_false (by rw [List.length_map, List.length_reverse]; omega)) ?_
                have e3 : rclose ps (x :: u) x st0 y = false := by
                  unfold rclose
                  rw [decide_eq_false c2]
                  simp
                rw [e3]
                walk_at "kms"
                walk_at "km"
                simp
            · refine ifF (decide_eq_false c1) ?_
              have e3 : rclose ps (x :: u) x st0 y = false := by
                unfold rclose
                rw [decide_eq_false c1]
                simp
              rw [e3]
              walk_at "kms"
              walk_at "km"
              simp
          · rintro δ' ω' ⟨rfl, rfl⟩
            walk_at "km"
            refine ox_notin _ 1 (okd_s 1 ly) (okd_tS (l := (x :: u).reverse) fun z hz => hl z (mx z (List.mem_reverse.mp hz))) (by decide) fun b4 h4 => ?_
            rw [mem_tS, List.mem_reverse] at h4
            refine ⟨_, rfl, ?_⟩
            by_cases d1 : y ∈ x :: u
            · rw [h4.mpr d1]
              have e4 : rgo ps (x :: u) st0 y = false := by
                unfold rgo
                rw [decide_eq_false (fun z => z d1)]
                simp
              walk_at "kms"
              walk_at "km"
              refine ⟨_, Kp.refl _, _, rfl, ?_⟩
              rw [gl tk, e4]
              simp
            · have hb4 : b4 = false := by
                cases b4 with
                | false => rfl
                | true => exact absurd (h4.mp rfl) d1
              rw [hb4]
              walk_at "kms"
              walk_at "km"
              refine ox_ixT _ (atI_n (j := 0) rfl) ?_
              walk_at "km"
              refine ⟨my, ?_⟩
              walk_at "km"
              refine ox_ixT _ (atI_n (j := 0) rfl) ?_
              walk_at "km"
              refine ox_ixM _ (z := st0) (atI_n hhd) ?_
              walk_at "km"
              refine ⟨mx _ hst, ?_⟩
              walk_at "km"
              have e4 : rgo ps (x :: u) st0 y = decide (ps.idxOf st0 < ps.idxOf y) := by
                unfold rgo
                rw [decide_eq_true d1]
                rfl
              by_cases d2 : ps.idxOf st0 < ps.idxOf y
              · refine ifT (decide_eq_true (by omega)) ?_
                walk_at "km"
                refine ex_append _ 1 ?_
                walk_at "km"
                refine ⟨⟨_, List.mem_cons_of_mem _ (List.mem_cons_self ..)⟩, ?_⟩
                walk_at "km"
                refine ox_catM _ (l := (x :: u).reverse) (m := [y]) ?_ ?_
                · rw [List.length_reverse]
                  simp only [List.length_cons, List.length_nil] at lenx ⊢
                  omega
                · walk_at "km"
                  refine ⟨few_lt ?_, _, Kp.refl _, _, rfl, ?_⟩
                  · rw [stackD_len, List.length_append, List.length_reverse, List.length_map]
                    simp only [List.length_cons] at g3
                    omega
                  · rw [gl tk, e4, decide_eq_true d2]
                    walk_at "kms"
                    rw [stackD_snoc]
                    simp
              · refine ifF (decide_eq_false (by omega)) ?_
                walk_at "km"
                refine ⟨_, Kp.refl _, _, rfl, ?_⟩
                rw [gl tk, e4, decide_eq_false d2]
                simp
        · rintro δ' ω' ⟨s6, rfl, rfl⟩
          rw [List.length_map, List.take_length]
          have b2 : ((nbrs ps rs x).filter (rclose ps (x :: u) x st0)).length ≤ 5 := Nat.le_trans (List.length_filter_le ..) hnl
          have b3 : ((nbrs ps rs x).filter (rgo ps (x :: u) st0)).length ≤ 5 := Nat.le_trans (List.length_filter_le ..) hnl
          refine ⟨n, _, Nat.lt_succ_self n, Kp.cons (Kp.refl _), _, _, _, _, _, g1, ?_, ⟨?_, ?_⟩, rfl, rfl⟩
          · intro v hv
            rcases List.mem_append.mp hv with hv | hv
            · obtain ⟨t, ht, rfl⟩ := List.mem_map.mp (List.mem_reverse.mp hv)
              refine ⟨fun z hz => ?_, List.cons_ne_nil _ _, ?_⟩
              · rcases List.mem_cons.mp hz with rfl | hz
                · exact (nbrs_mem.mp (List.mem_filter.mp ht).1).1
                · exact mx z hz
              · simp only [List.length_cons] at lenx ⊢
                omega
            · obtain ⟨h1, h2, h3⟩ := g2 v (List.mem_cons_of_mem _ hv)
              exact ⟨h1, h2, by omega⟩
          · unfold rexts rheads
            rw [List.length_append, List.length_reverse, List.length_map]
            simp only [List.length_cons] at g3
            omega
          · unfold rgot
            rw [List.length_append, List.length_map]
            omega
      · rw [if_neg hgot] at g1
        rw [decide_eq_false (show ¬ (((got.map tS).length : Nat) : Int) < 200 by rw [List.length_map]; omega)]
        cases g1
        walk_at "kms"
        exact ⟨_, _, _, _, rfl, Kp.cons (Kp.refl _)⟩
  · rintro δ' ω' ⟨s4, s5, s6, o, rfl, kp⟩
    refine rr_kp kp ?_
    walk_at "km"
    refine ⟨_, isLs_tl isLs_hd, fun p2 => ?_⟩
    have hf := LR.few
    have e : (res.map tS).take 200 = res.map tS := List.take_of_length_le (by rw [List.length_map]; omega)
    rw [show (200 : Int) = ((200 : Nat) : Int) from rfl, cut_to, List.take_of_length_le (by omega)]
    exact ⟨(fun _ z => nomatch z), kp_end ⟨[(p2, .ls (res.map tS)), (p, .ls o), (g, .ls (res.map tS))], by simp, List.Perm.refl _⟩ (q p2)⟩
end Km
/-! Text KmEnum -/
/-! enumerate of a tuple -/
namespace Km
open PySem PySem.Spec PyProof.Rows L2 LamX
open AutoSeq1 (wpAny_loadPart')
theorem new_enumT (a : Addr) (vals : Array Value) (k : Nat) (dd : Option Addr) (sls : Array (Option Value)) :
    Meets (Builtin.«enumerate.__new__» ⟨[.type "enumerate", .ref a], []⟩) (fun _ Rr s => s.heap.get? a = some { cls := .type "tuple", dict := dd, data := .seq vals k, slots := sls } ∧
      Rr (.ok (.ret (.ref (s.heap.push { cls := .type "tuple_iterator", data := .fields #[.ref a, .int 0 0] }).objs.size)))
        { s with heap := (s.heap.push { cls := .type "tuple_iterator", data := .fields #[.ref a, .int 0 0] }).push { cls := .type "enumerate", data := .fields #[.none, .bool false, .ref s.heap.objs.size, rawInt 0, .none, .none] } }) := by
  refine .of_wp fun prog w A Rr s hyp => ?_
  obtain ⟨hp, gens, dr, toks, os⟩ := s
  obtain ⟨there, hyp⟩ := hyp
  have subE := sub_enumerate
  have isT : Heap.IsTuple (Shared.heap ⟨hp, gens, dr, toks, os⟩) a vals := ⟨_, there, rfl, k, rfl⟩
  wp_walk using wpAny_loadPart' there
  refine wpAny_stack_any fun st => wpAny_pure ?_
  split
  · rename_i c _ _ _ _ _
    cases (c == Value.type "enumerate") <;> (wp_walk using wpAny_loadPart' there, wpAny_pyIter_tuple isT; exact ⟨_, rfl, hyp⟩)
  · wp_walk using wpAny_loadPart' there, wpAny_pyIter_tuple isT
    exact ⟨_, rfl, hyp⟩
section
variable {prog : Program} {w : World} {A : Around} {E : Value → Shared → Prop} {s : Shared}
theorem call_enumT {a : Addr} {vals : Array Value} {Q : Value → Shared → Prop} (isT : s.heap.IsTuple a vals)
    (fin : ∀ g, IsEnum g (s.heap.objs.size + 1) s.heap.objs.size 0 .none → g.IsTupleIter s.heap.objs.size a 0 → g.objs.size = s.heap.objs.size + 2 → (∀ b o, s.heap.get? b = some o → g.get? b = some o) → Q (.ref (s.heap.objs.size + 1)) { s with heap := g }) :
    wpAny (model prog w) A (call (.type "enumerate") [.ref a]) Q E s := by
  obtain ⟨⟨c, dd, dt, sls⟩, there, e1, k, e2⟩ := isT
  simp only at e1 e2
  subst e1
  subst e2
  refine callType_new F.called_enumerate (by decide) (F.typeCall_enumerate_1 _) (F.newCall_enumerate_1 _) (fun obj => F.args_object_init_2 obj _) F.entry_enumerate_new (new_enumT a vals k dd sls) ⟨there, ?_⟩
  have sz : (s.heap.push { cls := .type "tuple_iterator", data := .fields #[.ref a, .int 0 0] }).objs.size = s.heap.objs.size + 1 := Heap.size_push ..
  show _ ∧ _
  rw [sz]
  have enu : IsEnum ((s.heap.push { cls := .type "tuple_iterator", data := .fields #[.ref a, .int 0 0] }).push { cls := .type "enumerate", data := .fields #[.none, .bool false, .ref s.heap.objs.size, rawInt 0, .none, .none] }) (s.heap.objs.size + 1) s.heap.objs.size 0 .none := by
    have at_ := Heap.get?_push_size (s.heap.push { cls := .type "tuple_iterator", data := .fields #[.ref a, .int 0 0] }) (o := { cls := .type "enumerate", data := .fields #[.none, .bool false, .ref s.heap.objs.size, rawInt 0, .none, .none] }) rfl
    rw [sz] at at_
    exact at_
  refine ⟨⟨_, enu, rfl⟩, fin _ enu ⟨_, Heap.get?_push_of_some _ (Heap.get?_push_size _ rfl), rfl, rfl⟩ ?_ fun b o x => Heap.get?_push_of_some _ (Heap.get?_push_of_some _ x)⟩
  rw [Heap.size_push, sz]
end
/-- the tuple at a, each item with its number in a new pair -/
def IteF (K : PySem.W.Frag) (a : Addr) : It :=
  ⟨fun i H => ∃ (xs : List V) (x : V), SqT K H a xs ∧ xs[i]? = some x, fun i H v H' => ∃ T x, v = .ref T ∧ H T = none ∧ H' = upd H T (.tup [.int (i : Nat), x]) ∧ ∀ xs, SqT K H a xs → xs[i]? = some x, fun i H => ∃ xs : List V, SqT K H a xs ∧ xs.length = i⟩
theorem turn_enumF {P : Program} {w : World} {K : PySem.W.Frag} {elts : List Expr} {kk : Nat} {tpos : Pos} (a e it : Addr) (apart : a ≠ it) :
    Turn P w K (.Tuple elts kk tpos) (IteF K a) [e, it] e (fun i h => (∃ old, IsEnum h e it ((i : Nat) : Int) old) ∧ h.IsTupleIter it a i ∧ e ≠ it ∧ e ≠ a) where
  mem := List.mem_cons_self ..
  obj := by
    rintro i g ⟨⟨old, h1⟩, ⟨o2, h2, _, h3⟩, _⟩ b hb
    simp only [List.mem_cons, List.not_mem_nil, or_false] at hb
    rcases hb with rfl | rfl
    · exact ⟨_, h1, fun v q => nomatch q⟩
    · exact ⟨o2, h2, fun v q => by rw [h3] at q; cases q⟩
  keep := by
    rintro i g g' ⟨⟨old, h1⟩, h2, h3, h4⟩ k
    exact ⟨⟨old, k e (List.mem_cons_self ..) _ h1⟩, h2.at fun o q => k it (List.mem_cons_of_mem _ (List.mem_cons_self ..)) o q, h3, h4⟩
  item := by
    rintro X rfl rfl rfl calm i pins s σ H E inv free ⟨⟨old, h1⟩, h2, h3, h4⟩ ⟨xs, x, sq, hx⟩
    obtain ⟨its, rel, tp, few⟩ := inv.tuple sq
    obtain ⟨u, hu, ru⟩ := rel.get hx
    have hi : i < its.toArray.size := by
      rw [List.size_toArray]
      exact (List.getElem?_eq_some_iff.mp hu).1
    have le : e < s.heap.objs.size := Heap.lt_size h1
    have li : it < s.heap.objs.size := by
      obtain ⟨o2, q, _⟩ := h2
      exact Heap.lt_size q
    have D := Draws.tuple (prog := X.prog) (w := X.w) (A := X.A.in1) (inv.ok.hd calm) it a apart its.toArray
    refine wpAny_pyNext_enum_itemD D h1 ⟨h2, tp⟩ hi h3 (by simp only [List.mem_cons, List.not_mem_nil, or_false, not_or]; exact ⟨h3, h4⟩) fun y g tk hP out st new sz kept => ?_
    have ey : y = u := by
      have : its.toArray[i]? = some u := by simpa using hu
      rw [this] at hP
      exact (Option.some.inj hP).symm
    subst ey
    refine ⟨_, rfl, wpAny_letOwnedTupleGo_enum (s := { s with heap := g, toks := tk + 1 }) out fun g2 e2 sb => ?_⟩
    have new2 : g2.get? s.heap.objs.size = some { cls := .type "tuple", data := .seq #[.int i tk, y] } := (sb.2 _ (Nat.ne_of_gt le)).trans new
    have okT : ObjOk X.prog X.w (upd H s.heap.objs.size (.tup [.int (i : Nat), x])) g2 s.heap.objs.size (.tup [.int (i : Nat), x]) :=
      ⟨by show 2 ≤ sizeLine; rw [sizeLine_eq]; decide, [.int i tk, y], .cons ⟨_, rfl⟩ (.cons ru .nil), ⟨_, new2, rfl, _, rfl⟩⟩
    have fr := inv.hok.fresh (Nat.le_refl s.heap.objs.size)
    have inv2 : Inv X pins σ (upd H s.heap.objs.size (.tup [.int (i : Nat), x])) { s with heap := g2, toks := tk + 1 } := by
      refine inv.turnedNew (ch := [e, it]) (fun b ob hb q => ?_) free (Nat.le_refl _) okT
      simp only [List.mem_cons, List.not_mem_nil, or_false, not_or] at hb
      exact (sb.2 b hb.1).trans (kept b ob hb.1 hb.2 q)
    refine ⟨.ref s.heap.objs.size, _, inv2, rfl, ⟨_, x, rfl, fr, rfl, fun ys hy => by rw [inv.tuple_inj hy sq]; exact hx⟩, ⟨⟨y, ?_⟩, st.1.at fun o q => (sb.2 it (Ne.symm h3)).trans q, h3, h4⟩, fun b hb => ?_⟩
    · rw [show ((i + 1 : Nat) : Int) = (i : Int) + 1 by omega]
      exact e2
    · have lb : b < s.heap.objs.size := by
        simp only [List.mem_cons, List.not_mem_nil, or_false] at hb
        rcases hb with rfl | rfl
        · exact le
        · exact li
      rw [upd_ne (Nat.ne_of_lt lb)]
      exact (free b hb).1
  done := by
    rintro X rfl rfl rfl calm i pins s σ H E inv free ⟨⟨old, h1⟩, h2, h3, h4⟩ ⟨xs, sq, hx⟩
    obtain ⟨its, rel, tp, few⟩ := inv.tuple sq
    obtain ⟨f0, f1, f2, f3, f4, f5⟩ := free it (List.mem_cons_of_mem _ (List.mem_cons_self ..))
    have hl := rel.length
    have D := Draws.tuple (prog := X.prog) (w := X.w) (A := X.A.in1) (inv.ok.hd calm) it a apart its.toArray
    subst hx
    have e : xs.length = its.toArray.size := by rw [List.size_toArray]; exact hl
    rw [e] at h1 h2
    exact wpAny_pyNext_enum_endD D h1 ⟨h2, tp⟩ fun g eb => ⟨rfl, inv.turned (t' := s.toks) (fun b o hb q => eb b o hb q) f0 f1 f3 f4 f5⟩
  self := by
    rintro A i s Q E ⟨⟨old, h1⟩, _⟩ q
    exact wpAny_pyIter_enum h1 q
def iEnumF (K : PySem.W.Frag) (ta : L2.TA) : TI := fun σ H R => ta σ H fun vs H1 => ∃ a xs, vs = [.ref a] ∧ SqT K H1 a xs ∧ R (IteF K a) H1
theorem pi_enumF {X : Cx} {e : Expr} {ta : L2.TA} {p pos tpos : Pos} {elts : List Expr} {kk : Nat} (hg : Gl X "enumerate") (hm : X.mg "enumerate" = none) (arg : PA X [e] ta) (st : starEach [e] X.env = [(false, eval e X.env)] := by rfl) :
    PI X (.Tuple elts kk tpos) (.Call (.Name "enumerate" p) [e] [] pos) (iEnumF X.K ta) := by
  constructor
  intro pins s σ H R inv want
  refine Call_ (ld_blt inv hg hm boot_enumerate (PyProof.Rows.callWith_type1 (thn (arg.run pos pins s σ H _ inv want) ?_) st rfl))
  rintro us s1 ⟨vs, H1, inv1, rel, a, xs, rfl, sq, fin⟩
  obtain ⟨u, rfl, ru⟩ := vals1 rel
  obtain rfl : u = Value.ref a := ru
  obtain ⟨its, rl, tp, few⟩ := inv1.tuple sq
  have al : a < s1.heap.objs.size := by
    obtain ⟨o, q, _⟩ := id tp
    exact Heap.lt_size q
  refine call_enumT (show s1.heap.IsTuple a its.toArray from tp) fun g he hit sz kept => wpAny_pyIter_enum he ?_
  have inv2 : Inv X pins σ H1 { s1 with heap := g } := inv1.kept (t' := s1.toks) kept
  refine ⟨s1.heap.objs.size + 1, [s1.heap.objs.size + 1, s1.heap.objs.size], _, _, H1, rfl, inv2, turn_enumF a (s1.heap.objs.size + 1) s1.heap.objs.size (Nat.ne_of_lt al), ⟨⟨.none, he⟩, hit, Nat.succ_ne_self _, Nat.ne_of_gt (Nat.lt_succ_of_lt al)⟩, fun b hb => ?_, fin⟩
  have le : s1.heap.objs.size ≤ b := by
    simp only [List.mem_cons, List.not_mem_nil, or_false] at hb
    rcases hb with rfl | rfl
    · exact Nat.le_add_right _ _
    · exact Nat.le_refl _
  exact inv1.fpOk le (inv1.hok.fresh le)
def enumD (ds : List PyData) : List PyData := (List.range ds.length).map fun i => .tuple [.int (i : Nat), ds.getD i .none]
theorem ix_enumF {Tb : List (Addr × Str)} {t : L2.TA} {δ : List Sl} {ω : Om} {Ψ : List PyData → (Om → Prop) → Om → Prop} (K : PySem.W.Frag) (h : EA Tb t δ ω fun ss ω1 => ∃ ds, ss = [.dt (.tuple ds)] ∧ Ψ (enumD ds) (fun _ => True) ω1) : IX TP Tb (iEnumF K t) δ ω Ψ := fun B σ H R S k =>
  h B σ H _ S fun vs ss ω1 H1 q e kk p => by
    obtain ⟨ds, rfl, q⟩ := q
    obtain ⟨v, rfl, k1⟩ := one_of kk
    obtain ⟨a, xs, rfl, ha, ta⟩ := k1.data.tupv
    have hl := ta.length
    have el : (enumD ds).length = ds.length := by
      unfold enumD
      rw [List.length_map, List.length_range]
    refine ⟨a, xs, rfl, ha.sq, k _ _ _ ω1 H1 q ⟨fun H2 => TupEx H1 H2, fun i H2 v H3 => ∃ T x, v = .ref T ∧ H2 T = none ∧ H3 = upd H2 T (.tup [.int (i : Nat), x]) ∧ xs[i]? = some x, ⟨?_, ?_, ?_⟩, fun H2 _ e2 _ _ => e2, ?_⟩ e p⟩
    · intro i H2 hi e2
      rw [el] at hi
      exact ⟨xs, xs[i]'(by omega), (e2.tu ha).sq, List.getElem?_eq_getElem (by omega)⟩
    · intro H2 e2
      exact ⟨xs, (e2.tu ha).sq, by rw [el]; exact hl⟩
    · rintro i H2 x H3 hi e2 ⟨T, y, h1, h2, h3, h4⟩
      exact ⟨T, y, h1, h2, h3, h4 xs (e2.tu ha).sq⟩
    · rintro i H2 x H3 e2 ⟨T, y, rfl, h2, rfl, h4⟩
      obtain ⟨d, e1, t1⟩ := ta.at_ h4
      have sm := same_new (H := H2) (o := .tup [.int (i : Nat), y]) h2
      have te := e2.trans (Ext.of sm).tup
      have hi : i < ds.length := (List.getElem?_eq_some_iff.mp e1).1
      refine ⟨sm, .tuple [.int (i : Nat), d], ?_, T, .int (i : Nat), y, .int (i : Nat), d, rfl, upd_same, .int _, t1.mono te, rfl⟩
      unfold enumD
      rw [List.getElem?_map, List.getElem?_range hi]
      simp [e1]
theorem enumD_map {α : Type} (f : α → PyData) (l : List α) (d : α) : enumD (l.map f) = (List.range l.length).map fun i => .tuple [.int (i : Nat), f (l.getD i d)] := by
  unfold enumD
  rw [List.length_map]
  apply List.map_congr_left
  intro i hi
  have hi' : i < l.length := List.mem_range.mp hi
  simp [List.getD_eq_getElem?_getD, List.getElem?_map, List.getElem?_eq_getElem hi']
end Km
/-! Text KmL3 -/
namespace Km
open PySem PySem.Spec PyProof.Rows L2 LamX
local macro_rules
  | `(tactic| walk_at "km1") => `(tactic| first
    | ((with_reducible apply ex_v); (focus rfl); (focus rfl))
    | with_reducible refine ex_int ?_
    | with_reducible refine ex_str ?_
    | with_reducible refine ex_bl ?_
    | with_reducible refine ex_non ?_
    | with_reducible refine ex_op ?_
    | with_reducible refine ex_un ?_
    | with_reducible refine ux_neg ?_
    | with_reducible refine ox_i0I ?_
    | with_reducible refine ox_i0B ?_
    | with_reducible refine ex_tup ?_
    | with_reducible refine ex_lst ?_
    | with_reducible refine ex_slT _ ?_
    | with_reducible refine ex_slL _ ?_
    | with_reducible refine px_none ?_
    | with_reducible refine px_some ?_
    | with_reducible refine ea_nil ?_
    | with_reducible refine ea_cons ?_
    | with_reducible refine ex_isi _ ?_
    | with_reducible refine ex_cb ?_
    | with_reducible refine ex_isN ?_
    | with_reducible refine ex_notN ?_
    | with_reducible refine ex_chain ?_
    | with_reducible refine ex_if ?_
    | with_reducible refine ex_and ?_
    | with_reducible refine ex_or ?_
    | with_reducible refine ex_not ?_
    | with_reducible refine ex_tix _ ?_
    | with_reducible refine ex_goD ?_
    | with_reducible refine ex_goN ?_
    | with_reducible refine ex_goF ?_
    | with_reducible refine ex_dget ?_
    | with_reducible refine ex_din ?_
    | with_reducible refine ex_dnotin ?_
    | with_reducible refine ex_dnew ?_
    | with_reducible refine et_test ?_
    | with_reducible refine et_val ?_
    | with_reducible refine et_and ?_
    | with_reducible refine et_or ?_
    | with_reducible refine et_not ?_
    | with_reducible refine et_yes ?_
    | with_reducible refine rr_seq ?_
    | with_reducible refine rr_asg ?_
    | with_reducible refine rr_ret ?_
    | with_reducible refine rr_retN ?_
    | with_reducible refine rr_drop ?_
    | with_reducible refine rr_if ?_
    | with_reducible refine rr_par ?_
    | with_reducible refine rr_next ?_
    | with_reducible refine rr_break ?_
    | with_reducible refine ix_tup _ ?_
    | with_reducible refine ix_range1 ?_
    | with_reducible refine ix_range2 ?_
    | with_reducible refine ix_down ?_
    | with_reducible refine ix_str ?_
    | with_reducible refine ix_keys ?_
    | with_reducible refine nb_dt ?_
    | with_reducible refine nb_pt ?_
    | with_reducible refine lc_name (by simp) ?_
    | with_reducible refine lc_pair (by simp) (by simp) ?_
    | with_reducible refine lc_new (by simp) (by simp) ?_
    | with_reducible refine for_name ?_
    | with_reducible refine for_pair ?_
    | with_reducible refine for_new ?_
    | with_reducible refine tup0 ?_
    | with_reducible refine tup1 ?_
    | with_reducible refine tup2 ?_
    | with_reducible refine tup3 ?_
    | with_reducible refine arg1 ?_
    | with_reducible refine arg2 ?_
    | with_reducible refine arg3 ?_
    | with_reducible refine arg4 ?_
    | with_reducible refine ⟨_, rfl, ?_⟩
    | with_reducible refine ⟨_, _, rfl, ?_⟩)
local macro_rules
  | `(tactic| walk_at "kms") => `(tactic| try simp (maxSteps := 2000) only [wipeS, List.map_cons, List.map_nil, List.set_cons_zero, List.set_cons_succ, Bool.false_eq_true, Bool.not_true, Bool.not_false, reduceIte])
local macro_rules
  | `(tactic| walk_at "km") => `(tactic| repeat (walk_at "km1"; walk_at "kms"))
local macro_rules
  | `(tactic| walk_at "kp") => `(tactic| repeat (first | exact Kp.refl _ | refine Kp.cons2 ?_ | refine Kp.cons ?_))
local macro_rules
  | `(tactic| walk_at "ls") => `(tactic| repeat (first | exact isLs_hd | exact isLs_bo | refine isLs_tl ?_))

variable {Tb : List (Addr × Str)} {P : Program} {w : World} {K : PySem.W.Frag} {mg : Str → Option Value} {base : Heap} {C : Addr}
/-! _law_orders(places) -/
abbrev R_law_orders (n : Nat) : Prm := newR fun ds k => ∃ l : List Str, ds = [tS l] ∧ l.length ≤ n ∧ Lawful l ∧ k ((ordsN l.length l).map tS)
def ordsStep (n : Nat) (l : List Str) (i : Nat) : List (List Str) := match l[i]? with
  | some x => (ordsN n (l.eraseIdx i)).map fun r => x :: r
  | none => []
theorem ordsN_succ (n : Nat) (l : List Str) : ordsN (n + 1) l = (List.range l.length).flatMap (ordsStep n l) := by
  show (List.range l.length).flatMap _ = _
  congr 1
  funext i
  unfold ordsStep
  cases l[i]? <;> rfl
theorem okd_e : okd 1 (tS []) = true := by simp [okd, okds]
theorem ok_law_orders0 (G : Glob Tb base K mg C) : OkF Tb P w K mg base 2 "_law_orders" ["_law_places"] (R_law_orders 0) := by
  refine okF_of 1 G.d_law_orders sc_law_orders (fun F => F.bindsN fun _ _ _ _ _ _ us hl => match us, hl with | [_], _ => rfl) (fun f cdv A outer s H E hr => ?_)
  have sc := sc_law_orders
  refine ⟨_, pss_cons (ps_if (pt_cmpR (op_eqD hr.units) (pv 0) (pe_tupF pa_nil) (nomark _)) (pss_one (ps_ret (pe_lst (pa_cons (pe_tupF pa_nil) pa_nil)))) pss_nil) pss_never, ?_⟩
  clear sc
  rintro δ ω Φ ⟨rfl, ds, rfl, l, rfl, hn, hl, q⟩
  have e := List.eq_nil_of_length_eq_zero (Nat.le_zero.mp hn)
  subst e
  show RR Tb _ [.dt (tS []), .un, .un, .un, .un] [] _
  walk_at "km"
  refine ox_eqd _ 1 okd_e okd_e (by decide) fun b h => ?_
  refine ⟨_, rfl, ifT (h.mpr rfl) ?_⟩
  walk_at "km"
  intro p
  walk_at "km"
  exact kp_end (Kp.refl _) (q p)
theorem ok_law_ordersS (G : Glob Tb base K mg C) (n : Nat) (n5 : n ≤ 4) (ok_law_orders_ : OkF Tb P w K mg base (n + 2) "_law_orders" ["_law_places"] (R_law_orders n)) : OkF Tb P w K mg base (n + 3) "_law_orders" ["_law_places"] (R_law_orders (n + 1)) := by
  refine okF_of (n + 2) G.d_law_orders sc_law_orders (fun F => F.bindsN fun _ _ _ _ _ _ us hl => match us, hl with | [_], _ => rfl) (fun f cdv A outer s H E hr => ?_)
  have sc := sc_law_orders
  have hv := hv_of hr
  refine ⟨_, (pss_cons (ps_if (pt_cmpR (op_eqD hr.units) (pv 0) (pe_tupF pa_nil) (nomark _)) (pss_one (ps_ret (pe_lst (pa_cons (pe_tupF pa_nil) pa_nil)))) pss_nil)
  (pss_cons (ps_set (i := 1) sc.nd rfl (Or.inl rfl) (pe_lst pa_nil))
  (pss_cons (ps_for PassesOwn.never rfl (pi_enumF (by rfl) G.f_enumerate (pa_cons (pv 0) pa_nil)) (pg_tup (n := 2) rfl (pgs_cons (pg_name (i := 2) sc.nd rfl (Or.inl rfl)) (pgs_cons (pg_name (i := 3) sc.nd rfl (Or.inr rfl)) pgs_nil))) (pss_one (ps_expr (pe_bm (PySem.F.plainAttrs_list) (PySem.F.slot_list_extend) (PySem.F.type_list_extend) mt_extend (pv 1) (pa_cons (pe_lc (own := [("_law_rest", 4)]) (g := (gName 4)) rfl sc.nd (pi_list (pe_go 1 ok_law_orders_ (hr.mono (by omega)) rfl (pa_cons (pe_op op_catF (pe_slice sl_tupF (pv 0) po_none (po_some (pv 2))) (pe_slice sl_tupF (pv 0) (po_some (pe_op op_add (pv 2) pe_int)) po_none)) pa_nil))) (blkOk_by (N := N_law_orders) (sc := defScope s_law_orders) (by decide +kernel)) (fun _ _ _ _ _ => (pg_name (i := 4) sc.nd rfl (Or.inl rfl))) (fun _ _ _ _ _ => pts_nil) (fun _ _ _ _ _ => (pe_op (r := rCatF K) op_catF (pe_tupF (pa_cons (pv 3) pa_nil)) (pv 4)))) pa_nil)))))
  (pss_one (ps_ret (pv 1)))))), ?_⟩
  clear sc
  rintro δ ω Φ ⟨rfl, ds, rfl, l, rfl, hn, hl, q⟩
  show RR Tb _ [.dt (tS l), .un, .un, .un, .un] [] _
  walk_at "km"
  refine ox_eqd _ 1 (okd_tS hl) okd_e (by decide) fun b h => ?_
  by_cases hnil : l = []
  · subst hnil
    refine ⟨_, rfl, ifT (h.mpr rfl) ?_⟩
    walk_at "km"
    intro p
    walk_at "km"
    exact kp_end (Kp.refl _) (q p)
  obtain ⟨N, hN⟩ : ∃ N, l.length = N + 1 := by
    cases l with
    | nil => exact absurd rfl hnil
    | cons x r => exact ⟨r.length, rfl⟩
  have hNn : N ≤ n := by omega
  refine ⟨_, rfl, ifF ?_ ?_⟩
  · cases b with
    | false => rfl
    | true => exact absurd (tS_inj.mp (show tS l = tS [] from h.mp rfl)) hnil
  walk_at "km"
  intro p
  walk_at "km"
  have len : ∀ i x, l[i]? = some x → (ordsN N (l.eraseIdx i)).length ≤ 24 := fun i x hx => by
    have hi := (List.getElem?_eq_some_iff.mp hx).1
    rw [ordsN_len N _ (by rw [List.length_eraseIdx, if_pos hi]; omega)]
    have : ∀ n, n ≤ 4 → fct n ≤ 24 := by decide
    exact this N (by omega)
  refine rr_for TP (fun i δ' ω' => ∃ s2 s3 s4 got, δ' = [.dt (tS l), .pt p, s2, s3, s4] ∧ ω' = [(p, .ls (got.map tS))] ∧ got.length ≤ 24 * i ∧ got = (List.range i).flatMap (ordsStep N l)) ?_
  refine ix_enumF _ ?_
  walk_at "km"
  rw [enumD_map _ _ default]
  refine ⟨⟨_, _, _, [], rfl, rfl, by simp, rfl⟩, fun _ _ _ _ => True.intro, ?_, ?_⟩
  · rintro i d δ' ω' hd ⟨s2, s3, s4, got, rfl, rfl, hg, hge⟩
    rw [List.getElem?_map] at hd
    cases hr : (List.range l.length)[i]? with
    | none => rw [hr] at hd; cases hd
    | some j =>
    rw [hr] at hd
    cases hd
    obtain ⟨hi, hj⟩ := List.getElem?_eq_some_iff.mp hr
    rw [List.length_range] at hi
    rw [List.getElem_range] at hj
    subst hj
    have hx : l[i]? = some (l.getD i default) := by
      rw [List.getD_eq_getElem?_getD, List.getElem?_eq_getElem hi]
      rfl
    walk_at "km"
    generalize l.getD i default = x at hx ⊢
    have hlen := len i x hx
    refine ex_extend _ 2 ?_
    walk_at "km"
    refine ⟨⟨_, List.mem_cons_self ..⟩, ?_⟩
    walk_at "km"
    refine ex_lcM T tS tS_inj' tS (ordsN N (l.eraseIdx i)) (fun r => some (x :: r)) ?_
    refine ix_list _ ?_
    walk_at "km"
    rw [cut_to, show (1 : Int) = ((1 : Nat) : Int) from rfl, cut_fromS]
    refine ox_catM _ (by simp; omega) ?_
    walk_at "km"
    rw [← List.eraseIdx_eq_take_drop_succ]
    rw [show (l.eraseIdx i).length = N from by rw [List.length_eraseIdx, if_pos hi]; omega]
    refine ⟨hNn, fun z hz => hl z (List.mem_of_mem_eraseIdx hz), fun p1 => ⟨(ordsN N (l.eraseIdx i)).map tS, .inr ⟨p1, rfl, List.mem_cons_self .., rfl, by omega, fun _ => List.mem_cons_of_mem _ (List.mem_cons_self ..), fun r hr2 => ?_, fun p2 => ?_⟩⟩⟩
    · walk_at "km"
      intro D acc
      walk_at "km"
      refine ox_catM _ (l := [x]) (m := r) ?_ ?_
      · have := (ordsN_mem N _ (by rw [List.length_eraseIdx, if_pos hi]; omega) r).mp hr2
        have := this.length_eq
        rw [List.length_eraseIdx, if_pos hi] at this
        simp only [List.length_cons, List.length_nil]
        omega
      · exact ⟨x :: r, rfl, rfl, Kp.refl _⟩
    · walk_at "km"
      rw [filterMap_some]
      have hst : ordsStep N l i = (ordsN N (l.eraseIdx i)).map (List.cons x) := by
        unfold ordsStep
        rw [hx]
      refine ⟨_, _, rfl, List.mem_cons_self .., ?_, _, Kp.cons (Kp.cons (Kp.refl _)), _, _, _, got ++ (ordsN N (l.eraseIdx i)).map (List.cons x), rfl, by simp, ?_, ?_⟩
      · refine few_line ?_
        rw [List.length_map, List.length_map, List.length_map]
        omega
      · rw [List.length_append, List.length_map]
        omega
      · rw [List.range_succ, List.flatMap_append, ← hge]
        simp [hst]
  · rintro δ' ω' ⟨s2, s3, s4, got, rfl, rfl, hg, hge⟩
    rw [List.length_map, List.length_range] at hge
    walk_at "km"
    refine kp_end (Kp.refl _) ?_
    rw [hge, ← ordsN_succ, ← hN]
    exact q p
theorem ok_law_orders (G : Glob Tb base K mg C) : OkF Tb P w K mg base 7 "_law_orders" ["_law_places"] (R_law_orders 5) :=
  ok_law_ordersS G 4 (by decide) (ok_law_ordersS G 3 (by decide) (ok_law_ordersS G 2 (by decide) (ok_law_ordersS G 1 (by decide) (ok_law_ordersS G 0 (by decide) (ok_law_orders0 G)))))
end Km
/-! Text KmL4 -/
namespace Km
open PySem PySem.Spec PyProof.Rows L2 LamX
local macro_rules
  | `(tactic| walk_at "km1") => `(tactic| first
    | ((with_reducible apply ex_v); (focus rfl); (focus rfl))
    | with_reducible refine ex_int ?_
    | with_reducible refine ex_str ?_
    | with_reducible refine ex_bl ?_
    | with_reducible refine ex_non ?_
    | with_reducible refine ex_op ?_
    | with_reducible refine ex_un ?_
    | with_reducible refine ux_neg ?_
    | with_reducible refine ox_i0I ?_
    | with_reducible refine ox_i0B ?_
    | with_reducible refine ex_tup ?_
    | with_reducible refine ex_lst ?_
    | with_reducible refine ex_slT _ ?_
    | with_reducible refine ex_slL _ ?_
    | with_reducible refine px_none ?_
    | with_reducible refine px_some ?_
    | with_reducible refine ea_nil ?_
    | with_reducible refine ea_cons ?_
    | with_reducible refine ex_isi _ ?_
    | with_reducible refine ex_cb ?_
    | with_reducible refine ex_isN ?_
    | with_reducible refine ex_notN ?_
    | with_reducible refine ex_chain ?_
    | with_reducible refine ex_if ?_
    | with_reducible refine ex_and ?_
    | with_reducible refine ex_or ?_
    | with_reducible refine ex_not ?_
    | with_reducible refine ex_tix _ ?_
    | with_reducible refine ex_goD ?_
    | with_reducible refine ex_goN ?_
    | with_reducible refine ex_goF ?_
    | with_reducible refine ex_dget ?_
    | with_reducible refine ex_din ?_
    | with_reducible refine ex_dnotin ?_
    | with_reducible refine ex_dnew ?_
    | with_reducible refine et_test ?_
    | with_reducible refine et_val ?_
    | with_reducible refine et_and ?_
    | with_reducible refine et_or ?_
    | with_reducible refine et_not ?_
    | with_reducible refine et_yes ?_
    | with_reducible refine rr_seq ?_
    | with_reducible refine rr_asg ?_
    | with_reducible refine rr_ret ?_
    | with_reducible refine rr_retN ?_
    | with_reducible refine rr_drop ?_
    | with_reducible refine rr_if ?_
    | with_reducible refine rr_par ?_
    | with_reducible refine rr_next ?_
    | with_reducible refine rr_break ?_
    | with_reducible refine ix_tup _ ?_
    | with_reducible refine ix_range1 ?_
    | with_reducible refine ix_range2 ?_
    | with_reducible refine ix_down ?_
    | with_reducible refine ix_str ?_
    | with_reducible refine ix_keys ?_
    | with_reducible refine nb_dt ?_
    | with_reducible refine nb_pt ?_
    | with_reducible refine lc_name (by simp) ?_
    | with_reducible refine lc_pair (by simp) (by simp) ?_
    | with_reducible refine lc_new (by simp) (by simp) ?_
    | with_reducible refine for_name ?_
    | with_reducible refine for_pair ?_
    | with_reducible refine for_new ?_
    | with_reducible refine tup0 ?_
    | with_reducible refine tup1 ?_
    | with_reducible refine tup2 ?_
    | with_reducible refine tup3 ?_
    | with_reducible refine arg1 ?_
    | with_reducible refine arg2 ?_
    | with_reducible refine arg3 ?_
    | with_reducible refine arg4 ?_
    | with_reducible refine ⟨_, rfl, ?_⟩
    | with_reducible refine ⟨_, _, rfl, ?_⟩)
local macro_rules
  | `(tactic| walk_at "kms") => `(tactic| try simp (maxSteps := 2000) only [wipeS, List.map_cons, List.map_nil, List.set_cons_zero, List.set_cons_succ, Bool.false_eq_true, Bool.not_true, Bool.not_false, reduceIte])
local macro_rules
  | `(tactic| walk_at "km") => `(tactic| repeat (walk_at "km1"; walk_at "kms"))
local macro_rules
  | `(tactic| walk_at "kp") => `(tactic| repeat (first | exact Kp.refl _ | refine Kp.cons2 ?_ | refine Kp.cons ?_))
local macro_rules
  | `(tactic| walk_at "ls") => `(tactic| repeat (first | exact isLs_hd | exact isLs_bo | refine isLs_tl ?_))

variable {Tb : List (Addr × Str)} {P : Program} {w : World} {K : PySem.W.Frag} {mg : Str → Option Value} {base : Heap} {C : Addr}
/-! _law_class(web, order) -/
def succs (rs : List (Str × Str)) (h : List Str) (n : Nat) : List (List Str) := turned h :: (List.range n).filterMap fun i => appMv rs h (.swap i)
theorem succs_all {rs : List (Str × Str)} {h q : List Str} {m : Mv} (e : appMv rs h m = some q) : q ∈ succs rs h (h.length - 1) := by
  cases m with
  | turn =>
    cases e
    exact List.mem_cons_self ..
  | swap i =>
    obtain ⟨u, a, b, v, e1, _, _, e2⟩ := app_swap_inv e
    refine List.mem_cons_of_mem _ (List.mem_filterMap.mpr ⟨i, List.mem_range.mpr ?_, e⟩)
    rw [e1, ← e2]
    simp
theorem succs_of {rs : List (Str × Str)} {h q : List Str} {n : Nat} (e : q ∈ succs rs h n) : ∃ m, appMv rs h m = some q := by
  rcases List.mem_cons.mp e with e | e
  · exact ⟨.turn, by rw [e]; rfl⟩
  · obtain ⟨i, _, hi⟩ := List.mem_filterMap.mp e
    exact ⟨.swap i, hi⟩
theorem few_orders {ps : List Str} (h5 : ps.length ≤ 5) {got : List (List Str)} (nd : got.Nodup) (hp : ∀ g ∈ got, g.Perm ps) : got.length ≤ 120 := by
  have h1 : got.length ≤ (ordsN ps.length ps).length := List.Nodup.length_le_of_subset nd fun g hg => (ordsN_mem ps.length ps rfl g).mpr (hp g hg)
  rw [ordsN_len ps.length ps rfl] at h1
  have : ∀ n, n ≤ 5 → fct n ≤ 120 := by decide
  exact Nat.le_trans h1 (this _ h5)
/-- of the search: h is being looked at -/
structure Grow (rs : List (Str × Str)) (ps o : List Str) (h : List Str) (got left : List (List Str)) : Prop where
  nd : got.Nodup
  start : o ∈ got
  perm : ∀ g ∈ got, g.Perm ps
  reach : ∀ g ∈ got, ∃ ms, run rs o ms = some g
  lf : ∀ g ∈ left, g ∈ got
  closed : ∀ g ∈ got, g ∈ left ∨ g = h ∨ ∀ m q, appMv rs g m = some q → q ∈ got
theorem Grow.add {rs : List (Str × Str)} {ps o h : List Str} {got left : List (List Str)} (G : Grow rs ps o h got left) {q : List Str} (hh : h ∈ got) (hq : ∃ m, appMv rs h m = some q) (hn : q ∉ got) : Grow rs ps o h (got ++ [q]) (left ++ [q]) := by
  obtain ⟨m, hm⟩ := hq
  obtain ⟨ms, hms⟩ := G.reach h hh
  have r1 : run rs h [m] = some q := by
    unfold run
    rw [hm]
    rfl
  have rq : run rs o (ms ++ [m]) = some q := run_trans hms r1
  refine ⟨?_, List.mem_append_left _ G.start, fun g hg => ?_, fun g hg => ?_, fun g hg => ?_, fun g hg => ?_⟩
  · rw [List.nodup_append]
    exact ⟨G.nd, by simp, fun a ha b hb e => hn (by rw [← List.mem_singleton.mp hb, ← e]; exact ha)⟩
  · rcases List.mem_append.mp hg with hg | hg
    · exact G.perm g hg
    · rw [List.mem_singleton.mp hg]
      exact (run_perm r1).trans (G.perm h hh)
  · rcases List.mem_append.mp hg with hg | hg
    · exact G.reach g hg
    · rw [List.mem_singleton.mp hg]
      exact ⟨_, rq⟩
  · rcases List.mem_append.mp hg with hg | hg
    · exact List.mem_append_left _ (G.lf g hg)
    · exact List.mem_append_right _ hg
  · rcases List.mem_append.mp hg with hg | hg
    · rcases G.closed g hg with z | z | z
      · exact .inl (List.mem_append_left _ z)
      · exact .inr (.inl z)
      · exact .inr (.inr fun m q e => List.mem_append_left _ (z m q e))
    · exact .inl (List.mem_append_right _ hg)
abbrev R_law_class : Prm := newR fun ds k => ∃ (ps : List Str) (rs : List (Str × Str)) (o : List Str), ds = [webD ps rs, tS o] ∧ WebV ps rs ∧ o.Perm ps ∧ ∀ got, ClassOk rs o got → (∀ g ∈ got, g.Perm ps) → got.length ≤ 120 → k (got.map tS)
theorem ok_law_class (G : Glob Tb base K mg C) : OkF Tb P w K mg base 3 "_law_class" ["_law_web_here", "_law_order_here"] R_law_class := by
  refine okF_of 2 G.d_law_class sc_law_class (fun F => F.bindsN fun _ _ _ _ _ _ us hl => match us, hl with | [_, _], _ => rfl) (fun f cdv A outer s H E hr => ?_)
  have sc := sc_law_class
  have hv := hv_of hr
  have hu := hu_of hr
  have ok_law_neighbours_ := ok_law_neighbours (Tb := Tb) (P := P) (w := w) (base := base) G
  refine ⟨_, (pss_cons (ps_par (i := 2) (j := 3) (by rfl) sc.nd rfl rfl (by decide) rfl rfl (pa_cons (pe_dispT hu (pv 1) pe_bl) (pa_cons (pe_lst (pa_cons (pv 1) pa_nil)) pa_nil)) (by rfl))
  (pss_cons (ps_while PassesOwn.never (pt_cmpR (op_neD hr.units) (pv 3) (pe_lst pa_nil) (nomark _)) (pss_cons (ps_set (i := 4) sc.nd rfl (Or.inl rfl) (pe_bm0 (PySem.F.plainAttrs_list) (PySem.F.slot_list_pop) (PySem.F.type_list_pop) mt_pop (pv 3)))
  (pss_cons (ps_set (i := 5) sc.nd rfl (Or.inl rfl) (pe_lst (pa_cons (pe_op op_catF (pe_slice sl_tupF (pv 4) (po_some pe_int) po_none) (pe_slice sl_tupF (pv 4) po_none (po_some pe_int))) pa_nil)))
  (pss_cons (ps_for PassesOwn.never rfl (pi_range1 rfl G.f_range (pa_cons (pe_op op_sub (pe_callB cr_lenQ (by rfl) G.f_len (by decide +kernel) (pa_cons (pv 4) pa_nil)) pe_int) pa_nil)) (pg_name (i := 6) sc.nd rfl (Or.inl rfl)) (pss_one (ps_if (pt_cmpR (op_notInD hv) (pe_ix L2.ix_tup (pv 4) (pv 6) (fun _ _ => rfl)) (pe_go 2 ok_law_neighbours_ (hr.mono (by decide)) rfl (pa_cons (pv 0) (pa_cons (pe_ix L2.ix_tup (pv 4) (pe_op op_add (pv 6) pe_int) (fun _ _ => rfl)) pa_nil))) (by rfl)) (pss_one (ps_expr (pe_bm (PySem.F.plainAttrs_list) (PySem.F.slot_list_append) (PySem.F.type_list_append) mt_append (pv 5) (pa_cons (pe_op op_catF (pe_op op_catF (pe_slice sl_tupF (pv 4) po_none (po_some (pv 6))) (pe_tupF (pa_cons (pe_ix L2.ix_tup (pv 4) (pe_op op_add (pv 6) pe_int) (fun _ _ => rfl)) (pa_cons (pe_ix L2.ix_tup (pv 4) (pv 6) (fun _ _ => rfl)) pa_nil)))) (pe_slice sl_tupF (pv 4) (po_some (pe_op op_add (pv 6) pe_int)) po_none)) pa_nil)))) pss_nil)))
  (pss_one (ps_for PassesOwn.never rfl (pi_list (pv 5)) (pg_name (i := 7) sc.nd rfl (Or.inl rfl)) (pss_one (ps_if (pt_cmpR (op_notInDt hu) (pv 7) (pv 2) (by rfl)) (pss_cons (ps_dputT hu (pv 2) (pv 7) pe_bl)
  (pss_one (ps_expr (pe_bm (PySem.F.plainAttrs_list) (PySem.F.slot_list_append) (PySem.F.type_list_append) mt_append (pv 3) (pa_cons (pv 7) pa_nil))))) pss_nil))))))))
  (pss_one (ps_ret (pe_callTy (cr_listDt rfl) (by rfl) G.f_list (by decide +kernel) (pa_cons (pv 2) pa_nil)))))), ?_⟩
  clear sc hu
  rintro δ ω Φ ⟨rfl, ds, rfl, ps, rs, o, rfl, W, ho, q⟩
  have p5 := W.p5
  have hl := W.law
  have hol := ho.length_eq
  have lawO : ∀ {g : List Str}, g.Perm ps → Lawful g := fun hg z hz => hl z (hg.mem_iff.mp hz)
  show RR Tb _ [.dt (webD ps rs), .dt (tS o), .un, .un, .un, .un, .un, .un] [] _
  refine rr_cut (fun δ' ω' => ∃ d p, δ' = [.dt (webD ps rs), .dt (tS o), .pt d, .pt p, .un, .un, .un, .un] ∧ ω' = [(p, .ls ([o].map tS)), (d, .dT P w [o])]) ?_ ?_
  · walk_at "km"
    refine ex_dispT fun d => ?_
    walk_at "km"
    refine ⟨trivial, trivial, ?_⟩
    walk_at "km"
    intro p
    walk_at "km"
    rfl
  rintro δ' ω' ⟨d, p, rfl, rfl⟩
  refine rr_cut (fun δ' ω' => ∃ s4 s5 s6 s7 got, ClassOk rs o got ∧ (∀ g ∈ got, g.Perm ps) ∧ δ' = [.dt (webD ps rs), .dt (tS o), .pt d, .pt p, s4, s5, s6, s7] ∧ Kp ω' [(d, .dT P w got)]) ?_ ?_
  · refine rr_while (fun n δ' ω' => ∃ s4 s5 s6 s7 got left h, Grow rs ps o h got left ∧ (h ∉ left → ∀ m q, appMv rs h m = some q → q ∈ got) ∧ 2 * (120 - got.length) + left.length = n ∧ n ≤ 239 ∧ δ' = [.dt (webD ps rs), .dt (tS o), .pt d, .pt p, s4, s5, s6, s7] ∧ ω' = [(p, .ls (left.map tS)), (d, .dT P w got)])
      239 ⟨_, _, _, _, [o], [o], o, ⟨by simp, by simp, by simpa using ho, fun g hg => ⟨[], by rw [List.mem_singleton.mp hg]; rfl⟩, fun _ h => h, fun g hg => .inl hg⟩, fun z => absurd (List.mem_singleton.mpr rfl) z, rfl, Nat.le_refl _, rfl, rfl⟩ ?_
    rintro n δ' ω' ⟨s4, s5, s6, s7, got, left, h, G1, G2, G3, G4, rfl, rfl⟩
    have few := few_orders p5 G1.nd G1.perm
    have okl : okds 1 (left.map tS) = true := okds_iff.mpr fun x hx => by
      obtain ⟨g, hg, rfl⟩ := List.mem_map.mp hx
      exact okd_tS (lawO (G1.perm g (G1.lf g hg)))
    walk_at "km"
    intro q1
    walk_at "km"
    refine ox_nel _ 1 (isLs_tl isLs_hd) isLs_hd okl (okds_nil 1) (by decide) fun b1 h1 => ?_
    refine ⟨_, rfl, ?_⟩
    rw [List.map_eq_nil_iff] at h1
    by_cases hle : left = []
    · subst hle
      rw [h1.mpr rfl]
      walk_at "kms"
      refine ⟨_, _, _, _, got, ⟨G1.nd, G1.start, G1.reach, fun g hg m q' e => ?_⟩, G1.perm, rfl, Kp.cons (Kp.cons (Kp.refl _))⟩
      rcases G1.closed g hg with z | z | z
      · exact absurd z List.not_mem_nil
      · subst z
        exact G2 List.not_mem_nil m q' e
      · exact z m q' e
    · have hb1 : b1 = false := by
        cases b1 with
        | false => rfl
        | true => exact absurd (h1.mp rfl) hle
      rw [hb1]
      walk_at "kms"
      refine rr_kp (Kp.cons (Kp.refl _)) ?_
      obtain ⟨init, hh, rfl⟩ : ∃ init hh, left = init ++ [hh] := ⟨left.dropLast, left.getLast hle, (List.dropLast_concat_getLast hle).symm⟩
      have mh : hh ∈ got := G1.lf hh (by simp)
      have ph := G1.perm hh mh
      have hhl := ph.length_eq
      have lhh := lawO ph
      rw [List.map_append, List.map_cons, List.map_nil]
      walk_at "km"
      refine ex_pop _ 0 ?_
      walk_at "km"
      refine ⟨_, _, _, rfl, rfl, ?_⟩
      walk_at "km"
      rw [show (1 : Int) = ((1 : Nat) : Int) from rfl, cut_from, cut_to]
      refine ox_catM _ (by simp; omega) ?_
      walk_at "km"
      intro pm
      walk_at "km"
      refine rr_for T (fun i δ' ω' => ∃ s6 s7, δ' = [.dt (webD ps rs), .dt (tS o), .pt d, .pt p, .dt (tS hh), .pt pm, s6, s7] ∧ ω' = [(pm, .ls ((succs rs hh i).map tS)), (p, .ls (init.map tS)), (d, .dT P w got)]) ?_
      walk_at "km"
      refine kx_lenT _ ?_
      walk_at "km"
      rw [List.length_map]
      have hn1 : (((hh.length : Nat) : Int) - ((1 : Nat) : Int)).toNat = hh.length - 1 := by omega
      refine ⟨by omega, by omega, ⟨_, _, rfl, rfl⟩, fun _ _ _ _ => True.intro, ?_, ?_⟩
      · rintro i x δ' ω' hx ⟨s6, s7, rfl, rfl⟩
        have hi : i < hh.length - 1 := by
          have := (List.getElem?_eq_some_iff.mp hx).1
          rwa [rangeD_len, hn1] at this
        rw [hn1, rangeD_at hi] at hx
        cases hx
        obtain ⟨u, a, b, v, rfl, hul⟩ : ∃ u a b v, hh = u ++ a :: b :: v ∧ u.length = i := by
          have e1 : hh.drop i = hh[i] :: hh.drop (i + 1) := List.drop_eq_getElem_cons (by omega)
          have e2 : hh.drop (i + 1) = hh[i + 1] :: hh.drop (i + 2) := List.drop_eq_getElem_cons (by omega)
          refine ⟨hh.take i, hh[i], hh[i + 1], hh.drop (i + 2), ?_, by rw [List.length_take]; omega⟩
          rw [← e2, ← e1, List.take_append_drop]
        subst hul
        have hu5 : u.length + v.length + 2 ≤ 5 := by
          rw [List.length_append, List.length_cons, List.length_cons] at hhl
          omega
        have ma : a ∈ ps := ph.mem_iff.mp (by simp)
        have mb : b ∈ ps := ph.mem_iff.mp (by simp)
        have hap : appMv rs (u ++ a :: b :: v) (.swap u.length) = if adj rs a b = true then none else some (u ++ b :: a :: v) := by
          unfold appMv
          simp only [List.drop_left, List.take_left]
        have hsu : succs rs (u ++ a :: b :: v) (u.length + 1) = succs rs (u ++ a :: b :: v) u.length ++ (if adj rs a b = true then [] else [u ++ b :: a :: v]) := by
          unfold succs
          rw [List.range_succ, List.filterMap_append, List.filterMap_cons, hap]
          cases adj rs a b <;> simp
        rw [show (0 : Int) + (u.length : Nat) = ((u.length : Nat) : Int) by omega]
        walk_at "km"
        refine ox_ixM _ (z := a) (atI_n (by simp)) ?_
        walk_at "km"
        refine ox_ixM _ (z := b) (atI_s (by simp)) ?_
        walk_at "km"
        refine ⟨ps, rs, b, rfl, W, mb, fun p3 => ?_⟩
        refine ox_notinl _ 1 isLs_hd (okd_s 1 (hl a ma)) (okds_iff.mpr fun x hx => ?_) (by decide) fun b2 h2 => ?_
        · obtain ⟨z, hz, rfl⟩ := List.mem_map.mp hx
          exact okd_s 1 (hl z (nbrs_mem.mp hz).1)
        rw [mem_tS] at h2
        have h2' : b2 = adj rs a b := by
          have e : b2 = true ↔ adj rs a b = true := h2.trans (by rw [nbrs_mem, adj_comm rs a b]; exact ⟨fun z => z.2, fun z => ⟨ma, z⟩⟩)
          cases b2 with
          | true => exact (e.mp rfl).symm
          | false =>
            cases h : adj rs a b with
            | false => rfl
            | true => exact absurd (e.mpr h) (by decide)
        refine ⟨_, rfl, ?_⟩
        rw [h2']
        cases hab : adj rs a b with
        | true =>
          rw [hab] at hsu
          walk_at "kms"
          walk_at "km"
          refine ⟨_, Kp.cons (Kp.refl _), _, _, rfl, ?_⟩
          rw [hsu]
          simp
        | false =>
          rw [hab] at hsu
          walk_at "kms"
          refine rr_kp (Kp.cons (Kp.refl _)) ?_
          walk_at "km"
          refine ex_append _ 0 ?_
          walk_at "km"
          refine ⟨⟨_, List.mem_cons_self ..⟩, ?_⟩
          walk_at "km"
          refine ox_ixM _ (z := b) (atI_s (by simp)) ?_
          walk_at "km"
          refine ox_ixM _ (z := a) (atI_n (by simp)) ?_
          walk_at "km"
          rw [cut_to]
          refine ox_catM _ (m := [b, a]) (by simp; omega) ?_
          walk_at "km"
          rw [show (2 : Int) = ((2 : Nat) : Int) from rfl, cut_fromS]
          refine ox_catM _ (by simp; omega) ?_
          have e : List.take u.length (u ++ a :: b :: v) ++ [b, a] ++ List.drop (u.length + 2) (u ++ a :: b :: v) = u ++ b :: a :: v := by
            rw [List.take_left, show u ++ a :: b :: v = (u ++ [a, b]) ++ v by simp, show u.length + 2 = (u ++ [a, b]).length by simp, List.drop_left]
            simp
          rw [e]
          walk_at "km"
          refine ⟨few_lt ?_, _, Kp.refl _, _, _, rfl, ?_⟩
          · rw [List.length_map]
            unfold succs
            rw [List.length_cons]
            have := List.length_filterMap_le (fun i => appMv rs (u ++ a :: b :: v) (.swap i)) (List.range u.length)
            rw [List.length_range] at this
            omega
          · rw [hsu]
            simp
      · rintro δ' ω' ⟨s6, s7, rfl, rfl⟩
        rw [hn1, rangeD_len]
        have G0 : Grow rs ps o hh got init := ⟨G1.nd, G1.start, G1.perm, G1.reach, fun g hg => G1.lf g (List.mem_append_left _ hg), fun g hg => by
          rcases G1.closed g hg with z | z | z
          · rcases List.mem_append.mp z with z | z
            · exact .inl z
            · exact .inr (.inl (List.mem_singleton.mp z))
          · subst z
            by_cases hin : g ∈ init ++ [hh]
            · rcases List.mem_append.mp hin with z | z
              · exact .inl z
              · exact .inr (.inl (List.mem_singleton.mp z))
            · exact .inr (.inr (G2 hin))
          · exact .inr (.inr z)⟩
        rw [List.length_append, List.length_cons, List.length_nil] at G3
        have lsu : (succs rs hh (hh.length - 1)).length ≤ 5 := by
          unfold succs
          rw [List.length_cons]
          have := List.length_filterMap_le (fun i => appMv rs hh (.swap i)) (List.range (hh.length - 1))
          rw [List.length_range] at this
          have := hhl
          omega
        have sall : ∀ m q, appMv rs hh m = some q → q ∈ succs rs hh (hh.length - 1) := fun m q e => succs_all e
        have sof : ∀ q ∈ succs rs hh (hh.length - 1), ∃ m, appMv rs hh m = some q := fun q e => succs_of e
        generalize succs rs hh (hh.length - 1) = more at lsu sall sof
        refine rr_for T (fun j δ' ω' => ∃ s6 s7 got' left', Grow rs ps o hh got' left' ∧ (∀ q ∈ more.take j, q ∈ got') ∧ 2 * (120 - got'.length) + left'.length + 1 ≤ n ∧ hh ∈ got' ∧ left'.length ≤ init.length + j ∧ δ' = [.dt (webD ps rs), .dt (tS o), .pt d, .pt p, .dt (tS hh), .pt pm, s6, s7] ∧ ω' = [(pm, .ls (more.map tS)), (p, .ls (left'.map tS)), (d, .dT P w got')]) ?_
        refine ix_list _ ?_
        walk_at "km"
        refine ⟨_, .inr ⟨pm, rfl, List.mem_cons_self .., ⟨_, _, got, init, G0, by simp, by omega, mh, by omega, rfl, rfl⟩, ?_, ?_, ?_⟩⟩
        · rintro j δ' ω' ⟨_, _, _, _, _, _, _, _, _, _, rfl⟩
          exact List.mem_cons_self ..
        · rintro j x δ' ω' hx ⟨t6, t7, got', left', g1, g2, g3, g4, g5, rfl, rfl⟩
          rw [List.getElem?_map] at hx
          cases hr : more[j]? with
          | none => rw [hr] at hx; cases hx
          | some q' =>
          rw [hr] at hx
          cases hx
          have hj : j < more.length := (List.getElem?_eq_some_iff.mp hr).1
          have tk := take_succ hr
          have few' := few_orders p5 g1.nd g1.perm
          walk_at "km"
          refine ox_notInDt (List.mem_cons_of_mem _ (List.mem_cons_of_mem _ (List.mem_cons_self ..))) ?_
          refine ⟨_, rfl, ?_⟩
          by_cases hin : q' ∈ got'
          · refine ifF (by rw [decide_eq_true hin]; rfl) ?_
            walk_at "km"
            refine ⟨_, Kp.refl _, _, _, got', left', g1, fun z hz => ?_, g3, g4, by omega, rfl, rfl⟩
            rw [tk] at hz
            rcases List.mem_append.mp hz with hz | hz
            · exact g2 z hz
            · rw [List.mem_singleton.mp hz]
              exact hin
          · refine ifT (by rw [decide_eq_false hin]; rfl) ?_
            have G9 := g1.add g4 (sof q' (List.mem_of_getElem? hr)) hin
            have few9 := few_orders p5 G9.nd G9.perm
            rw [List.length_append, List.length_cons, List.length_nil] at few9
            walk_at "km"
            refine rr_dputT 2 ?_
            walk_at "km"
            refine ⟨d, got', q', by first | rfl | trivial, by first | rfl | trivial, by first | rfl | trivial, rfl, hin, few_lt (by omega), ?_⟩
            walk_at "km"
            refine ex_append _ 1 ?_
            walk_at "km"
            refine ⟨⟨_, List.mem_cons_of_mem _ (List.mem_cons_self ..)⟩, ?_⟩
            walk_at "km"
            refine ⟨few_lt (by rw [List.length_map]; omega), _, Kp.refl _, _, _, got' ++ [q'], left' ++ [q'], G9, fun z hz => ?_, ?_, List.mem_append_left _ g4, ?_, rfl, ?_⟩
            · rw [tk] at hz
              rcases List.mem_append.mp hz with hz | hz
              · exact List.mem_append_left _ (g2 z hz)
              · exact List.mem_append_right _ hz
            · rw [List.length_append, List.length_append, List.length_cons, List.length_nil]
              omega
            · rw [List.length_append, List.length_cons, List.length_nil]
              omega
            · rw [List.map_append]
              rfl
        · rintro δ' ω' ⟨t6, t7, got', left', g1, g2, g3, g4, g5, rfl, rfl⟩
          rw [List.length_map, List.take_length] at g2
          refine ⟨2 * (120 - got'.length) + left'.length, _, by omega, Kp.cons (Kp.refl _), _, _, _, _, got', left', hh, g1, fun _ m q' e => g2 q' (sall m q' e), rfl, by omega, rfl, rfl⟩
  · rintro δ' ω' ⟨s4, s5, s6, s7, got, c1, c2, rfl, kp⟩
    refine rr_kp kp ?_
    walk_at "km"
    refine kx_listDt (List.mem_cons_self ..) fun p2 => ?_
    walk_at "km"
    exact kp_end (Kp.cons2 (kp_nil _)) (q got c1 c2 (few_orders p5 c1.nd c2) p2)
end Km
/-! Text KmDc -/
/-! {k: v for ..} with texts as keys and ints as values. -/
namespace Km
open PySem PySem.Spec PyProof.Rows L2 LamX
section
variable {J : It} {n : Nat} {G : Hp → Prop} {Y : Nat → Hp → V → Hp → Prop}
theorem dc_it (w : Walk J n G Y) {g : TG} {tt : TT} {tk tv : TE} {vs : List Nat} {σ : L2.St} {H1 : Hp} {D : Addr} {Qd : Hp → Prop} (Pv : Nat → Hp → Prop) (h0 : Pv 0 (upd H1 D (.dK []))) (hG : ∀ i H, i ≤ n → Pv i H → G H)
    (hs : ∀ i x H H', i < n → Pv i H → Y i H x H' → g x (wipe σ vs) H' fun σ2 H2 => wipe σ2 vs = wipe σ vs ∧ tt σ2 H2 fun b H3 =>
      if b = true then tk σ2 H3 fun y H4 => tv σ2 H4 fun z H5 => ∃ kvs k, y = kV k ∧ H5 D = some (.dK kvs) ∧ kvs.length < sizeLine ∧ Pv (i + 1) (upd H5 D (.dK (putK kvs k z))) else Pv (i + 1) H3) (hd : ∀ H, Pv n H → Qd H) :
    ∃ W : Nat → Nat → Hp → Prop, (∃ m, W 0 m (upd H1 D (.dK []))) ∧ ∀ i m H, W i m H →
      (J.stop i H ∧ Qd H) ∨ (J.go i H ∧ ∃ Nx : Hp → Prop, (∀ H', Nx H' → ∃ m', m' < m ∧ W (i + 1) m' H') ∧ ∀ x H', J.yld i H x H' → g x (wipe σ vs) H' fun σ2 H2 => wipe σ2 vs = wipe σ vs ∧ tt σ2 H2 fun b H3 =>
        if b = true then tk σ2 H3 fun y H4 => tv σ2 H4 fun z H5 => ∃ kvs k, y = kV k ∧ H5 D = some (.dK kvs) ∧ kvs.length < sizeLine ∧ Nx (upd H5 D (.dK (putK kvs k z))) else Nx H3) := by
  refine ⟨fun i m H => m = n - i ∧ i ≤ n ∧ Pv i H, ⟨n, by simp, Nat.zero_le _, h0⟩, ?_⟩
  rintro i m H ⟨rfl, hi, p⟩
  have q := hG i H hi p
  by_cases hlt : i < n
  · refine .inr ⟨w.goes i H hlt q, Pv (i + 1), fun H' p' => ⟨n - (i + 1), by omega, rfl, hlt, p'⟩, fun x H' y => hs i x H H' hlt p (w.yields i H x H' hlt q y)⟩
  · have e : i = n := by omega
    subst e
    exact .inl ⟨w.stops H q, hd H p⟩
end
theorem snoc_ind {α : Type} {p : List α → Prop} (h0 : p []) (h1 : ∀ l x, p l → p (l ++ [x])) : ∀ (n : Nat) (l : List α), l.length = n → p l
  | 0, l, h => by
    rw [List.eq_nil_of_length_eq_zero h]
    exact h0
  | n + 1, l, h => by
    have hne : l ≠ [] := fun e => by
      rw [e] at h
      cases h
    rw [← List.dropLast_concat_getLast hne]
    exact h1 _ _ (snoc_ind h0 h1 n _ (by rw [List.length_dropLast, h]; rfl))
def putAll (l : List (Str × Int)) : List (Str × Int) := l.foldl (fun m p => putS m p.1 p.2) []
theorem putAll_snoc (l : List (Str × Int)) (p : Str × Int) : putAll (l ++ [p]) = putS (putAll l) p.1 p.2 := by
  unfold putAll
  rw [List.foldl_append]
  rfl
theorem putS_len (kvs : List (Str × Int)) (k : Str) (v : Int) : (putS kvs k v).length ≤ kvs.length + 1 := by
  unfold putS
  split
  · rw [List.length_map]
    omega
  · simp
theorem putAll_len : ∀ (l : List (Str × Int)), (putAll l).length ≤ l.length := by
  refine fun l => snoc_ind (p := fun l => (putAll l).length ≤ l.length) ?_ ?_ l.length l rfl
  · exact Nat.le_refl _
  · intro l p ih
    rw [putAll_snoc, List.length_append]
    have := putS_len (putAll l) p.1 p.2
    simp
    omega
theorem putS_new {kvs : List (Str × Int)} {k : Str} {v : Int} (h : k ∉ kvs.map (·.1)) : putS kvs k v = kvs ++ [(k, v)] := by
  unfold putS
  rw [if_neg]
  intro z
  obtain ⟨p, hp, e⟩ := List.any_eq_true.mp z
  exact h (List.mem_map.mpr ⟨p, hp, of_decide_eq_true e⟩)
theorem putAll_nodup : ∀ (l : List (Str × Int)), (l.map (·.1)).Nodup → putAll l = l := by
  refine fun l => snoc_ind (p := fun l => (l.map (·.1)).Nodup → putAll l = l) ?_ ?_ l.length l rfl
  · exact fun _ => rfl
  · intro l p ih h
    rw [List.map_append, List.nodup_append] at h
    rw [putAll_snoc, ih h.1, putS_new]
    intro z
    exact h.2.2 _ z p.1 (by simp) rfl
theorem lookS_mem : ∀ {l : List (Str × Int)} {k : Str} {v : Int}, (l.map (·.1)).Nodup → (k, v) ∈ l → lookS l k = some v
  | (a, b) :: l, k, v, hn, h => by
    unfold lookS
    rw [List.map_cons, List.nodup_cons] at hn
    rcases List.mem_cons.mp h with e | e
    · cases e
      rw [List.find?_cons_of_pos (by simp)]
      rfl
    · have : ¬ a = k := fun z => hn.1 (by rw [z]; exact List.mem_map.mpr ⟨_, e, rfl⟩)
      rw [List.find?_cons_of_neg (by simpa using this)]
      exact lookS_mem hn.2 e
theorem map_getD_range {α : Type} (o : List α) (d : α) : (List.range o.length).map (fun i => o.getD i d) = o := by
  apply List.ext_getElem (by simp)
  intro i h1 h2
  simp [List.getD_eq_getElem?_getD, List.getElem?_eq_getElem h2]
def ranksOf (o : List Str) : List (Str × Int) := (List.range o.length).map fun i => (o.getD i default, ((i : Nat) : Int))
theorem ranks_keys (o : List Str) : (ranksOf o).map (·.1) = o := by
  unfold ranksOf
  rw [List.map_map]
  exact map_getD_range o default
theorem ranks_look {o : List Str} (hn : o.Nodup) {a : Str} (ha : a ∈ o) : lookS (putAll (ranksOf o)) a = some ((o.idxOf a : Nat) : Int) := by
  rw [putAll_nodup _ (by rw [ranks_keys]; exact hn)]
  refine lookS_mem (by rw [ranks_keys]; exact hn) ?_
  have hi := List.idxOf_lt_length_of_mem ha
  refine List.mem_map.mpr ⟨o.idxOf a, List.mem_range.mpr hi, ?_⟩
  rw [List.getD_eq_getElem?_getD, List.getElem?_eq_getElem hi, List.getElem_idxOf]
  rfl
section
variable {Tb : List (Addr × Str)} {wi : TI} {g : TG} {δ : List Sl} {ω : Om} {Φ : Sl → Om → Prop}
/-- {k: v for target in iter}: F tells each one's part -/
theorem ex_dc (Dr : DrT) {tt : TT} {tk tv : TE} {vs : List Nat} (F : PyData → Str × Int) (h : IX Dr Tb wi δ ω fun ds C ω1 => ds.length ≤ 1000000 ∧ (∀ p, C (p :: ω1)) ∧
      (∀ d ∈ ds, ∃ js δ2, GX Dr g d js (wipeS δ vs) δ2 ∧ (∀ j ∈ js, j ∈ vs) ∧ ∀ D acc, ET Tb tt δ2 ((D, .dk acc) :: ω1) fun b ω2 => b = true ∧ EX Tb tk δ2 ω2 fun s ω3 => s = .dt (.str (F d).1) ∧ EX Tb tv δ2 ω3 fun s2 ω4 => s2 = .dt (.int (F d).2) ∧ Kp ω4 ((D, .dk acc) :: ω1)) ∧
      ∀ p, Φ (.pt p) ((p, .dk (putAll (ds.map F))) :: ω1)) : EX Tb (tDc wi g tt tk tv vs) δ ω Φ := fun B σ H Q S k =>
  h B σ H _ S fun J ds C ω1 H1 q wk e p D hD => by
    obtain ⟨G, Y, w, hG, hY⟩ := wk
    obtain ⟨hz, hC, hb, hq⟩ := q
    have se := same_new (H := H1) (o := .dK []) hD
    refine dc_it w (fun i H' => TupEx H1 H' ∧ HeapOk Tb B H' ((D, .dk (putAll ((ds.take i).map F))) :: ω1)) ⟨(Ext.of se).tup, p.new se hD upd_same⟩ ?_ ?_ ?_
    · rintro i H' _ ⟨e2, p2⟩
      exact hG H' _ e2 p2 (hC _)
    · rintro i x H' H2 hi ⟨e2, p2⟩ y
      obtain ⟨sm, d, hd, td⟩ := hY i H' x H2 (hG H' _ e2 p2 (hC _)) y
      obtain ⟨js, δ2, hg, hj, hx⟩ := hb d (List.mem_of_getElem? hd)
      have e3 : TupEx H1 H2 := e2.trans (Ext.of sm).tup
      have p3 := p2.same sm
      have S2 : Sees Tb B σ H2 δ ((D, .dk (putAll ((ds.take i).map F))) :: ω1) := (S.re (e.trans e3) p3)
      refine hg Tb B _ H2 x _ _ (S2.wipe vs) td fun σ3 S3 hw => ⟨(hw vs hj).trans (wipe_idem σ vs), ?_⟩
      refine hx D _ B σ3 H2 _ S3 fun b ω2 H3 q3 e4 p4 => ?_
      obtain ⟨rfl, q3⟩ := q3
      rw [if_pos rfl]
      refine q3 B σ3 H3 _ (S3.re e4 p4) fun v s ω3 H4 q4 e5 k5 p5 => ?_
      obtain ⟨rfl, q4⟩ := q4
      refine q4 B σ3 H4 _ ((S3.re e4 p4).re e5 p5) fun v2 s2 ω4 H5 q5 e6 k6 p6 => ?_
      obtain ⟨rfl, kp⟩ := q5
      have p7 := p6.kp kp
      obtain ⟨p8, e8⟩ := p7.dkPut (j := 0) (kvs' := putS (putAll ((ds.take i).map F)) (F d).1 (F d).2) rfl
      refine ⟨kvV (putAll ((ds.take i).map F)), .inr (F d).1, k5.data.strv, p7.dkAt (j := 0) rfl, ?_, ?_⟩
      · unfold kvV
        rw [List.length_map]
        have l1 := putAll_len ((ds.take i).map F)
        have l2 : ((ds.take i).map F).length = i := by rw [List.length_map, List.length_take]; omega
        exact few_lt (by omega)
      · rw [k6.data.intv, putK_kv]
        have tk := take_succ hd
        refine ⟨(((e3.trans e4).trans e5).trans e6).trans e8, ?_⟩
        rw [tk, List.map_append, List.map_cons, List.map_nil, putAll_snoc]
        exact p8
    · rintro H' ⟨e2, p2⟩
      rw [List.take_length] at p2
      exact k _ _ _ H' (hq D) (e.trans e2) rfl p2
end
end Km
/-! Text KmM1 -/
namespace Km
open PySem PySem.Spec PyProof.Rows L2 LamX
local macro_rules
  | `(tactic| walk_at "km1") => `(tactic| first
    | ((with_reducible apply ex_v); (focus rfl); (focus rfl))
    | with_reducible refine ex_int ?_
    | with_reducible refine ex_str ?_
    | with_reducible refine ex_bl ?_
    | with_reducible refine ex_non ?_
    | with_reducible refine ex_op ?_
    | with_reducible refine ex_un ?_
    | with_reducible refine ux_neg ?_
    | with_reducible refine ox_i0I ?_
    | with_reducible refine ox_i0B ?_
    | with_reducible refine ex_tup ?_
    | with_reducible refine ex_lst ?_
    | with_reducible refine ex_slT _ ?_
    | with_reducible refine ex_slL _ ?_
    | with_reducible refine px_none ?_
    | with_reducible refine px_some ?_
    | with_reducible refine ea_nil ?_
    | with_reducible refine ea_cons ?_
    | with_reducible refine ex_isi _ ?_
    | with_reducible refine ex_cb ?_
    | with_reducible refine ex_isN ?_
    | with_reducible refine ex_notN ?_
    | with_reducible refine ex_chain ?_
    | with_reducible refine ex_if ?_
    | with_reducible refine ex_and ?_
    | with_reducible refine ex_or ?_
    | with_reducible refine ex_not ?_
    | with_reducible refine ex_tix _ ?_
    | with_reducible refine ex_goD ?_
    | with_reducible refine ex_goN ?_
    | with_reducible refine ex_goF ?_
    | with_reducible refine ex_dget ?_
    | with_reducible refine ex_din ?_
    | with_reducible refine ex_dnotin ?_
    | with_reducible refine ex_dnew ?_
    | with_reducible refine et_test ?_
    | with_reducible refine et_val ?_
    | with_reducible refine et_and ?_
    | with_reducible refine et_or ?_
    | with_reducible refine et_not ?_
    | with_reducible refine et_yes ?_
    | with_reducible refine rr_seq ?_
    | with_reducible refine rr_asg ?_
    | with_reducible refine rr_ret ?_
    | with_reducible refine rr_retN ?_
    | with_reducible refine rr_drop ?_
    | with_reducible refine rr_if ?_
    | with_reducible refine rr_par ?_
    | with_reducible refine rr_next ?_
    | with_reducible refine rr_break ?_
    | with_reducible refine ix_tup _ ?_
    | with_reducible refine ix_range1 ?_
    | with_reducible refine ix_range2 ?_
    | with_reducible refine ix_down ?_
    | with_reducible refine ix_str ?_
    | with_reducible refine ix_keys ?_
    | with_reducible refine nb_dt ?_
    | with_reducible refine nb_pt ?_
    | with_reducible refine lc_name (by simp) ?_
    | with_reducible refine lc_pair (by simp) (by simp) ?_
    | with_reducible refine lc_new (by simp) (by simp) ?_
    | with_reducible refine for_name ?_
    | with_reducible refine for_pair ?_
    | with_reducible refine for_new ?_
    | with_reducible refine tup0 ?_
    | with_reducible refine tup1 ?_
    | with_reducible refine tup2 ?_
    | with_reducible refine tup3 ?_
    | with_reducible refine arg1 ?_
    | with_reducible refine arg2 ?_
    | with_reducible refine arg3 ?_
    | with_reducible refine arg4 ?_
    | with_reducible refine ⟨_, rfl, ?_⟩
    | with_reducible refine ⟨_, _, rfl, ?_⟩)
local macro_rules
  | `(tactic| walk_at "kms") => `(tactic| try simp (maxSteps := 2000) only [wipeS, List.map_cons, List.map_nil, List.set_cons_zero, List.set_cons_succ, Bool.false_eq_true, Bool.not_true, Bool.not_false, reduceIte])
local macro_rules
  | `(tactic| walk_at "km") => `(tactic| repeat (walk_at "km1"; walk_at "kms"))
local macro_rules
  | `(tactic| walk_at "kp") => `(tactic| repeat (first | exact Kp.refl _ | refine Kp.cons2 ?_ | refine Kp.cons ?_))
local macro_rules
  | `(tactic| walk_at "ls") => `(tactic| repeat (first | exact isLs_hd | exact isLs_bo | refine isLs_tl ?_))

variable {Tb : List (Addr × Str)} {P : Program} {w : World} {K : PySem.W.Frag} {mg : Str → Option Value} {base : Heap} {C : Addr}
/-! arrows_of(web, order) -/
def arw (o : List Str) (r : Str × Str) : Str × Str := if bef o r.1 r.2 = true then r else (r.2, r.1)
def rankF : PyData → Str × Int
  | .tuple [.int i, .str z] => (z, i)
  | _ => default
theorem rankF_map (o : List Str) : ((List.range o.length).map fun i => PyData.tuple [.int (i : Nat), .str (o.getD i default)]).map rankF = ranksOf o := by
  unfold ranksOf
  rw [List.map_map]
  rfl
theorem rdD_inj' : ∀ a b : Str × Str, rdD a = rdD b → a = b := fun a b h => by
  obtain ⟨a1, a2⟩ := a
  obtain ⟨b1, b2⟩ := b
  cases h
  rfl
abbrev R_arrows_of : Prm := pureR fun ds k => ∃ (ps : List Str) (rs : List (Str × Str)) (o : List Str), ds = [webD ps rs, tS o] ∧ WebV ps rs ∧ o.Perm ps ∧ k (.tuple ((rs.map (arw o)).map rdD))
theorem ok_arrows_of (G : Glob Tb base K mg C) : OkF Tb P w K mg base 3 "arrows_of" ["web", "order"] R_arrows_of := by
  refine okF_of 2 G.d_arrows_of sc_arrows_of (fun F => F.bindsN fun _ _ _ _ _ _ us hl => match us, hl with | [_, _], _ => rfl) (fun f cdv A outer s H E hr => ?_)
  have sc := sc_arrows_of
  have hv := hv_of hr
  have hu := hu_of hr
  refine ⟨_, (pss_cons (ps_set (i := 2) sc.nd rfl (Or.inr rfl) (pe_dc (own := [("rank", 3), ("place", 4)]) (g := (gTup K 2 (gCons (gName 3) (gCons (gName 4) gNil)))) rfl sc.nd (pi_enumF (by rfl) G.f_enumerate (pa_cons (pv 1) pa_nil)) (blkOk_by (N := N_arrows_of) (sc := defScope s_arrows_of) (by decide +kernel)) (fun _ _ _ _ _ => (pg_tup (n := 2) rfl (pgs_cons (pg_name (i := 3) sc.nd rfl (Or.inl rfl)) (pgs_cons (pg_name (i := 4) sc.nd rfl (Or.inl rfl)) pgs_nil)))) (fun _ _ _ _ _ => pts_nil) (fun _ _ _ _ _ => (pv 4)) (fun _ _ _ _ _ => (pv 3))))
  (pss_one (ps_ret (pe_callTy call_tupF (by rfl) G.f_tuple (by decide +kernel) (pa_cons (pe_lc (own := [("one", 5), ("other", 6)]) (g := (gTup K 2 (gCons (gName 5) (gCons (gName 6) gNil)))) rfl sc.nd (pi_tup (pe_ix L2.ix_tup (pv 0) pe_int (fun _ _ => rfl))) (blkOk_by (N := N_arrows_of) (sc := defScope s_arrows_of) (by decide +kernel)) (fun _ _ _ _ _ => (pg_tup (n := 2) rfl (pgs_cons (pg_name (i := 5) sc.nd rfl (Or.inl rfl)) (pgs_cons (pg_name (i := 6) sc.nd rfl (Or.inl rfl)) pgs_nil)))) (fun _ _ _ _ _ => pts_nil) (fun _ _ _ _ _ => (pe_ifExp (pt_cmpR op_lt (pe_dget hu (pv 2) (pv 5) (fun _ _ => rfl)) (pe_dget hu (pv 2) (pv 6) (fun _ _ => rfl)) (nomark _)) (pe_tupF (pa_cons (pv 5) (pa_cons (pv 6) pa_nil))) (pe_tupF (pa_cons (pv 6) (pa_cons (pv 5) pa_nil)))))) pa_nil))))), ?_⟩
  clear sc hu
  rintro δ ω Φ ⟨rfl, ds, rfl, ps, rs, o, rfl, W, ho, q⟩
  have p5 := W.p5
  have hol := ho.length_eq
  have hn : o.Nodup := ho.nodup_iff.mpr W.web.nd
  show RR Tb _ [.dt (webD ps rs), .dt (tS o), .un, .un, .un, .un, .un] [] _
  refine rr_seq ?_
  refine rr_asg ?_
  refine ex_dc TP rankF ?_
  refine ix_enumF _ ?_
  walk_at "km"
  rw [enumD_map _ _ default]
  refine ⟨by rw [List.length_map, List.length_range]; omega, fun _ => True.intro, fun d hd => ?_, fun p => ?_⟩
  · obtain ⟨i, hi, rfl⟩ := List.mem_map.mp hd
    walk_at "km"
    intro D acc
    walk_at "km"
    refine ⟨trivial, ?_⟩
    walk_at "km"
    refine ⟨rfl, ?_⟩
    walk_at "km"
    exact ⟨rfl, Kp.refl _⟩
  · rw [rankF_map]
    walk_at "km"
    refine ex_lcM T rdD rdD_inj' rdD rs (fun r => some (arw o r)) ?_
    refine ix_tup _ ?_
    walk_at "km"
    refine ox_ixT _ (i := 1) (d := .tuple (rs.map rdD)) rfl ?_
    have r10 := W.r10
    refine ⟨_, rfl, rfl, by omega, fun _ => True.intro, fun r hr => ?_, fun p2 => ?_⟩
    · obtain ⟨m1, m2, _⟩ := W.web.ends r hr
      have l1 := ranks_look hn (ho.mem_iff.mpr m1)
      have l2 := ranks_look hn (ho.mem_iff.mpr m2)
      walk_at "km"
      intro D acc
      walk_at "km"
      refine ⟨_, _, _, rfl, ⟨_, rfl, .inl (List.mem_cons_of_mem _ (List.mem_cons_self ..))⟩, l1, ?_⟩
      walk_at "km"
      refine ⟨_, _, _, rfl, ⟨_, rfl, .inl (List.mem_cons_of_mem _ (List.mem_cons_self ..))⟩, l2, ?_⟩
      walk_at "km"
      by_cases hb : o.idxOf r.1 < o.idxOf r.2
      · refine ifT (by simp; exact hb) ?_
        walk_at "km"
        refine ⟨?_, Kp.refl _⟩
        unfold arw bef
        rw [if_pos (by simpa using hb)]
      · refine ifF (by simp; omega) ?_
        walk_at "km"
        refine ⟨(r.2, r.1), rfl, ?_, Kp.refl _⟩
        unfold arw bef
        rw [if_neg (by simpa using hb)]
    · walk_at "km"
      rw [filterMap_some]
      refine kx_tuple _ isLs_hd ?_
      walk_at "km"
      exact kp_end (kp_nil _) q
/-! path_between(web, order, other) -/
theorem arw_same {rs : List (Str × Str)} {o o' : List Str} (h : AlikeO rs o o') : rs.map (arw o) = rs.map (arw o') := by
  apply List.map_congr_left
  intro r hr
  unfold arw
  rw [h r.1 r.2 (adj_iff.mpr (.inl hr))]
theorem okd_arw {ps : List Str} {rs : List (Str × Str)} (W : WebV ps rs) (o : List Str) : okd 2 (.tuple ((rs.map (arw o)).map rdD)) = true := okd_rds fun p hp => by
  obtain ⟨r, hr, rfl⟩ := List.mem_map.mp hp
  have := W.lr r hr
  unfold arw
  split
  · exact this
  · exact ⟨this.2, this.1⟩
theorem run_downs_succ {rs : List (Str × Str)} {o : List Str} {ms : List Nat} {a b : List Str} {i : Nat} (h : run rs o (ms.map .swap) = some a) (h2 : appMv rs a (.swap i) = some b) : run rs o ((ms ++ [i]).map .swap) = some b := by
  rw [List.map_append]
  refine run_trans h ?_
  show run rs a [Mv.swap i] = _
  unfold run
  rw [h2]
  rfl
abbrev intsD (l : List Nat) : List PyData := l.map fun i => PyData.int (i : Nat)
abbrev R_path_between : Prm := newR fun ds k => ∃ (ps : List Str) (rs : List (Str × Str)) (o o' : List Str), ds = [webD ps rs, tS o, tS o'] ∧ WebV ps rs ∧ o.Perm ps ∧ o'.Perm ps ∧ AlikeO rs o o' ∧ ∀ is : List Nat, run rs o (is.map .swap) = some o' → is.length ≤ 25 → k (intsD is)
theorem ok_path_between (G : Glob Tb base K mg C) : OkF Tb P w K mg base 4 "path_between" ["web", "order", "other"] R_path_between := by
  refine okF_of 3 G.d_path_between sc_path_between (fun F => F.bindsN fun _ _ _ _ _ _ us hl => match us, hl with | [_, _, _], _ => rfl) (fun f cdv A outer s H E hr => ?_)
  have sc := sc_path_between
  have hv := hv_of hr
  have hu := hu_of hr
  have ok_arrows_of_ := ok_arrows_of (Tb := Tb) (P := P) (w := w) (base := base) G
  have ok_exchanged_ := ok_exchanged (Tb := Tb) (P := P) (w := w) (base := base) G
  refine ⟨_, (pss_cons (ps_if (pt_cmpR (op_neD hr.units) (pe_go 2 ok_arrows_of_ (hr.mono (by decide)) rfl (pa_cons (pv 0) (pa_cons (pv 1) pa_nil))) (pe_go 2 ok_arrows_of_ (hr.mono (by decide)) rfl (pa_cons (pv 0) (pa_cons (pv 2) pa_nil))) (nomark _)) (pss_one (ps_ret pe_non)) pss_nil)
  (pss_cons (ps_set (i := 3) sc.nd rfl (Or.inl rfl) (pe_lst pa_nil))
  (pss_cons (ps_for PassesOwn.never rfl (pi_enumF (by rfl) G.f_enumerate (pa_cons (pv 2) pa_nil)) (pg_tup (n := 2) rfl (pgs_cons (pg_name (i := 4) sc.nd rfl (Or.inl rfl)) (pgs_cons (pg_name (i := 5) sc.nd rfl (Or.inl rfl)) pgs_nil))) (pss_one (ps_for PassesOwn.never rfl (pi_range3 rfl G.f_range (pa_cons (pe_op op_sub (pe_tix (pv 1) (pa_cons (pv 5) pa_nil)) pe_int) (pa_cons (pe_op op_sub (pv 4) pe_int) (pa_cons (pe_un un_neg pe_int) pa_nil)))) (pg_name (i := 6) sc.nd rfl (Or.inl rfl)) (pss_cons (ps_expr (pe_bm (PySem.F.plainAttrs_list) (PySem.F.slot_list_append) (PySem.F.type_list_append) mt_append (pv 3) (pa_cons (pv 6) pa_nil)))
  (pss_one (ps_set (i := 1) sc.nd rfl (Or.inl rfl) (pe_go 2 ok_exchanged_ (hr.mono (by decide)) rfl (pa_cons (pv 1) (pa_cons (pv 6) pa_nil)))))))))
  (pss_one (ps_ret (pv 3)))))), ?_⟩
  clear sc hu
  rintro δ ω Φ ⟨rfl, ds, rfl, ps, rs, o, o', rfl, W, ho, ho', al, q⟩
  have p5 := W.p5
  have hol := ho.length_eq
  have hol' := ho'.length_eq
  have hn : o.Nodup := ho.nodup_iff.mpr W.web.nd
  have hn' : o'.Nodup := ho'.nodup_iff.mpr W.web.nd
  show RR Tb _ [.dt (webD ps rs), .dt (tS o), .dt (tS o'), .un, .un, .un, .un] [] _
  walk_at "km"
  refine ⟨_, _, _, rfl, W, ho, ?_⟩
  walk_at "km"
  refine ⟨_, _, _, rfl, W, ho', ?_⟩
  refine ox_ned _ 2 (okd_arw W o) (okd_arw W o') (by decide) fun b hb => ?_
  refine ⟨_, rfl, ?_⟩
  rw [hb.mpr (by rw [arw_same al])]
  walk_at "kms"
  walk_at "km"
  intro p
  walk_at "km"
  refine rr_for TP (fun i δ' ω' => ∃ s4 s5 s6 rem is, rem.Perm (o'.drop i) ∧ AlikeO rs (o'.take i ++ rem) o' ∧ run rs o (is.map .swap) = some (o'.take i ++ rem) ∧ is.length ≤ 5 * i ∧ δ' = [.dt (webD ps rs), .dt (tS (o'.take i ++ rem)), .dt (tS o'), .pt p, s4, s5, s6] ∧ ω' = [(p, .ls (intsD is))]) ?_
  refine ix_enumF _ ?_
  walk_at "km"
  rw [enumD_map _ _ default]
  refine ⟨⟨_, _, _, o, [], by simpa using ho.trans ho'.symm, by simpa using al, rfl, Nat.le_refl _, rfl, rfl⟩, fun _ _ _ _ => True.intro, ?_, ?_⟩
  · rintro i d δ' ω' hd ⟨s4, s5, s6, rem, is, h1, h2, h3, h4, rfl, rfl⟩
    rw [List.getElem?_map] at hd
    cases hr : (List.range o'.length)[i]? with
    | none => rw [hr] at hd; cases hd
    | some j =>
    rw [hr] at hd
    cases hd
    obtain ⟨hi, hj⟩ := List.getElem?_eq_some_iff.mp hr
    rw [List.length_range] at hi
    rw [List.getElem_range] at hj
    subst hj
    have hx : o'[i]? = some (o'.getD i default) := by
      rw [List.getD_eq_getElem?_getD, List.getElem?_eq_getElem hi]
      rfl
    walk_at "km"
    generalize o'.getD i default = x at hx ⊢
    have hdr : o'.drop i = x :: o'.drop (i + 1) := by
      rw [List.drop_eq_getElem_cons hi, (List.getElem?_eq_some_iff.mp hx).2]
    have hsp : o'.take i ++ x :: o'.drop (i + 1) = o' := by
      rw [← hdr, List.take_append_drop]
    have hw : (o'.take i).length = i := by rw [List.length_take]; omega
    have htk : o'.take (i + 1) = o'.take i ++ [x] := by
      rw [List.take_succ, hx]
      rfl
    have hdl : (o'.drop (i + 1)).length + i + 1 = o'.length := by rw [List.length_drop]; omega
    have hnx : x ∉ o'.take i := fun z => by
      have := hn'
      rw [← hsp] at this
      exact (List.nodup_append.mp this).2.2 x z x (List.mem_cons_self ..) rfl
    rw [hdr] at h1
    have hn2 : (o'.take i ++ x :: o'.drop (i + 1)).Nodup := by rw [hsp]; exact hn'
    obtain ⟨u, v, rfl, f1, f2, f3, f4, f5⟩ := follow_step hn2 h1 (by rw [hsp]; exact h2)
    generalize o'.take i = w at *
    have hix : (w ++ (u ++ x :: v)).idxOf x = i + u.length := by
      rw [← List.append_assoc, List.idxOf_append, if_neg (by simp [hnx, f1]), List.idxOf_cons_self, List.length_append, hw]
      omega
    have hul : u.length + v.length = (o'.drop (i + 1)).length := by
      rw [← List.length_append]
      exact f4.length_eq
    refine rr_for T (fun j δ' ω' => ∃ s6 u1 u2 is2, u = u1 ++ u2 ∧ u2.length = j ∧ run rs o (is2.map .swap) = some (w ++ (u1 ++ x :: (u2 ++ v))) ∧ is2.length = is.length + j ∧ δ' = [.dt (webD ps rs), .dt (tS (w ++ (u1 ++ x :: (u2 ++ v)))), .dt (tS o'), .pt p, .dt (.int (i : Nat)), .dt (.str x), s6] ∧ ω' = [(p, .ls (intsD is2))]) ?_
    walk_at "km"
    refine ⟨by simp, ?_⟩
    rw [hix]
    walk_at "km"
    have hcnt : ((((i + u.length : Nat) : Int) - 1) - ((i : Int) - 1)).toNat = u.length := by omega
    have hdn : ∀ a n, (downD a n).length = n := fun a n => by
      unfold downD
      rw [List.length_map, List.length_range]
    refine ⟨by omega, ⟨s6, u, [], is, by simp, rfl, h3, rfl, rfl, rfl⟩, fun _ _ _ _ => True.intro, ?_, ?_⟩
    · rintro j d δ' ω' hd ⟨s7, u1, u2, is2, g1, g2, g3, g4, rfl, rfl⟩
      rw [hcnt] at hd
      unfold downD at hd
      rw [List.getElem?_map] at hd
      cases hr2 : (List.range u.length)[j]? with
      | none => rw [hr2] at hd; cases hd
      | some j2 =>
      rw [hr2] at hd
      cases hd
      obtain ⟨hj, hj2⟩ := List.getElem?_eq_some_iff.mp hr2
      rw [List.length_range] at hj
      rw [List.getElem_range] at hj2
      subst hj2
      have hul1 : u1.length + j = u.length := by rw [g1, List.length_append, g2]
      have hne : u1 ≠ [] := fun e => by
        rw [e] at hul1
        simp at hul1
        omega
      obtain ⟨u1, z, rfl⟩ : ∃ u1' z, u1 = u1' ++ [z] := ⟨_, _, (List.dropLast_concat_getLast hne).symm⟩
      have hzx : adj rs z x = false := by
        rw [adj_comm]
        exact f2 z (by rw [g1]; simp)
      have eqU : w ++ (u1 ++ [z] ++ x :: (u2 ++ v)) = (w ++ u1) ++ z :: x :: (u2 ++ v) := by simp
      have hidx : (((i + u.length : Nat) : Int) - 1) - (j : Nat) = ((w ++ u1).length : Nat) := by
        simp only [List.length_append, List.length_cons, List.length_nil] at hul1 ⊢
        rw [hw]
        omega
      dsimp only
      rw [hidx, eqU]
      have hm := app_swap (rs := rs) (w ++ u1) (u2 ++ v) hzx
      rw [eqU] at g3
      have g5 := run_downs_succ g3 hm
      have htot : (w ++ u1).length + (u2 ++ v).length ≤ 5 := by
        have e1 := congrArg List.length g1
        simp only [List.length_append, List.length_cons, List.length_nil] at e1 hul1 ⊢
        omega
      walk_at "km"
      refine ex_append _ 0 ?_
      walk_at "km"
      refine ⟨⟨_, List.mem_cons_self ..⟩, ?_⟩
      walk_at "km"
      refine ⟨few_lt ?_, ?_⟩
      · rw [List.length_map]
        omega
      walk_at "km"
      refine ⟨w ++ u1, z, x, u2 ++ v, rfl, ?_, ?_⟩
      · unfold few
        omega
      walk_at "km"
      have e3 : w ++ u1 ++ x :: z :: (u2 ++ v) = w ++ (u1 ++ x :: (z :: u2 ++ v)) := by simp
      rw [e3] at g5 ⊢
      refine ⟨_, Kp.refl _, _, u1, z :: u2, is2 ++ [(w ++ u1).length], by rw [g1]; simp, by simp [g2], g5, by simp [g4]; omega, rfl, ?_⟩
      unfold intsD
      rw [List.map_append]
      rfl
    · rintro δ' ω' ⟨s7, u1, u2, is2, g1, g2, g3, g4, rfl, rfl⟩
      rw [hdn, hcnt] at g2 g4
      have : u1 = [] := by
        have := congrArg List.length g1
        rw [List.length_append] at this
        exact List.eq_nil_of_length_eq_zero (by omega)
      subst this
      rw [List.nil_append] at g1
      subst g1
      refine ⟨_, Kp.refl _, .dt (.int (i : Nat)), .dt (.str x), s7, u ++ v, is2, f4, ?_, ?_, ?_, ?_, rfl⟩
      · rw [htk]
        have e : w ++ [x] ++ o'.drop (i + 1) = o' := (by simp : w ++ [x] ++ o'.drop (i + 1) = w ++ x :: o'.drop (i + 1)).trans hsp
        rw [e] at f5
        exact f5
      · rw [htk, g3]
        simp
      · omega
      · rw [htk]
        simp
  · rintro δ' ω' ⟨s4, s5, s6, rem, is, h1, h2, h3, h4, rfl, rfl⟩
    rw [List.length_map, List.length_range] at h1 h2 h3 h4
    rw [List.drop_length] at h1
    have e := List.Perm.eq_nil h1
    subst e
    rw [List.take_length, List.append_nil] at h3
    walk_at "km"
    exact kp_end (Kp.refl _) (q is h3 (by omega) p)
end Km
/-! Text KmMeth -/
/-! Methods and the maker of the class. -/
namespace Km
open PySem PySem.Spec PyProof.Rows L2 LamX
section
variable {Tb : List (Addr × Str)} {P : Program} {w : World} {K : PySem.W.Frag} {mg : Str → Option Value} {base : Heap} {C : Addr} {x : Str} {st : Stmt} {ps N : List Str} {R : Prm}
def OkM (Tb : List (Addr × Str)) (P : Program) (w : World) (K : PySem.W.Frag) (mg : Str → Option Value) (base : Heap) (C : Addr) (k : Nat) (m : Str) (ps : List Str) (R : Prm) : Prop :=
  ∃ f fd, FnOk P w K mg base CX0 k f fd ps (spG Tb ps.length R) ∧ Meth K C m f ∧ Binds K fd ps []
def OkI (Tb : List (Addr × Str)) (P : Program) (w : World) (K : PySem.W.Frag) (mg : Str → Option Value) (base : Heap) (C : Addr) (k : Nat) (ps : List Str) (R : Prm) : Prop :=
  ∃ f fd, FnOk P w K mg base CX0 k f fd ps (spG Tb ps.length R) ∧ Mk K C f ∧ Binds K fd ps []
theorem okM_of {m q : Str} (k : Nat) (h : StandsM K C m q st) (S : FnScope N ps (defScope st))
    (hb : ∀ {f : Addr} {fd : FuncData}, FunD K m q (defArgs st) (defBody st) (defScope st) [] [] f fd → Binds K fd ps [])
    (body : ∀ (f : Addr) (cdv : Value) (A : Around) (outer : List Env) (s : Shared) (H : Hp) (E : XK), Room k (A.deeper (envOfC q (defScope st) s.heap.objs.size f cdv)) →
      ∃ t, PSs (cxOf CX0 P w K mg base N q (defScope st) f cdv A outer s H E).nox (defBody st) t ∧ ∀ δ ω Φ, R δ ω Φ → RR Tb t (δ ++ List.replicate (N.length - ps.length) .un) ω { nx := fun _ ω' => ∃ ω'', Kp ω' ω'' ∧ Φ (.dt .none) ω'', rt := fun s ω' => ∃ ω'', Kp ω' ω'' ∧ Φ s ω'' }) :
    OkM Tb P w K mg base C (k + 1) m ps R := by
  obtain ⟨f, fd, F, g⟩ := h
  refine ⟨f, fd, F.ok S (fun vs H Q E h => h.1) (fun cdv A outer s H vs Q E hr h => ?_), g, hb F⟩
  obtain ⟨t, h1, h2⟩ := body f cdv A outer s H E hr
  exact ⟨t, PSs.nox h1, body_ok h2 h⟩
theorem okI_of {m q : Str} (k : Nat) (h : ∃ f fd, FunD K m q (defArgs st) (defBody st) (defScope st) [] [] f fd ∧ Mk K C f) (S : FnScope N ps (defScope st))
    (hb : ∀ {f : Addr} {fd : FuncData}, FunD K m q (defArgs st) (defBody st) (defScope st) [] [] f fd → Binds K fd ps [])
    (body : ∀ (f : Addr) (cdv : Value) (A : Around) (outer : List Env) (s : Shared) (H : Hp) (E : XK), Room k (A.deeper (envOfC q (defScope st) s.heap.objs.size f cdv)) →
      ∃ t, PSs (cxOf CX0 P w K mg base N q (defScope st) f cdv A outer s H E).nox (defBody st) t ∧ ∀ δ ω Φ, R δ ω Φ → RR Tb t (δ ++ List.replicate (N.length - ps.length) .un) ω { nx := fun _ ω' => ∃ ω'', Kp ω' ω'' ∧ Φ (.dt .none) ω'', rt := fun s ω' => ∃ ω'', Kp ω' ω'' ∧ Φ s ω'' }) :
    OkI Tb P w K mg base C (k + 1) ps R := by
  obtain ⟨f, fd, F, g⟩ := h
  refine ⟨f, fd, F.ok S (fun vs H Q E h => h.1) (fun cdv A outer s H vs Q E hr h => ?_), g, hb F⟩
  obtain ⟨t, h1, h2⟩ := body f cdv A outer s H E hr
  exact ⟨t, PSs.nox h1, body_ok h2 h⟩
end
section
variable {X : Cx} {Tb : List (Addr × Str)} {k : Nat} {C : Addr} {m : Str} {ps : List Str} {R : Prm} {p pos apos : Pos} {o e : Expr} {es : List Expr} {ta : TE} {t : L2.TA}
theorem pe_mv (n : Nat) {pl : Sem Bool} (c : Cls X.K C) (h : OkM Tb X.prog X.w X.K X.mg X.base C k m ps R) (hr : Room k X.A) (he : PE X o ta) (ha : PA X (e :: es) t) (hn : ps.length = n := by rfl)
    (hst : starEach (e :: es) X.env = (false, eval e X.env) :: starEach es X.env := by rfl) (hpl : (backTo pos (starEach es X.env)).any (·.1) = false := by rfl)
    (ht : eval (.Call (.Attribute o m apos) (e :: es) [] pos) X.env = (do
      let ov ← eval o X.env
      standAt apos.atName
      let (f, first) ← holding [ov] (getMethod ov m pl)
      callWith pos f first (backTo pos (starEach (e :: es) X.env)) (backToKw pos (keywordEach [] X.env))) := by rfl) :
    PE X (.Call (.Attribute o m apos) (e :: es) [] pos) (tMeth C m (spG Tb n R) [] E0 ta t) := by
  subst hn
  obtain ⟨f, fd, F, g, b⟩ := h
  exact pe_meth (pl := pl) he c g F hr b .nil pass0 ha hst hpl ht
theorem pe_mv0 (n : Nat) {pl : Sem Bool} (c : Cls X.K C) (h : OkM Tb X.prog X.w X.K X.mg X.base C k m ps R) (hr : Room k X.A) (he : PE X o ta) (hn : ps.length = n := by rfl)
    (ht : eval (.Call (.Attribute o m apos) [] [] pos) X.env = (do
      let ov ← eval o X.env
      standAt apos.atName
      let (f, first) ← holding [ov] (getMethod ov m pl)
      callWith pos f first (backTo pos (starEach [] X.env)) (backToKw pos (keywordEach [] X.env))) := by rfl) :
    PE X (.Call (.Attribute o m apos) [] [] pos) (tMeth C m (spG Tb n R) [] E0 ta tNil) := by
  subst hn
  obtain ⟨f, fd, F, g, b⟩ := h
  exact pe_meth0 (pl := pl) he c g F hr b .nil pass0 ht
theorem pe_makeM (n : Nat) {x : Str} (h : OkI Tb X.prog X.w X.K X.mg X.base C k ps R) (hr : Room (k + 1) X.A) (hg : Gl X x) (hm : X.mg x = some (.ref C)) (ha : PA X (e :: es) t) (hn : ps.length = n := by rfl)
    (hdb : (x == ("__debug__" : Str)) = false := by decide) (he : starEach (e :: es) X.env = (false, eval e X.env) :: starEach es X.env := by rfl) (hpl : (backTo pos (starEach es X.env)).any (·.1) = false := by rfl) :
    PE X (.Call (.Name x p) (e :: es) [] pos) (tMake C (spG Tb n R) [] E0 t) := by
  subst hn
  obtain ⟨f, fd, F, M, b⟩ := h
  exact pe_make M F hr hg hm b .nil pass0 ha hdb he hpl
end
section
variable {Tb : List (Addr × Str)} {P : Po}
theorem rr_init (K : PySem.W.Frag) {C dx x : Addr} {w h : PyData} (c : Cls K C) (n1 : NoAttr K C "web") (n2 : NoAttr K C "held") (n3 : NoAttr K C "moves")
    (q : ∀ m, P.nx [.pt x, .dt w, .dt h] [(m, .ls []), (x, .mv C dx w h m)]) : RR Tb (tSeq (sFld K (tVar 0) (tVar 1) "web") (tSeq (sFld K (tVar 0) (tVar 2) "held") (sFld K (tVar 0) (tLst tNil) "moves"))) [.pt x, .dt w, .dt h] [(x, .mi C dx)] P := fun B σ H D S k1 _ _ _ => by
  obtain ⟨v0, e0, k0⟩ := S.sl 0 _ rfl
  obtain ⟨v1, e1, z1, rfl, t1⟩ := S.sl 1 _ rfl
  obtain ⟨v2, e2, z2, rfl, t2⟩ := S.sl 2 _ rfl
  cases (show v0 = some (.ref x) from k0)
  have hx : H x = some (.ins C dx []) := (S.hp.obs _ (List.mem_cons_self ..)).1
  refine ⟨z1, e1, .ref x, e0, x, C, dx, [], rfl, hx, c, n1, by show 0 < 1000; decide, ?_⟩
  refine ⟨z2, e2, .ref x, e0, x, C, dx, [("web", z1)], rfl, upd_same, c, n2, by show 1 < 1000; decide, ?_⟩
  refine ⟨by show 0 ≤ sizeLine; exact Nat.zero_le _, fun m hm => ?_⟩
  have hmx : m ≠ x := fun z => by
    subst z
    rw [upd_same] at hm
    cases hm
  have hm0 : H m = none := by
    rw [upd_ne hmx, upd_ne hmx] at hm
    exact hm
  refine ⟨.ref x, e0, x, C, dx, [("web", z1), ("held", z2)], rfl, ?_, c, n3, by show 2 < 1000; decide, ?_⟩
  · rw [upd_ne (Ne.symm hmx), upd_same]
    rfl
  have se := same_new (H := H) (o := .lst []) hm0
  have S1 : Sees Tb B σ (upd H m (.lst [])) _ ((m, .ls []) :: [(x, .mi C dx)]) := S.new se hm0 ⟨[], upd_same, .nil⟩
  have te1 := (Ext.of se).tup
  have hx1 : upd H m (.lst []) x = some (.ins C dx []) := by
    rw [upd_ne (Ne.symm hmx)]
    exact hx
  have te : TupEx (upd H m (.lst [])) (upd (upd H m (.lst [])) x (.ins C dx (mvF z1 z2 m))) := fun b o zs hz => by
    rw [upd_ne (fun z => by subst z; rw [hx1] at hz; cases hz)]
    exact hz
  obtain ⟨S2, e2⟩ := S1.put (j := 1) (u := .ins C dx (mvF z1 z2 m)) (o' := .mv C dx w h m) rfl ⟨z1, z2, upd_same, (t1.mono te1).mono te, (t2.mono te1).mono te⟩
  have eH : upd (upd (upd (upd H x (.ins C dx [("web", z1)])) x (.ins C dx [("web", z1), ("held", z2)])) m (.lst [])) x (.ins C dx (mvF z1 z2 m)) = upd (upd H m (.lst [])) x (.ins C dx (mvF z1 z2 m)) := by
    funext b
    by_cases h1 : b = x
    · subst h1
      rw [upd_same, upd_same]
    · rw [upd_ne h1, upd_ne h1]
      by_cases h2 : b = m
      · subst h2
        rw [upd_same, upd_same]
      · rw [upd_ne h2, upd_ne h2, upd_ne h1, upd_ne h1]
  have ef : putF "moves" (V.ref m) [("web", z1), ("held", z2)] = mvF z1 z2 m := rfl
  rw [ef]
  have z := k1 _ _ σ _ (q m) (te1.trans e2) S2
  rw [← eH] at z
  exact z
end
end Km
/-! Text KmM2 -/
namespace Km
open PySem PySem.Spec PyProof.Rows L2 LamX
local macro_rules
  | `(tactic| walk_at "km1") => `(tactic| first
    | ((with_reducible apply ex_v); (focus rfl); (focus rfl))
    | with_reducible refine ex_int ?_
    | with_reducible refine ex_str ?_
    | with_reducible refine ex_bl ?_
    | with_reducible refine ex_non ?_
    | with_reducible refine ex_op ?_
    | with_reducible refine ex_un ?_
    | with_reducible refine ux_neg ?_
    | with_reducible refine ox_i0I ?_
    | with_reducible refine ox_i0B ?_
    | with_reducible refine ex_tup ?_
    | with_reducible refine ex_lst ?_
    | with_reducible refine ex_slT _ ?_
    | with_reducible refine ex_slL _ ?_
    | with_reducible refine px_none ?_
    | with_reducible refine px_some ?_
    | with_reducible refine ea_nil ?_
    | with_reducible refine ea_cons ?_
    | with_reducible refine ex_isi _ ?_
    | with_reducible refine ex_cb ?_
    | with_reducible refine ex_isN ?_
    | with_reducible refine ex_notN ?_
    | with_reducible refine ex_chain ?_
    | with_reducible refine ex_if ?_
    | with_reducible refine ex_and ?_
    | with_reducible refine ex_or ?_
    | with_reducible refine ex_not ?_
    | with_reducible refine ex_tix _ ?_
    | with_reducible refine ex_goD ?_
    | with_reducible refine ex_goN ?_
    | with_reducible refine ex_goF ?_
    | with_reducible refine ex_dget ?_
    | with_reducible refine ex_din ?_
    | with_reducible refine ex_dnotin ?_
    | with_reducible refine ex_dnew ?_
    | with_reducible refine et_test ?_
    | with_reducible refine et_val ?_
    | with_reducible refine et_and ?_
    | with_reducible refine et_or ?_
    | with_reducible refine et_not ?_
    | with_reducible refine et_yes ?_
    | with_reducible refine rr_seq ?_
    | with_reducible refine rr_asg ?_
    | with_reducible refine rr_ret ?_
    | with_reducible refine rr_retN ?_
    | with_reducible refine rr_drop ?_
    | with_reducible refine rr_if ?_
    | with_reducible refine rr_par ?_
    | with_reducible refine rr_next ?_
    | with_reducible refine rr_break ?_
    | with_reducible refine ix_tup _ ?_
    | with_reducible refine ix_range1 ?_
    | with_reducible refine ix_range2 ?_
    | with_reducible refine ix_down ?_
    | with_reducible refine ix_str ?_
    | with_reducible refine ix_keys ?_
    | with_reducible refine nb_dt ?_
    | with_reducible refine nb_pt ?_
    | with_reducible refine lc_name (by simp) ?_
    | with_reducible refine lc_pair (by simp) (by simp) ?_
    | with_reducible refine lc_new (by simp) (by simp) ?_
    | with_reducible refine for_name ?_
    | with_reducible refine for_pair ?_
    | with_reducible refine for_new ?_
    | with_reducible refine tup0 ?_
    | with_reducible refine tup1 ?_
    | with_reducible refine tup2 ?_
    | with_reducible refine tup3 ?_
    | with_reducible refine arg1 ?_
    | with_reducible refine arg2 ?_
    | with_reducible refine arg3 ?_
    | with_reducible refine arg4 ?_
    | with_reducible refine ⟨_, rfl, ?_⟩
    | with_reducible refine ⟨_, _, rfl, ?_⟩)
local macro_rules
  | `(tactic| walk_at "kms") => `(tactic| try simp (maxSteps := 2000) only [wipeS, List.map_cons, List.map_nil, List.set_cons_zero, List.set_cons_succ, Bool.false_eq_true, Bool.not_true, Bool.not_false, reduceIte])
local macro_rules
  | `(tactic| walk_at "km") => `(tactic| repeat (walk_at "km1"; walk_at "kms"))
local macro_rules
  | `(tactic| walk_at "kp") => `(tactic| repeat (first | exact Kp.refl _ | refine Kp.cons2 ?_ | refine Kp.cons ?_))
local macro_rules
  | `(tactic| walk_at "ls") => `(tactic| repeat (first | exact isLs_hd | exact isLs_bo | refine isLs_tl ?_))

variable {Tb : List (Addr × Str)} {P : Program} {w : World} {K : PySem.W.Frag} {mg : Str → Option Value} {base : Heap} {C : Addr}
/-! Mover -/
abbrev mvS (C x dx m : Addr) (ps : List Str) (rs : List (Str × Str)) (o : List Str) (ms : List Mv) : Om := [(x, .mv C dx (webD ps rs) (tS o) m), (m, .ls (ms.map mvD))]
theorem Kp.swap (p q : Addr × Ob) (ω : Om) : Kp (p :: q :: ω) (q :: p :: ω) := ⟨_, List.Sublist.refl _, List.Perm.swap ..⟩
abbrev R_Mover_init (C : Addr) : Prm := fun δ ω Φ => ∃ (x dx : Addr) (ps : List Str) (rs : List (Str × Str)) (o : List Str), δ = [.pt x, .dt (webD ps rs), .dt (tS o)] ∧ ω = [(x, .mi C dx)] ∧ ∀ m, Φ (.dt .none) (mvS C x dx m ps rs o [])
theorem ok_Mover_init (G : Glob Tb base K mg C) : OkI Tb P w K mg base C 2 ["self", "web", "order"] (R_Mover_init C) := by
  refine okI_of 1 G.d_Mover_init sc_Mover_init (fun F => F.bindsN fun _ _ _ _ _ _ us hl => match us, hl with | [_, _, _], _ => rfl) (fun f cdv A outer s H E hr => ?_)
  have sc := sc_Mover_init
  have hv := hv_of hr
  have hu := hu_of hr
  refine ⟨_, (pss_cons (ps_fld (pv 0) (pv 1) (by rfl))
  (pss_cons (ps_fld (pv 0) (pv 2) (by rfl))
  (pss_one (ps_fld (pv 0) (pe_lst pa_nil) (by rfl))))), ?_⟩
  clear sc hu
  rintro δ ω Φ ⟨x, dx, ps, rs, o, rfl, rfl, q⟩
  exact rr_init K G.cls G.na_web G.na_held G.na_moves fun m => kp_end (Kp.swap ..) (q m)
abbrev R_Mover_swap (C : Addr) : Prm := fun δ ω Φ => ∃ (x dx m : Addr) (ps : List Str) (rs : List (Str × Str)) (u v : List Str) (a b : Str) (ms : List Mv), δ = [.pt x, .dt (.int (u.length : Nat))] ∧ ω = mvS C x dx m ps rs (u ++ a :: b :: v) ms ∧ few (u.length + v.length) ∧ ms.length ≤ 100000 ∧ Φ (.dt .none) (mvS C x dx m ps rs (u ++ b :: a :: v) (ms ++ [Mv.swap u.length]))
theorem ok_Mover_swap (G : Glob Tb base K mg C) : OkM Tb P w K mg base C 3 "swap" ["self", "index"] (R_Mover_swap C) := by
  refine okM_of 2 G.d_Mover_swap sc_Mover_swap (fun F => F.bindsN fun _ _ _ _ _ _ us hl => match us, hl with | [_, _], _ => rfl) (fun f cdv A outer s H E hr => ?_)
  have sc := sc_Mover_swap
  have hv := hv_of hr
  have hu := hu_of hr
  have ok_exchanged_ := ok_exchanged (Tb := Tb) (P := P) (w := w) (base := base) G
  refine ⟨_, (pss_cons (ps_fld (pv 0) (pe_go 2 ok_exchanged_ (hr.mono (by decide)) rfl (pa_cons (pe_fld (pv 0) (by rfl)) (pa_cons (pv 1) pa_nil))) (by rfl))
  (pss_one (ps_expr (pe_bm (PySem.F.plainAttrs_list) (PySem.F.slot_list_append) (PySem.F.type_list_append) mt_append (pe_fld (pv 0) (by rfl)) (pa_cons (pe_tupF (pa_cons pe_str (pa_cons (pv 1) pa_nil))) pa_nil))))), ?_⟩
  clear sc hu
  rintro δ ω Φ ⟨x, dx, m, ps, rs, u, v, a, b, ms, rfl, rfl, hf, hm, q⟩
  show RR Tb _ [.pt x, .dt (.int (u.length : Nat))] _ _
  walk_at "km"
  refine rr_fld1 _ 0 (a := x) (dx := dx) (m := m) (w := webD ps rs) (hd := tS (u ++ a :: b :: v)) G.cls G.na_held (w' := webD ps rs) (hd' := tS (u ++ b :: a :: v)) (.inr ⟨rfl, rfl⟩) ?_
  walk_at "km"
  refine ex_held _ (a := x) (dx := dx) (m := m) (w := webD ps rs) (hd := tS (u ++ a :: b :: v)) G.cls G.na_held ?_
  walk_at "km"
  refine ⟨trivial, List.mem_cons_self .., ?_⟩
  walk_at "km"
  refine ⟨u, a, b, v, rfl, hf, ?_⟩
  walk_at "km"
  refine ⟨trivial, rfl, rfl, ?_⟩
  walk_at "km"
  refine ex_append _ 1 ?_
  refine ex_moves _ (a := x) (dx := dx) (m := m) (w := webD ps rs) (hd := tS (u ++ b :: a :: v)) G.cls G.na_moves ?_
  walk_at "km"
  refine ⟨trivial, List.mem_cons_self .., ?_⟩
  walk_at "km"
  refine ⟨⟨_, List.mem_cons_of_mem _ (List.mem_cons_self ..)⟩, ?_⟩
  walk_at "km"
  refine ⟨few_lt (by rw [List.length_map]; omega), ?_⟩
  refine kp_end (Kp.refl _) ?_
  rw [show mvS C x dx m ps rs (u ++ b :: a :: v) (ms ++ [Mv.swap u.length]) = _ from by unfold mvS; rw [List.map_append]] at q
  exact q
abbrev R_Mover_turn (C : Addr) : Prm := fun δ ω Φ => ∃ (x dx m : Addr) (ps : List Str) (rs : List (Str × Str)) (o : List Str) (ms : List Mv), δ = [.pt x] ∧ ω = mvS C x dx m ps rs o ms ∧ few o.length ∧ ms.length ≤ 100000 ∧ Φ (.dt .none) (mvS C x dx m ps rs (turned o) (ms ++ [Mv.turn]))
theorem ok_Mover_turn (G : Glob Tb base K mg C) : OkM Tb P w K mg base C 3 "turn" ["self"] (R_Mover_turn C) := by
  refine okM_of 2 G.d_Mover_turn sc_Mover_turn (fun F => F.bindsN fun _ _ _ _ _ _ us hl => match us, hl with | [_], _ => rfl) (fun f cdv A outer s H E hr => ?_)
  have sc := sc_Mover_turn
  have hv := hv_of hr
  have hu := hu_of hr
  have ok_turned_ := ok_turned (Tb := Tb) (P := P) (w := w) (base := base) G
  refine ⟨_, (pss_cons (ps_fld (pv 0) (pe_go 1 ok_turned_ (hr.mono (by decide)) rfl (pa_cons (pe_fld (pv 0) (by rfl)) pa_nil)) (by rfl))
  (pss_one (ps_expr (pe_bm (PySem.F.plainAttrs_list) (PySem.F.slot_list_append) (PySem.F.type_list_append) mt_append (pe_fld (pv 0) (by rfl)) (pa_cons (pe_tupF (pa_cons pe_str pa_nil)) pa_nil))))), ?_⟩
  clear sc hu
  rintro δ ω Φ ⟨x, dx, m, ps, rs, o, ms, rfl, rfl, hf, hm, q⟩
  show RR Tb _ [.pt x] _ _
  walk_at "km"
  refine rr_fld1 _ 0 (a := x) (dx := dx) (m := m) (w := webD ps rs) (hd := tS o) G.cls G.na_held (w' := webD ps rs) (hd' := tS (turned o)) (.inr ⟨rfl, rfl⟩) ?_
  walk_at "km"
  refine ex_held _ (a := x) (dx := dx) (m := m) (w := webD ps rs) (hd := tS o) G.cls G.na_held ?_
  walk_at "km"
  refine ⟨trivial, List.mem_cons_self .., ?_⟩
  walk_at "km"
  refine ⟨hf, ?_⟩
  walk_at "km"
  refine ⟨trivial, rfl, rfl, ?_⟩
  walk_at "km"
  refine ex_append _ 1 ?_
  refine ex_moves _ (a := x) (dx := dx) (m := m) (w := webD ps rs) (hd := tS (turned o)) G.cls G.na_moves ?_
  walk_at "km"
  refine ⟨trivial, List.mem_cons_self .., ?_⟩
  walk_at "km"
  refine ⟨⟨_, List.mem_cons_of_mem _ (List.mem_cons_self ..)⟩, ?_⟩
  walk_at "km"
  refine ⟨few_lt (by rw [List.length_map]; omega), ?_⟩
  refine kp_end (Kp.refl _) ?_
  rw [show mvS C x dx m ps rs (turned o) (ms ++ [Mv.turn]) = _ from by unfold mvS; rw [List.map_append]] at q
  exact q
/-- a method of the mover, called with data -/
theorem ex_mvc {ta : TE} {t : L2.TA} {δ : List Sl} {ω : Om} {Φ : Sl → Om → Prop} {n : Nat} {R : Prm} {mn : Str} (nm : mn ≠ "web" ∧ mn ≠ "held" ∧ mn ≠ "moves") (h : EX Tb ta δ ω fun s0 ω0 => ∃ x dx m ps rs o ms fr, s0 = .pt x ∧ (mvS C x dx m ps rs o ms ++ fr).Perm ω0 ∧ EA Tb t δ ω0 fun ss ω1 => ω1 = ω0 ∧ ∃ ds : List PyData, ss = ds.map .dt ∧ ds.length + 1 = n ∧
    R (.pt x :: ds.map .dt) (mvS C x dx m ps rs o ms) fun s ω' => Φ s (ω' ++ fr)) : EX Tb (tMeth C mn (spG Tb n R) [] E0 ta t) δ ω Φ := ex_meth fun B σ H Q S k => h B σ H _ S fun v s0 ω0 H0 q e kk p => by
  obtain ⟨x, dx, m, ps, rs, o, ms, fr, rfl, hp, q⟩ := q
  refine k v _ ω0 H0 ⟨x, dx, webD ps rs, tS o, m, rfl, hp.mem_iff.mp (List.mem_cons_self ..), nm.1, nm.2.1, nm.2.2, fun B' σ' H' Q' S' k' => q B' σ' H' Q' S' fun vs ss ω1 H1 q2 => k' vs ss ω1 H1 ?_⟩ e kk p
  obtain ⟨rfl, ds, rfl, hn, hr⟩ := q2
  exact ⟨by rw [List.length_map]; exact hn, _, fr, _, _, hp, .pt (conv_data fr ds), hr, fun s ω' _ z => z⟩
abbrev R_Mover_turn_place (C : Addr) : Prm := fun δ ω Φ => ∃ (x dx m : Addr) (ps : List Str) (rs : List (Str × Str)) (u v : List Str) (p : Str) (ms : List Mv), δ = [.pt x, .dt (.str p)] ∧ ω = mvS C x dx m ps rs (u ++ p :: v) ms ∧ p ∉ u ∧ u.length + v.length ≤ 900 ∧ ms.length ≤ 90000 ∧ Φ (.dt .none) (mvS C x dx m ps rs (u ++ v ++ [p]) (ms ++ ((downs 0 u.length).map Mv.swap ++ [Mv.turn])))
theorem downs_len : ∀ n, (downs 0 n).length = n
  | 0 => rfl
  | n + 1 => by unfold downs; rw [List.length_cons, downs_len n]
theorem downs_split : ∀ (n j : Nat), j < n → (downs 0 n).take (j + 1) = (downs 0 n).take j ++ [n - 1 - j]
  | n + 1, 0, _ => by simp [downs]
  | n + 1, j + 1, h => by
    unfold downs
    rw [List.take_succ_cons, List.take_succ_cons, downs_split n j (by omega)]
    simp
    omega
theorem ok_Mover_turn_place (G : Glob Tb base K mg C) : OkM Tb P w K mg base C 4 "turn_place" ["self", "place"] (R_Mover_turn_place C) := by
  refine okM_of 3 G.d_Mover_turn_place sc_Mover_turn_place (fun F => F.bindsN fun _ _ _ _ _ _ us hl => match us, hl with | [_, _], _ => rfl) (fun f cdv A outer s H E hr => ?_)
  have sc := sc_Mover_turn_place
  have hv := hv_of hr
  have hu := hu_of hr
  have ok_Mover_swap_ := ok_Mover_swap (Tb := Tb) (P := P) (w := w) (base := base) G
  have ok_Mover_turn_ := ok_Mover_turn (Tb := Tb) (P := P) (w := w) (base := base) G
  refine ⟨_, (pss_cons (ps_for PassesOwn.never rfl (pi_range3 rfl G.f_range (pa_cons (pe_op op_sub (pe_tix (pe_fld (pv 0) (by rfl)) (pa_cons (pv 1) pa_nil)) pe_int) (pa_cons (pe_un un_neg pe_int) (pa_cons (pe_un un_neg pe_int) pa_nil)))) (pg_name (i := 2) sc.nd rfl (Or.inl rfl)) (pss_one (ps_expr (pe_mv 2 G.cls ok_Mover_swap_ (hr.mono (by decide)) (pv 0) (pa_cons (pv 2) pa_nil)))))
  (pss_one (ps_expr (pe_mv0 1 G.cls ok_Mover_turn_ (hr.mono (by decide)) (pv 0))))), ?_⟩
  clear sc hu
  rintro δ ω Φ ⟨x, dx, m, ps, rs, u, v, p, ms, rfl, rfl, hp, hf, hm, q⟩
  show RR Tb _ [.pt x, .dt (.str p), .un] _ _
  have hix : (u ++ p :: v).idxOf p = u.length := by
    rw [List.idxOf_append, if_neg hp, List.idxOf_cons_self]
    omega
  refine rr_cut (fun δ' ω' => ∃ s2, δ' = [.pt x, .dt (.str p), s2] ∧ ω' = mvS C x dx m ps rs (p :: (u ++ v)) (ms ++ (downs 0 u.length).map Mv.swap)) ?_ ?_
  · refine rr_for T (fun j δ' ω' => ∃ s2 u1 u2, u = u1 ++ u2 ∧ u2.length = j ∧ δ' = [.pt x, .dt (.str p), s2] ∧ ω' = mvS C x dx m ps rs (u1 ++ p :: (u2 ++ v)) (ms ++ ((downs 0 u.length).take j).map Mv.swap)) ?_
    walk_at "km"
    refine ex_held _ (a := x) (dx := dx) (m := m) (w := webD ps rs) (hd := tS (u ++ p :: v)) G.cls G.na_held ?_
    walk_at "km"
    refine ⟨trivial, List.mem_cons_self .., ?_⟩
    walk_at "km"
    refine ⟨by simp, ?_⟩
    rw [hix]
    walk_at "km"
    have hcnt : ((((u.length : Nat) : Int) - 1) - (-1)).toNat = u.length := by omega
    have hdn : ∀ a n, (downD a n).length = n := fun a n => by
      unfold downD
      rw [List.length_map, List.length_range]
    refine ⟨by omega, ⟨.un, u, [], by simp, rfl, rfl, by simp [mvS]⟩, fun _ _ _ _ => True.intro, ?_, ?_⟩
    · rintro j d δ' ω' hd ⟨s7, u1, u2, g1, g2, rfl, rfl⟩
      rw [hcnt] at hd
      unfold downD at hd
      rw [List.getElem?_map] at hd
      cases hr2 : (List.range u.length)[j]? with
      | none => rw [hr2] at hd; cases hd
      | some j2 =>
      rw [hr2] at hd
      cases hd
      obtain ⟨hj, hj2⟩ := List.getElem?_eq_some_iff.mp hr2
      rw [List.length_range] at hj
      rw [List.getElem_range] at hj2
      subst hj2
      have hul1 : u1.length + j = u.length := by rw [g1, List.length_append, g2]
      have hne : u1 ≠ [] := fun e => by
        rw [e] at hul1
        simp at hul1
        omega
      obtain ⟨u1, z, rfl⟩ : ∃ u1' z, u1 = u1' ++ [z] := ⟨_, _, (List.dropLast_concat_getLast hne).symm⟩
      have eqU : (u1 ++ [z] ++ p :: (u2 ++ v)) = u1 ++ z :: p :: (u2 ++ v) := by simp
      have hidx : ((u.length : Nat) : Int) - 1 - (j : Nat) = ((u1.length : Nat) : Int) := by
        simp only [List.length_append, List.length_cons, List.length_nil] at hul1
        omega
      have hidn : u.length - 1 - j = u1.length := by
        simp only [List.length_append, List.length_cons, List.length_nil] at hul1
        omega
      dsimp only
      rw [hidx, eqU]
      walk_at "km"
      refine ex_mvc (by decide) ?_
      walk_at "km"
      refine ⟨x, dx, m, ps, rs, _, _, [], rfl, by rw [List.append_nil], ?_⟩
      walk_at "km"
      refine ⟨trivial, [.int (u1.length : Nat)], rfl, rfl, x, dx, m, ps, rs, u1, u2 ++ v, z, p, _, rfl, rfl, ?_, ?_, ?_⟩
      · unfold few
        have e1 := congrArg List.length g1
        simp only [List.length_append, List.length_cons, List.length_nil] at e1 ⊢
        omega
      · rw [List.length_append, List.length_map, List.length_take]
        omega
      · refine ⟨_, Kp.refl _, _, u1, z :: u2, by rw [g1]; simp, by simp [g2], rfl, ?_⟩
        rw [List.append_nil, downs_split _ _ hj, hidn]
        simp
    · rintro δ' ω' ⟨s7, u1, u2, g1, g2, rfl, rfl⟩
      rw [hdn, hcnt] at g2 ⊢
      have : u1 = [] := by
        have := congrArg List.length g1
        rw [List.length_append] at this
        exact List.eq_nil_of_length_eq_zero (by omega)
      subst this
      rw [List.nil_append] at g1
      subst g1
      refine ⟨_, rfl, ?_⟩
      rw [List.take_of_length_le (by rw [downs_len]; omega)]
      rfl
  · rintro δ' ω' ⟨s2, rfl, rfl⟩
    walk_at "km"
    refine ex_mvc (by decide) ?_
    walk_at "km"
    refine ⟨x, dx, m, ps, rs, _, _, [], rfl, by rw [List.append_nil], ?_⟩
    walk_at "km"
    refine ⟨trivial, [], rfl, rfl, x, dx, m, ps, rs, _, _, rfl, rfl, ?_, ?_, ?_⟩
    · unfold few
      simp only [List.length_append, List.length_cons]
      omega
    · rw [List.length_append, List.length_map, downs_len]
      omega
    · refine kp_end (by rw [List.append_nil]; exact Kp.refl _) ?_
      have e : turned (p :: (u ++ v)) = u ++ v ++ [p] := by simp [turned]
      rw [e, List.append_assoc ms]
      exact q
abbrev R_Mover_has_none_ahead (C : Addr) : Prm := fun δ ω Φ => ∃ (x dx m : Addr) (ps : List Str) (rs : List (Str × Str)) (u v : List Str) (p : Str) (ms : List Mv), δ = [.pt x, .dt (.str p)] ∧ ω = mvS C x dx m ps rs (u ++ p :: v) ms ∧ WebV ps rs ∧ (u ++ p :: v).Perm ps ∧ Φ (.dt (.bool (decide (∀ q ∈ u, adj rs p q = false)))) (mvS C x dx m ps rs (u ++ p :: v) ms)
theorem ok_Mover_has_none_ahead (G : Glob Tb base K mg C) : OkM Tb P w K mg base C 4 "has_none_ahead" ["self", "place"] (R_Mover_has_none_ahead C) := by
  refine okM_of 3 G.d_Mover_has_none_ahead sc_Mover_has_none_ahead (fun F => F.bindsN fun _ _ _ _ _ _ us hl => match us, hl with | [_, _], _ => rfl) (fun f cdv A outer s H E hr => ?_)
  have sc := sc_Mover_has_none_ahead
  have hv := hv_of hr
  have hu := hu_of hr
  have ok_neighbours_of_ := ok_neighbours_of (Tb := Tb) (P := P) (w := w) (base := base) G
  refine ⟨_, (pss_cons (ps_set (i := 2) sc.nd rfl (Or.inr rfl) (pe_slice sl_tupF (pe_fld (pv 0) (by rfl)) po_none (po_some (pe_tix (pe_fld (pv 0) (by rfl)) (pa_cons (pv 1) pa_nil)))))
  (pss_one (ps_ret (pe_not (pe_callB (cr_any rfl) (by rfl) G.f_any (by decide +kernel) (pa_cons (pe_lc (own := [("other", 3)]) (g := (gName 3)) rfl sc.nd (pi_tup (pe_go 2 ok_neighbours_of_ (hr.mono (by decide)) rfl (pa_cons (pe_fld (pv 0) (by rfl)) (pa_cons (pv 1) pa_nil)))) (blkOk_by (N := N_Mover_has_none_ahead) (sc := defScope s_Mover_has_none_ahead) (by decide +kernel)) (fun _ _ _ _ _ => (pg_name (i := 3) sc.nd rfl (Or.inl rfl))) (fun _ _ _ _ _ => pts_nil) (fun _ _ _ _ _ => (pe_cmpR (r := rInTp K) (op_inTp hv) (pv 3) (pv 2) (by rfl)))) pa_nil)))))), ?_⟩
  clear sc hu
  rintro δ ω Φ ⟨x, dx, m, ps, rs, u, v, p, ms, rfl, rfl, W, ho, q⟩
  have hn : (u ++ p :: v).Nodup := ho.nodup_iff.mpr W.web.nd
  have hp : p ∉ u := fun z => (List.nodup_append.mp hn).2.2 p z p (List.mem_cons_self ..) rfl
  have hix : (u ++ p :: v).idxOf p = u.length := by
    rw [List.idxOf_append, if_neg hp, List.idxOf_cons_self]
    omega
  have hmp : p ∈ ps := ho.mem_iff.mp (by simp)
  show RR Tb _ [.pt x, .dt (.str p), .un, .un] _ _
  walk_at "km"
  refine ex_held _ (a := x) (dx := dx) (m := m) (w := webD ps rs) (hd := tS (u ++ p :: v)) G.cls G.na_held ?_
  walk_at "km"
  refine ⟨trivial, List.mem_cons_self .., ?_⟩
  walk_at "km"
  refine ex_held _ (a := x) (dx := dx) (m := m) (w := webD ps rs) (hd := tS (u ++ p :: v)) G.cls G.na_held ?_
  walk_at "km"
  refine ⟨trivial, List.mem_cons_self .., ?_⟩
  walk_at "km"
  refine ⟨by simp, ?_⟩
  rw [hix]
  walk_at "km"
  rw [cut_to, List.take_left]
  have lo := W.okd (o := u) fun y hy => ho.mem_iff.mp (List.mem_append_left _ hy)
  refine ex_lcM T PyData.str str_inj PyData.bool (nbrs ps rs p) (fun q => some (decide (q ∈ u))) ?_
  refine ix_tup _ ?_
  walk_at "km"
  refine ex_web _ (a := x) (dx := dx) (m := m) (w := webD ps rs) (hd := tS (u ++ p :: v)) G.cls G.na_web ?_
  walk_at "km"
  refine ⟨trivial, List.mem_cons_self .., ?_⟩
  walk_at "km"
  refine ⟨_, _, _, rfl, W, hmp, ?_⟩
  have p5 := W.p5
  have hnl : (nbrs ps rs p).length ≤ ps.length := List.length_filter_le ..
  refine ⟨_, rfl, rfl, by omega, fun _ => True.intro, fun y hy => ?_, fun D => ?_⟩
  · walk_at "km"
    intro D2 acc
    walk_at "km"
    have ly : PyData.strOk y = true := W.law y (nbrs_mem.mp hy).1
    refine ox_in _ 1 (okd_s 1 ly) (okd_tS lo) (by decide) fun b hb => ?_
    refine ⟨b, rfl, ?_, Kp.refl _⟩
    rw [mem_tS] at hb
    rw [dec_of hb]
  · walk_at "km"
    rw [filterMap_some]
    refine kx_any _ (bs := (nbrs ps rs p).map fun q => decide (q ∈ u)) (by rw [List.map_map]; exact isLs_hd) ?_
    walk_at "km"
    have e : (!((nbrs ps rs p).map fun q => decide (q ∈ u)).any id) = decide (∀ q ∈ u, adj rs p q = false) := by
      apply dec_of
      rw [Bool.not_eq_true', List.any_map]
      constructor
      · intro z y hy
        cases ha : adj rs p y with
        | false => rfl
        | true =>
          have my : y ∈ nbrs ps rs p := nbrs_mem.mpr ⟨ho.mem_iff.mp (List.mem_append_left _ hy), ha⟩
          have := List.any_eq_false.mp z y my
          exact absurd (by simpa using hy) this
      · intro z
        rw [List.any_eq_false]
        intro y my hy
        have hyu : y ∈ u := by simpa using hy
        have h1 := z y hyu
        rw [(nbrs_mem.mp my).2] at h1
        cases h1
    rw [e]
    exact kp_end (Kp.cons (Kp.refl _)) q
abbrev R_Mover_follow (C : Addr) : Prm := fun δ ω Φ => ∃ (x dx m : Addr) (ps : List Str) (rs : List (Str × Str)) (o o' : List Str) (ms : List Mv), δ = [.pt x, .dt (tS o')] ∧ ω = mvS C x dx m ps rs o ms ∧ WebV ps rs ∧ o.Perm ps ∧ o'.Perm ps ∧ AlikeO rs o o' ∧ ms.length ≤ 90000 ∧
  ∀ is : List Nat, run rs o (is.map .swap) = some o' → is.length ≤ 25 → Φ (.dt .none) (mvS C x dx m ps rs o' (ms ++ is.map Mv.swap))
theorem run_downs_succ' {rs : List (Str × Str)} {o : List Str} {ms ms' : List Nat} {a b : List Str} {i : Nat} (h : run rs o (ms.map .swap) = some a) (h2 : appMv rs a (.swap i) = some b) (e : ms' = ms ++ [i]) : run rs o (ms'.map .swap) = some b := by
  rw [e]
  exact run_downs_succ h h2
theorem ok_Mover_follow (G : Glob Tb base K mg C) : OkM Tb P w K mg base C 5 "follow" ["self", "other"] (R_Mover_follow C) := by
  refine okM_of 4 G.d_Mover_follow sc_Mover_follow (fun F => F.bindsN fun _ _ _ _ _ _ us hl => match us, hl with | [_, _], _ => rfl) (fun f cdv A outer s H E hr => ?_)
  have sc := sc_Mover_follow
  have hv := hv_of hr
  have hu := hu_of hr
  have ok_Mover_swap_ := ok_Mover_swap (Tb := Tb) (P := P) (w := w) (base := base) G
  have ok_path_between_ := ok_path_between (Tb := Tb) (P := P) (w := w) (base := base) G
  refine ⟨_, (pss_one (ps_for PassesOwn.never rfl (pi_list (pe_go 3 ok_path_between_ (hr.mono (by decide)) rfl (pa_cons (pe_fld (pv 0) (by rfl)) (pa_cons (pe_fld (pv 0) (by rfl)) (pa_cons (pv 1) pa_nil))))) (pg_name (i := 2) sc.nd rfl (Or.inl rfl)) (pss_one (ps_expr (pe_mv 2 G.cls ok_Mover_swap_ (hr.mono (by decide)) (pv 0) (pa_cons (pv 2) pa_nil)))))), ?_⟩
  clear sc hu
  rintro δ ω Φ ⟨x, dx, m, ps, rs, o, o', ms, rfl, rfl, W, ho, ho', al, hm, q⟩
  have p5 := W.p5
  have hol := ho.length_eq
  show RR Tb _ [.pt x, .dt (tS o'), .un] _ _
  refine rr_forE T ?_
  refine ix_list _ ?_
  walk_at "km"
  refine ex_web _ (a := x) (dx := dx) (m := m) (w := webD ps rs) (hd := tS o) G.cls G.na_web ?_
  walk_at "km"
  refine ⟨rfl, List.mem_cons_self .., ?_⟩
  walk_at "km"
  refine ex_held _ (a := x) (dx := dx) (m := m) (w := webD ps rs) (hd := tS o) G.cls G.na_held ?_
  walk_at "km"
  refine ⟨rfl, List.mem_cons_self .., ?_⟩
  walk_at "km"
  refine ⟨_, _, _, _, rfl, W, ho, ho', al, fun is hr hl p => ?_⟩
  refine ⟨intsD is, .inr ⟨p, rfl, List.mem_cons_self .., fun i δ' ω' => ∃ s oi, run rs o ((is.take i).map .swap) = some oi ∧ run rs oi ((is.drop i).map .swap) = some o' ∧ δ' = [.pt x, .dt (tS o'), s] ∧ ω' = (p, .ls (intsD is)) :: mvS C x dx m ps rs oi (ms ++ (is.take i).map Mv.swap), ⟨_, o, rfl, hr, rfl, by simp⟩, ?_, ?_, ?_⟩⟩
  · rintro i δ' ω' ⟨s, oi, _, _, _, rfl⟩
    exact List.mem_cons_self ..
  · rintro i d δ' ω' hd ⟨s2, oi, h1, h2, rfl, rfl⟩
    rw [List.getElem?_map] at hd
    cases hri : is[i]? with
    | none => rw [hri] at hd; cases hd
    | some k =>
    rw [hri] at hd
    cases hd
    have hi : i < is.length := (List.getElem?_eq_some_iff.mp hri).1
    have hdr : is.drop i = k :: is.drop (i + 1) := by
      rw [List.drop_eq_getElem_cons hi, (List.getElem?_eq_some_iff.mp hri).2]
    have htk : is.take (i + 1) = is.take i ++ [k] := by
      rw [List.take_succ, hri]
      rfl
    rw [hdr, List.map_cons] at h2
    unfold run at h2
    cases ha : appMv rs oi (.swap k) with
    | none => rw [ha] at h2; cases h2
    | some oj =>
    rw [ha] at h2
    obtain ⟨u, a, b, v, rfl, rfl, hadj, rfl⟩ := app_swap_inv ha
    have hoi := ((run_perm h1).trans ho).length_eq
    walk_at "km"
    refine ex_mvc (by decide) ?_
    walk_at "km"
    refine ⟨x, dx, m, ps, rs, _, _, [(p, .ls (intsD is))], rfl, List.perm_append_comm (l₂ := [_]), ?_⟩
    walk_at "km"
    refine ⟨trivial, [.int (u.length : Nat)], rfl, rfl, x, dx, m, ps, rs, u, v, a, b, _, rfl, rfl, ?_, ?_, ?_⟩
    · unfold few
      rw [List.length_append, List.length_cons, List.length_cons] at hoi
      omega
    · rw [List.length_append, List.length_map, List.length_take]
      omega
    · refine ⟨(p, .ls (intsD is)) :: _, ⟨_, List.Sublist.refl _, List.perm_append_comm (l₁ := [_])⟩, _, _, run_downs_succ' h1 ha htk, h2, rfl, ?_⟩
      rw [htk, List.map_append, List.append_assoc]
      rfl
  · rintro δ' ω' ⟨s2, oi, h1, h2, rfl, rfl⟩
    rw [List.length_map] at h1 h2 ⊢
    rw [List.take_length] at h1 ⊢
    rw [h1] at hr
    cases hr
    exact kp_end (Kp.cons (Kp.refl _)) (q is h1 hl)
end Km
/-! Text KmTw -/
/-! The mathematics of turns_wanted: pieces and what is found. -/
namespace Km
open PySem
def keysS (l : List (Str × Int)) : List Str := l.map (·.1)
def fv (l : List (Str × Int)) (k : Str) : Int := (lookS l k).getD 0
theorem lookS_put (l : List (Str × Int)) (k : Str) (v : Int) (k' : Str) : lookS (putS l k v) k' = if k' = k then some v else lookS l k' := by
  unfold putS
  by_cases ha : (l.any fun p => decide (p.1 = k)) = true
  · rw [if_pos ha]
    induction l with
    | nil => cases ha
    | cons p l ih =>
      unfold lookS at ih ⊢
      by_cases hp : p.1 = k
      · by_cases hk : k' = k
        · subst hk
          rw [List.map_cons, if_pos hp, List.find?_cons_of_pos (by simp [hp]), if_pos rfl]
          rfl
        · have hn : ¬ p.1 = k' := fun z => hk (z.symm.trans hp)
          rw [if_neg hk, List.map_cons, if_pos hp, List.find?_cons_of_neg (by simpa using hn), List.find?_cons_of_neg (by simpa using hn)]
          by_cases hl : (l.any fun p => decide (p.1 = k)) = true
          · have := ih hl
            rw [if_neg hk] at this
            exact this
          · have e : l.map (fun p => if p.1 = k then (p.1, v) else p) = l := by
              have : ∀ q ∈ l, ¬ q.1 = k := fun q hq z => hl (List.any_eq_true.mpr ⟨q, hq, by simpa using z⟩)
              conv => rhs; rw [← List.map_id l]
              exact List.map_congr_left fun q hq => by rw [if_neg (this q hq)]; rfl
            rw [e]
      · have hl : (l.any fun p => decide (p.1 = k)) = true := by
          rw [List.any_cons] at ha
          simpa [hp] using ha
        rw [List.map_cons, if_neg hp]
        by_cases hq : p.1 = k'
        · have hk : ¬ k' = k := fun z => hp (hq.trans z)
          rw [List.find?_cons_of_pos (by simpa using hq), List.find?_cons_of_pos (by simpa using hq), if_neg hk]
        · rw [List.find?_cons_of_neg (by simpa using hq), List.find?_cons_of_neg (by simpa using hq)]
          exact ih hl
  · rw [if_neg ha]
    unfold lookS
    rw [List.find?_append]
    by_cases hk : k' = k
    · subst hk
      have : l.find? (fun p => decide (p.1 = k')) = none := by
        rw [List.find?_eq_none]
        intro q hq z
        exact ha (List.any_eq_true.mpr ⟨q, hq, z⟩)
      rw [this, if_pos rfl]
      simp
    · rw [if_neg hk]
      have hn : ¬ k = k' := fun z => hk z.symm
      cases l.find? (fun p => decide (p.1 = k')) with
      | none => simp [hn]
      | some q => rfl
theorem lookS_key {l : List (Str × Int)} {k : Str} : (lookS l k).isSome = true ↔ k ∈ keysS l := by
  unfold lookS keysS
  rw [Option.isSome_map, List.find?_isSome, List.mem_map]
  constructor
  · rintro ⟨q, hq, e⟩
    exact ⟨q, hq, of_decide_eq_true e⟩
  · rintro ⟨q, hq, e⟩
    exact ⟨q, hq, decide_eq_true e⟩
theorem lookS_fv {l : List (Str × Int)} {k : Str} (h : k ∈ keysS l) : lookS l k = some (fv l k) := by
  have := lookS_key.mpr h
  unfold fv
  cases e : lookS l k with
  | none => rw [e] at this; cases this
  | some v => rfl
theorem lookS_none {l : List (Str × Int)} {k : Str} (h : k ∉ keysS l) : lookS l k = none := by
  cases e : lookS l k with
  | none => rfl
  | some v => exact absurd (lookS_key.mp (by rw [e]; rfl)) h
theorem keys_put (l : List (Str × Int)) (k : Str) (v : Int) : keysS (putS l k v) = if k ∈ keysS l then keysS l else keysS l ++ [k] := by
  unfold putS keysS
  by_cases ha : (l.any fun p => decide (p.1 = k)) = true
  · rw [if_pos ha, if_pos]
    · rw [List.map_map]
      apply List.map_congr_left
      intro q _
      show (if q.1 = k then (q.1, v) else q).1 = q.1
      split <;> rfl
    · obtain ⟨q, hq, e⟩ := List.any_eq_true.mp ha
      exact List.mem_map.mpr ⟨q, hq, of_decide_eq_true e⟩
  · rw [if_neg ha, if_neg]
    · rw [List.map_append]
      rfl
    · intro z
      obtain ⟨q, hq, e⟩ := List.mem_map.mp z
      exact ha (List.any_eq_true.mpr ⟨q, hq, decide_eq_true e⟩)
theorem keys_put_mem {l : List (Str × Int)} {k : Str} {v : Int} {x : Str} : x ∈ keysS (putS l k v) ↔ x = k ∨ x ∈ keysS l := by
  rw [keys_put]
  split
  · rename_i h
    exact ⟨.inr, fun z => z.elim (fun e => e ▸ h) id⟩
  · rw [List.mem_append, List.mem_singleton]
    exact Or.comm
theorem keys_put_nd {l : List (Str × Int)} {k : Str} {v : Int} (h : (keysS l).Nodup) : (keysS (putS l k v)).Nodup := by
  rw [keys_put]
  split
  · exact h
  · rename_i hn
    rw [List.nodup_append]
    exact ⟨h, by simp, fun a ha b hb e => hn (by rw [← List.mem_singleton.mp hb, ← e]; exact ha)⟩
theorem fv_put (l : List (Str × Int)) (k : Str) (v : Int) (x : Str) : fv (putS l k v) x = if x = k then v else fv l x := by
  unfold fv
  rw [lookS_put]
  split <;> rfl
structure Piece (rs : List (Str × Str)) (L : Str → Str → Int) (ps : List Str) (s h : Str) (pc : List (Str × Int)) (left : List Str) : Prop where
  nd : (keysS pc).Nodup
  sub : ∀ x ∈ keysS pc, x ∈ ps
  st : s ∈ keysS pc
  lf : ∀ x ∈ left, x ∈ keysS pc
  closed : ∀ x ∈ keysS pc, x ∈ left ∨ x = h ∨ ∀ y, adj rs x y = true → y ∈ keysS pc
  pot : ∀ f : Str → Int, (∀ a b, adj rs a b = true → f a - f b = L a b) → ∃ c, ∀ x ∈ keysS pc, fv pc x = f x + c
  bd : ∀ x ∈ keysS pc, -(pc.length : Int) ≤ fv pc x ∧ fv pc x ≤ pc.length
theorem Piece.add {rs : List (Str × Str)} {L : Str → Str → Int} {ps : List Str} {s h : Str} {pc : List (Str × Int)} {left : List Str} (G : Piece rs L ps s h pc left) (hL : ∀ a b, -1 ≤ L a b ∧ L a b ≤ 1) {y : Str} (hh : h ∈ keysS pc) (hy : y ∈ ps) (ha : adj rs h y = true) (hn : y ∉ keysS pc) :
    Piece rs L ps s h (putS pc y (fv pc h - L h y)) (left ++ [y]) := by
  refine ⟨keys_put_nd G.nd, fun x hx => ?_, keys_put_mem.mpr (.inr G.st), fun x hx => ?_, fun x hx => ?_, fun f hf => ?_, fun x hx => ?_⟩
  · rcases keys_put_mem.mp hx with e | e
    · rw [e]
      exact hy
    · exact G.sub x e
  · rcases List.mem_append.mp hx with e | e
    · exact keys_put_mem.mpr (.inr (G.lf x e))
    · exact keys_put_mem.mpr (.inl (List.mem_singleton.mp e))
  · rcases keys_put_mem.mp hx with e | e
    · exact .inl (by rw [e]; simp)
    · rcases G.closed x e with z | z | z
      · exact .inl (List.mem_append_left _ z)
      · exact .inr (.inl z)
      · exact .inr (.inr fun y' h' => keys_put_mem.mpr (.inr (z y' h')))
  · obtain ⟨c, hc⟩ := G.pot f hf
    refine ⟨c, fun x hx => ?_⟩
    rw [fv_put]
    by_cases e : x = y
    · rw [if_pos e, e, hc h hh]
      have := hf h y ha
      omega
    · rw [if_neg e]
      exact hc x ((keys_put_mem.mp hx).resolve_left e)
  · have el : (putS pc y (fv pc h - L h y)).length = pc.length + 1 := by
      rw [putS_new hn]
      simp
    rw [el, fv_put]
    have h1 := hL h y
    have h2 := G.bd h hh
    by_cases e : x = y
    · rw [if_pos e]
      omega
    · rw [if_neg e]
      have h3 := G.bd x ((keys_put_mem.mp hx).resolve_left e)
      omega
structure Found (rs : List (Str × Str)) (L : Str → Str → Int) (ps : List Str) (fd : List (Str × Int)) : Prop where
  nd : (keysS fd).Nodup
  sub : ∀ x ∈ keysS fd, x ∈ ps
  nn : ∀ x ∈ keysS fd, 0 ≤ fv fd x
  closed : ∀ x ∈ keysS fd, ∀ y, adj rs x y = true → y ∈ keysS fd
  pot : ∀ f : Str → Int, (∀ a b, adj rs a b = true → f a - f b = L a b) → ∀ x ∈ keysS fd, ∀ y, adj rs x y = true → fv fd x - fv fd y = L x y
  bd : ∀ x ∈ keysS fd, fv fd x ≤ 10
theorem Found.merge {rs : List (Str × Str)} {L : Str → Str → Int} {ps : List Str} {fd fd' : List (Str × Int)} (F : Found rs L ps fd) {s h : Str} {pc : List (Str × Int)} (G : Piece rs L ps s h pc []) (cl : ∀ x ∈ keysS pc, ∀ y, adj rs x y = true → y ∈ keysS pc)
    {least : Int} (hm : ∀ x ∈ keysS pc, least ≤ fv pc x) (hlo : -5 ≤ least) (h5 : pc.length ≤ 5) (hnd : (keysS fd').Nodup) (hl : ∀ x, lookS fd' x = if x ∈ keysS pc then some (fv pc x - least) else lookS fd x) : Found rs L ps fd' := by
  have hk : ∀ x, x ∈ keysS fd' ↔ x ∈ keysS pc ∨ x ∈ keysS fd := fun x => by
    rw [← lookS_key, hl]
    split
    · rename_i h
      exact ⟨fun _ => .inl h, fun _ => rfl⟩
    · rename_i h
      rw [lookS_key]
      exact ⟨.inr, fun z => z.resolve_left h⟩
  have hv : ∀ x, fv fd' x = if x ∈ keysS pc then fv pc x - least else fv fd x := fun x => by
    unfold fv
    rw [hl]
    split <;> rfl
  refine ⟨hnd, fun x hx => ?_, fun x hx => ?_, fun x hx y ha => ?_, fun f hf x hx y ha => ?_, fun x hx => ?_⟩
  · exact ((hk x).mp hx).elim (G.sub x) (F.sub x)
  · rw [hv]
    split
    · rename_i h
      have := hm x h
      omega
    · rename_i h
      exact F.nn x (((hk x).mp hx).resolve_left h)
  · rw [hk]
    rcases (hk x).mp hx with z | z
    · exact .inl (cl x z y ha)
    · exact .inr (F.closed x z y ha)
  · by_cases hp : x ∈ keysS pc
    · have hy := cl x hp y ha
      rw [hv, hv, if_pos hp, if_pos hy]
      obtain ⟨c, hc⟩ := G.pot f hf
      have h1 := hc x hp
      have h2 := hc y hy
      have h3 := hf x y ha
      omega
    · have hy : y ∉ keysS pc := fun z => hp (cl y z x (by rw [adj_comm]; exact ha))
      rw [hv, hv, if_neg hp, if_neg hy]
      exact F.pot f hf x (((hk x).mp hx).resolve_left hp) y ha
  · rw [hv]
    split
    · rename_i h
      have := G.bd x h
      omega
    · rename_i h
      exact F.bd x (((hk x).mp hx).resolve_left h)
theorem lead_bd {α : Type} [DecidableEq α] (o o' : List α) (a b : α) : -1 ≤ lead o o' a b ∧ lead o o' a b ≤ 1 := by
  unfold lead b2z
  split <;> split <;> omega
end Km
/-! Text KmM3 -/
namespace Km
open PySem PySem.Spec PyProof.Rows L2 LamX
local macro_rules
  | `(tactic| walk_at "km1") => `(tactic| first
    | ((with_reducible apply ex_v); (focus rfl); (focus rfl))
    | with_reducible refine ex_int ?_
    | with_reducible refine ex_str ?_
    | with_reducible refine ex_bl ?_
    | with_reducible refine ex_non ?_
    | with_reducible refine ex_op ?_
    | with_reducible refine ex_un ?_
    | with_reducible refine ux_neg ?_
    | with_reducible refine ox_i0I ?_
    | with_reducible refine ox_i0B ?_
    | with_reducible refine ex_tup ?_
    | with_reducible refine ex_lst ?_
    | with_reducible refine ex_slT _ ?_
    | with_reducible refine ex_slL _ ?_
    | with_reducible refine px_none ?_
    | with_reducible refine px_some ?_
    | with_reducible refine ea_nil ?_
    | with_reducible refine ea_cons ?_
    | with_reducible refine ex_isi _ ?_
    | with_reducible refine ex_cb ?_
    | with_reducible refine ex_isN ?_
    | with_reducible refine ex_notN ?_
    | with_reducible refine ex_chain ?_
    | with_reducible refine ex_if ?_
    | with_reducible refine ex_and ?_
    | with_reducible refine ex_or ?_
    | with_reducible refine ex_not ?_
    | with_reducible refine ex_tix _ ?_
    | with_reducible refine ex_goD ?_
    | with_reducible refine ex_goN ?_
    | with_reducible refine ex_goF ?_
    | with_reducible refine ex_dget ?_
    | with_reducible refine ex_din ?_
    | with_reducible refine ex_dnotin ?_
    | with_reducible refine ex_dnew ?_
    | with_reducible refine et_test ?_
    | with_reducible refine et_val ?_
    | with_reducible refine et_and ?_
    | with_reducible refine et_or ?_
    | with_reducible refine et_not ?_
    | with_reducible refine et_yes ?_
    | with_reducible refine rr_seq ?_
    | with_reducible refine rr_asg ?_
    | with_reducible refine rr_ret ?_
    | with_reducible refine rr_retN ?_
    | with_reducible refine rr_drop ?_
    | with_reducible refine rr_if ?_
    | with_reducible refine rr_par ?_
    | with_reducible refine rr_next ?_
    | with_reducible refine rr_break ?_
    | with_reducible refine ix_tup _ ?_
    | with_reducible refine ix_range1 ?_
    | with_reducible refine ix_range2 ?_
    | with_reducible refine ix_down ?_
    | with_reducible refine ix_str ?_
    | with_reducible refine ix_keys ?_
    | with_reducible refine nb_dt ?_
    | with_reducible refine nb_pt ?_
    | with_reducible refine lc_name (by simp) ?_
    | with_reducible refine lc_pair (by simp) (by simp) ?_
    | with_reducible refine lc_new (by simp) (by simp) ?_
    | with_reducible refine for_name ?_
    | with_reducible refine for_pair ?_
    | with_reducible refine for_new ?_
    | with_reducible refine tup0 ?_
    | with_reducible refine tup1 ?_
    | with_reducible refine tup2 ?_
    | with_reducible refine tup3 ?_
    | with_reducible refine arg1 ?_
    | with_reducible refine arg2 ?_
    | with_reducible refine arg3 ?_
    | with_reducible refine arg4 ?_
    | with_reducible refine ⟨_, rfl, ?_⟩
    | with_reducible refine ⟨_, _, rfl, ?_⟩)
local macro_rules
  | `(tactic| walk_at "kms") => `(tactic| try simp (maxSteps := 2000) only [wipeS, List.map_cons, List.map_nil, List.set_cons_zero, List.set_cons_succ, Bool.false_eq_true, Bool.not_true, Bool.not_false, reduceIte])
local macro_rules
  | `(tactic| walk_at "km") => `(tactic| repeat (walk_at "km1"; walk_at "kms"))
local macro_rules
  | `(tactic| walk_at "kp") => `(tactic| repeat (first | exact Kp.refl _ | refine Kp.cons2 ?_ | refine Kp.cons ?_))
local macro_rules
  | `(tactic| walk_at "ls") => `(tactic| repeat (first | exact isLs_hd | exact isLs_bo | refine isLs_tl ?_))

variable {Tb : List (Addr × Str)} {P : Program} {w : World} {K : PySem.W.Frag} {mg : Str → Option Value} {base : Heap} {C : Addr}
/-! turns_wanted(web, order, other) -/
theorem keys_len {ps : List Str} {l : List (Str × Int)} (nd : (keysS l).Nodup) (sub : ∀ x ∈ keysS l, x ∈ ps) (h5 : ps.length ≤ 5) : l.length ≤ 5 := by
  have h := List.Nodup.length_le_of_subset nd (fun x hx => sub x hx)
  unfold keysS at h
  rw [List.length_map] at h
  omega
abbrev R_turns_wanted : Prm := fun δ ω Φ => ω = [] ∧ ∃ (ps : List Str) (rs : List (Str × Str)) (o o' : List Str), δ = [.dt (webD ps rs), .dt (tS o), .dt (tS o')] ∧ WebV ps rs ∧ o.Perm ps ∧ o'.Perm ps ∧
  (¬ Pot rs (lead o o') → Φ (.dt .none) []) ∧ ∀ (p : Addr) (kvs : List (Str × Int)), (keysS kvs).Nodup → (∀ x, x ∈ keysS kvs ↔ x ∈ ps) → Left rs ps (fv kvs) o o' → (∀ x ∈ ps, fv kvs x ≤ 10) → Φ (.pt p) [(p, .dk kvs)]
theorem ok_turns_wanted (G : Glob Tb base K mg C) : OkF Tb P w K mg base 5 "turns_wanted" ["web", "order", "other"] R_turns_wanted := by
  refine okF_of 4 G.d_turns_wanted sc_turns_wanted (fun F => F.bindsN fun _ _ _ _ _ _ us hl => match us, hl with | [_, _, _], _ => rfl) (fun f cdv A outer s H E hr => ?_)
  have sc := sc_turns_wanted
  have hv := hv_of hr
  have hu := hu_of hr
  have ok_lead_of_ := ok_lead_of (Tb := Tb) (P := P) (w := w) (base := base) G
  have ok_neighbours_of_ := ok_neighbours_of (Tb := Tb) (P := P) (w := w) (base := base) G
  refine ⟨_, (pss_cons (ps_set (i := 3) sc.nd rfl (Or.inl rfl) pe_dnewK)
  (pss_cons (ps_for PassesOwn.never rfl (pi_tup (pe_ix L2.ix_tup (pv 0) pe_int (fun _ _ => rfl))) (pg_name (i := 4) sc.nd rfl (Or.inl rfl)) (pss_one (ps_if (pt_cmp (pc_dnotin hu (pv 4) (pv 3)) (by rfl)) (pss_cons (ps_asg (pe_tup (pa_cons (pe_disp (pps_cons (pv 4) pe_int pps_nil) (by rfl) (by rfl) (fun z => by cases z) (by decide)) (pa_cons (pe_lst (pa_cons (pv 4) pa_nil)) pa_nil))) (pg_tup (n := 2) rfl (pgs_cons (pg_name (i := 5) sc.nd rfl (Or.inr rfl)) (pgs_cons (pg_name (i := 6) sc.nd rfl (Or.inl rfl)) pgs_nil))))
  (pss_cons (ps_while PassesOwn.never (pt_cmpR (op_neD hr.units) (pv 6) (pe_lst pa_nil) (nomark _)) (pss_cons (ps_set (i := 9) sc.nd rfl (Or.inl rfl) (pe_bm0 (PySem.F.plainAttrs_list) (PySem.F.slot_list_pop) (PySem.F.type_list_pop) mt_pop (pv 6)))
  (pss_one (ps_for PassesOwn.never rfl (pi_tup (pe_go 2 ok_neighbours_of_ (hr.mono (by decide)) rfl (pa_cons (pv 0) (pa_cons (pv 9) pa_nil)))) (pg_name (i := 10) sc.nd rfl (Or.inl rfl)) (pss_one (ps_if (pt_cmp (pc_dnotin hu (pv 10) (pv 5)) (by rfl)) (pss_cons (ps_dput hu (pv 5) (pv 10) (pe_op op_sub (pe_dget hu (pv 5) (pv 9) (fun _ _ => rfl)) (pe_go 4 ok_lead_of_ (hr.mono (by decide)) rfl (pa_cons (pv 1) (pa_cons (pv 2) (pa_cons (pv 9) (pa_cons (pv 10) pa_nil)))))) (by rfl))
  (pss_one (ps_expr (pe_bm (PySem.F.plainAttrs_list) (PySem.F.slot_list_append) (PySem.F.type_list_append) mt_append (pv 6) (pa_cons (pv 10) pa_nil))))) pss_nil))))))
  (pss_cons (ps_set (i := 7) sc.nd rfl (Or.inl rfl) (pe_callB (cr_min rfl) (by rfl) G.f_min (by decide +kernel) (pa_cons (pe_lock (pe_lc (own := [("place", 8)]) (g := (gName 8)) rfl sc.nd (pi_keys (pv 5)) (blkOk_by (N := N_turns_wanted) (sc := defScope s_turns_wanted) (by decide +kernel)) (fun _ _ _ _ _ => (pg_name (i := 8) sc.nd rfl (Or.inl rfl))) (fun _ _ _ _ _ => pts_nil) (fun _ _ _ _ _ => (pe_dget hu (pv 5) (pv 8) (fun _ _ => rfl))))) pa_nil)))
  (pss_one (ps_lock (ps_for PassesOwn.never rfl (pi_keys (pv 5)) (pg_name (i := 8) sc.nd rfl (Or.inl rfl)) (pss_one (ps_dput hu (pv 3) (pv 8) (pe_op op_sub (pe_dget hu (pv 5) (pv 8) (fun _ _ => rfl)) (pv 7)) (by rfl))))))))) pss_nil)))
  (pss_cons (ps_for PassesOwn.never rfl (pi_tup (pe_ix L2.ix_tup (pv 0) pe_int (fun _ _ => rfl))) (pg_tup (n := 2) rfl (pgs_cons (pg_name (i := 9) sc.nd rfl (Or.inl rfl)) (pgs_cons (pg_name (i := 10) sc.nd rfl (Or.inl rfl)) pgs_nil))) (pss_one (ps_if (pt_cmpR (op_neD hr.units) (pe_op op_sub (pe_dget hu (pv 3) (pv 9) (fun _ _ => rfl)) (pe_dget hu (pv 3) (pv 10) (fun _ _ => rfl))) (pe_go 4 ok_lead_of_ (hr.mono (by decide)) rfl (pa_cons (pv 1) (pa_cons (pv 2) (pa_cons (pv 9) (pa_cons (pv 10) pa_nil))))) (nomark _)) (pss_one (ps_ret pe_non)) pss_nil)))
  (pss_one (ps_ret (pv 3)))))), ?_⟩
  clear sc hu
  rintro δ ω Φ ⟨rfl, ps, rs, o, o', rfl, W, ho, ho', q1, q2⟩
  have p5 := W.p5
  have hl := W.law
  show RR Tb _ [.dt (webD ps rs), .dt (tS o), .dt (tS o'), .un, .un, .un, .un, .un, .un, .un, .un] [] _
  refine rr_seq ?_
  refine rr_asg ?_
  refine ex_dnew fun pf => ?_
  refine rr_cut (fun δ' ω' => ∃ s4 s5 s6 s7 s8 s9 s10 fd, Found rs (lead o o') ps fd ∧ (∀ x ∈ ps, x ∈ keysS fd) ∧ δ' = [.dt (webD ps rs), .dt (tS o), .dt (tS o'), .pt pf, s4, s5, s6, s7, s8, s9, s10] ∧ ω' = [(pf, .dk fd)]) ?_ ?_
  · refine rr_for T (fun i δ' ω' => ∃ s4 s5 s6 s7 s8 s9 s10 fd, Found rs (lead o o') ps fd ∧ (∀ x ∈ ps.take i, x ∈ keysS fd) ∧ δ' = [.dt (webD ps rs), .dt (tS o), .dt (tS o'), .pt pf, s4, s5, s6, s7, s8, s9, s10] ∧ ω' = [(pf, .dk fd)]) ?_
    walk_at "km"
    refine ox_ixT _ (i := 0) (d := tS ps) rfl ?_
    refine ⟨_, rfl, ⟨_, _, _, _, _, _, _, [], ⟨List.nodup_nil, (fun _ h => nomatch h), (fun _ h => nomatch h), (fun _ h => nomatch h), fun _ _ _ h => (nomatch h), fun _ h => nomatch h⟩, (fun _ h => nomatch h), rfl, rfl⟩, fun _ _ _ _ => True.intro, ?_, ?_⟩
    · rintro i d δ' ω' hd ⟨s4, s5, s6, s7, s8, s9, s10, fd, F, h1, rfl, rfl⟩
      rw [List.getElem?_map] at hd
      cases hr : ps[i]? with
      | none => rw [hr] at hd; cases hd
      | some st =>
      rw [hr] at hd
      cases hd
      have ms : st ∈ ps := List.mem_of_getElem? hr
      walk_at "km"
      refine ⟨fd, st, rfl, ⟨pf, rfl, .inl (List.mem_cons_self ..)⟩, _, rfl, ?_⟩
      by_cases hin : st ∈ keysS fd
      · refine ifF (by rw [lookS_key.mpr hin]; rfl) ?_
        walk_at "km"
        refine ⟨_, Kp.refl _, _, _, _, _, _, _, _, fd, F, ?_, rfl, rfl⟩
        rw [take_succ hr]
        intro x hx
        rcases List.mem_append.mp hx with z | z
        · exact h1 x z
        · rw [List.mem_singleton.mp z]
          exact hin
      · refine ifT (by rw [lookS_none hin]; rfl) ?_
        refine rr_cut (fun δ' ω' => ∃ s7 s8 s9 s10 pp pl, δ' = [.dt (webD ps rs), .dt (tS o), .dt (tS o'), .pt pf, .dt (.str st), .pt pp, .pt pl, s7, s8, s9, s10] ∧ ω' = [(pl, .ls ([st].map PyData.str)), (pp, .dk [(st, 0)]), (pf, .dk fd)]) ?_ ?_
        · refine rr_asg2 _ ?_
          walk_at "km"
          refine ex_disp1 fun pp => ?_
          walk_at "km"
          refine ⟨st, 0, rfl, rfl, trivial, ?_⟩
          walk_at "km"
          intro pl
          walk_at "km"
          exact ⟨s7, s8, s9, s10, pp, pl, rfl, rfl⟩
        rintro δ' ω' ⟨s7, s8, s9, s10, pp, pl, rfl, rfl⟩
        refine rr_cut (fun δ' ω' => ∃ s7 s8 s9 s10 pc h, Piece rs (lead o o') ps st h pc [] ∧ (∀ x ∈ keysS pc, ∀ y, adj rs x y = true → y ∈ keysS pc) ∧ δ' = [.dt (webD ps rs), .dt (tS o), .dt (tS o'), .pt pf, .dt (.str st), .pt pp, .pt pl, s7, s8, s9, s10] ∧ Kp ω' [(pp, .dk pc), (pf, .dk fd)]) ?_ ?_
        · refine rr_while (fun n δ' ω' => ∃ s7 s8 s9 s10 pc left h, Piece rs (lead o o') ps st h pc left ∧ (h ∈ keysS pc → h ∉ left → ∀ y, adj rs h y = true → y ∈ keysS pc) ∧ 2 * (5 - pc.length) + left.length = n ∧ n ≤ 11 ∧ δ' = [.dt (webD ps rs), .dt (tS o), .dt (tS o'), .pt pf, .dt (.str st), .pt pp, .pt pl, s7, s8, s9, s10] ∧ ω' = [(pl, .ls (left.map PyData.str)), (pp, .dk pc), (pf, .dk fd)])
            9 ⟨_, _, _, _, [(st, 0)], [st], st, ⟨by simp [keysS], by simpa [keysS] using ms, by simp [keysS], by simp [keysS], fun x hx => .inl (by simpa [keysS] using hx), fun f _ => ⟨- f st, fun x hx => by
              have e : x = st := by simpa [keysS] using hx
              rw [e]
              simp [fv, lookS]
              omega⟩, fun x hx => by
              have e : x = st := by simpa [keysS] using hx
              rw [e]
              simp [fv, lookS]⟩, fun _ z => absurd (List.mem_singleton.mpr rfl) z, rfl, by decide, rfl, rfl⟩ ?_
          rintro n δ' ω' ⟨s7, s8, s9, s10, pc, left, h, G1, G2, G3, G4, rfl, rfl⟩
          have pc5 := keys_len G1.nd G1.sub p5
          have okl : okds 1 (left.map PyData.str) = true := okds_iff.mpr fun x hx => by
            obtain ⟨g, hg, rfl⟩ := List.mem_map.mp hx
            exact okd_s 1 (hl g (G1.sub g (G1.lf g hg)))
          walk_at "km"
          intro q1
          walk_at "km"
          refine ox_nel _ 1 (isLs_tl isLs_hd) isLs_hd okl (okds_nil 1) (by decide) fun b1 h1 => ?_
          refine ⟨_, rfl, ?_⟩
          rw [List.map_eq_nil_iff] at h1
          by_cases hle : left = []
          · subst hle
            rw [h1.mpr rfl]
            walk_at "kms"
            refine ⟨_, _, _, _, pc, h, G1, fun x hx y ha => ?_, rfl, Kp.cons (Kp.cons (Kp.refl _))⟩
            rcases G1.closed x hx with z | z | z
            · exact absurd z List.not_mem_nil
            · subst z
              exact G2 hx List.not_mem_nil y ha
            · exact z y ha
          · have hb1 : b1 = false := by
              cases b1 with
              | false => rfl
              | true => exact absurd (h1.mp rfl) hle
            rw [hb1]
            walk_at "kms"
            refine rr_kp (Kp.cons (Kp.refl _)) ?_
            obtain ⟨init, hh, rfl⟩ : ∃ init hh, left = init ++ [hh] := ⟨left.dropLast, left.getLast hle, (List.dropLast_concat_getLast hle).symm⟩
            have mh : hh ∈ keysS pc := G1.lf hh (by simp)
            have mhp := G1.sub hh mh
            rw [List.map_append, List.map_cons, List.map_nil]
            walk_at "km"
            refine ex_pop _ 0 ?_
            walk_at "km"
            refine ⟨_, _, _, rfl, rfl, ?_⟩
            walk_at "km"
            have G0 : Piece rs (lead o o') ps st hh pc init := ⟨G1.nd, G1.sub, G1.st, fun x hx => G1.lf x (List.mem_append_left _ hx), fun x hx => by
              rcases G1.closed x hx with z | z | z
              · rcases List.mem_append.mp z with z | z
                · exact .inl z
                · exact .inr (.inl (List.mem_singleton.mp z))
              · subst z
                by_cases hin : x ∈ init ++ [hh]
                · rcases List.mem_append.mp hin with z | z
                  · exact .inl z
                  · exact .inr (.inl (List.mem_singleton.mp z))
                · exact .inr (.inr (G2 hx hin))
              · exact .inr (.inr z), G1.pot, G1.bd⟩
            rw [List.length_append, List.length_cons, List.length_nil] at G3
            refine rr_for T (fun j δ' ω' => ∃ s7 s8 s10 pc' left', Piece rs (lead o o') ps st hh pc' left' ∧ (∀ q ∈ (nbrs ps rs hh).take j, q ∈ keysS pc') ∧ 2 * (5 - pc'.length) + left'.length + 1 ≤ n ∧ hh ∈ keysS pc' ∧ left'.length ≤ init.length + j ∧ δ' = [.dt (webD ps rs), .dt (tS o), .dt (tS o'), .pt pf, .dt (.str st), .pt pp, .pt pl, s7, s8, .dt (.str hh), s10] ∧ ω' = [(pl, .ls (left'.map PyData.str)), (pp, .dk pc'), (pf, .dk fd)]) ?_
            walk_at "km"
            refine ⟨_, _, _, rfl, W, mhp, ?_⟩
            have hnl : (nbrs ps rs hh).length ≤ ps.length := List.length_filter_le ..
            refine ⟨_, rfl, ⟨_, _, _, pc, init, G0, by simp, by omega, mh, by omega, rfl, rfl⟩, fun _ _ _ _ => True.intro, ?_, ?_⟩
            · rintro j x δ' ω' hx ⟨t7, t8, t10, pc', left', g1, g2, g3, g4, g5, rfl, rfl⟩
              rw [List.getElem?_map] at hx
              cases hr : (nbrs ps rs hh)[j]? with
              | none => rw [hr] at hx; cases hx
              | some q' =>
              rw [hr] at hx
              cases hx
              have hj : j < (nbrs ps rs hh).length := (List.getElem?_eq_some_iff.mp hr).1
              have tk := take_succ hr
              obtain ⟨mq, aq⟩ := nbrs_mem.mp (List.mem_of_getElem? hr)
              have len' := keys_len g1.nd g1.sub p5
              walk_at "km"
              refine ⟨pc', q', rfl, ⟨pp, rfl, .inl (List.mem_cons_of_mem _ (List.mem_cons_self ..))⟩, _, rfl, ?_⟩
              by_cases hin : q' ∈ keysS pc'
              · refine ifF (by rw [lookS_key.mpr hin]; rfl) ?_
                walk_at "km"
                refine ⟨_, Kp.refl _, _, _, _, pc', left', g1, fun z hz => ?_, g3, g4, by omega, rfl, rfl⟩
                rw [tk] at hz
                rcases List.mem_append.mp hz with hz | hz
                · exact g2 z hz
                · rw [List.mem_singleton.mp hz]
                  exact hin
              · refine ifT (by rw [lookS_none hin]; rfl) ?_
                have G9 := g1.add (lead_bd o o') g4 mq aq hin
                have len9 := keys_len G9.nd G9.sub p5
                have eput : putS pc' q' (fv pc' hh - lead o o' hh q') = pc' ++ [(q', fv pc' hh - lead o o' hh q')] := putS_new hin
                rw [eput] at G9 len9
                rw [List.length_append, List.length_cons, List.length_nil] at len9
                refine rr_seq ?_
                refine rr_dput 1 ?_
                walk_at "km"
                refine ⟨pc', hh, fv pc' hh, rfl, ⟨pp, rfl, .inl (List.mem_cons_of_mem _ (List.mem_cons_self ..))⟩, lookS_fv g4, ?_⟩
                walk_at "km"
                refine ⟨o, o', hh, q', rfl, ⟨ho.mem_iff.mpr mhp, ho.mem_iff.mpr mq, ho'.mem_iff.mpr mhp, ho'.mem_iff.mpr mq⟩, ?_⟩
                walk_at "km"
                refine ⟨pp, pc', q', _, rfl, rfl, rfl, rfl, few_lt (by omega), ?_⟩
                rw [eput]
                refine rr_drop ?_
                refine ex_append _ 0 ?_
                walk_at "km"
                refine ⟨⟨_, List.mem_cons_self ..⟩, ?_⟩
                walk_at "km"
                refine ⟨few_lt (by rw [List.length_map]; omega), _, Kp.refl _, _, _, _, _, left' ++ [q'], G9, fun z hz => ?_, ?_, ?_, ?_, rfl, ?_⟩
                · rw [tk] at hz
                  unfold keysS
                  rw [List.map_append]
                  rcases List.mem_append.mp hz with hz | hz
                  · exact List.mem_append_left _ (g2 z hz)
                  · exact List.mem_append_right _ hz
                · simp only [List.length_append, List.length_cons, List.length_nil]
                  omega
                · unfold keysS
                  rw [List.map_append]
                  exact List.mem_append_left _ g4
                · rw [List.length_append, List.length_cons, List.length_nil]
                  omega
                · rw [List.map_append]
                  rfl
            · rintro δ' ω' ⟨t7, t8, t10, pc', left', g1, g2, g3, g4, g5, rfl, rfl⟩
              rw [List.length_map, List.take_length] at g2
              refine ⟨2 * (5 - pc'.length) + left'.length, _, by omega, Kp.refl _, _, _, _, _, pc', left', hh, g1, fun _ _ y ha => g2 y (nbrs_mem.mpr ⟨(W.web.adjE ha).2.1, ha⟩), rfl, by omega, rfl, rfl⟩
        · rintro δ' ω' ⟨s7, s8, s9, s10, pc, h, G1, cl, rfl, kp⟩
          refine rr_kp kp ?_
          have pc5 := keys_len G1.nd G1.sub p5
          walk_at "km"
          refine ex_lock 0 rfl fun od => ?_
          refine ex_lcM T PyData.str str_inj PyData.int (keysS pc) (fun x => some (fv pc x)) ?_
          refine ix_keys ?_
          walk_at "km"
          refine ⟨pp, od, pc, rfl, List.mem_cons_self .., by unfold keysS; rw [List.map_map]; rfl, by unfold keysS; rw [List.length_map]; omega, fun _ => List.mem_cons_of_mem _ (List.mem_cons_self ..), fun x hx => ?_, fun D => ?_⟩
          · walk_at "km"
            intro D2 acc
            walk_at "km"
            refine ⟨pc, x, fv pc x, rfl, ⟨pp, rfl, .inr ⟨od, List.mem_cons_of_mem _ (List.mem_cons_self ..)⟩⟩, lookS_fv hx, _, rfl, rfl, Kp.refl _⟩
          · refine ⟨1, rfl, ?_⟩
            walk_at "km"
            rw [filterMap_some]
            refine kx_min _ isLs_hd ?_ fun least hml hmin => ?_
            · rw [List.length_map]
              exact List.length_pos_of_mem G1.st
            refine rr_kp (Kp.cons (Kp.refl _)) ?_
            walk_at "km"
            have hlo : -5 ≤ least := by
              obtain ⟨x, hx, e⟩ := List.mem_map.mp hml
              have := G1.bd x hx
              omega
            refine rr_lock 0 rfl fun od2 => ?_
            refine rr_for T (fun j δ' ω' => ∃ t8 fd', (keysS fd').Nodup ∧ (∀ x, lookS fd' x = if x ∈ (keysS pc).take j then some (fv pc x - least) else lookS fd x) ∧ δ' = [.dt (webD ps rs), .dt (tS o), .dt (tS o'), .pt pf, .dt (.str st), .pt pp, .pt pl, .dt (.int least), t8, s9, s10] ∧ ω' = [(pp, .fz od2 pc), (pf, .dk fd')]) ?_
            refine ix_keys ?_
            walk_at "km"
            have ekeys : (pc.map fun p : Str × Int => PyData.str p.1) = (keysS pc).map PyData.str := by
              unfold keysS
              rw [List.map_map]
              rfl
            refine ⟨pp, od2, pc, rfl, List.mem_cons_self .., ⟨_, fd, F.nd, by simp, rfl, rfl⟩, ?_, ?_, ?_⟩
            · rintro j δ' ω' ⟨_, _, _, _, _, rfl⟩
              exact List.mem_cons_self ..
            · rintro j x δ' ω' hx ⟨t8, fd', g1, g2, rfl, rfl⟩
              rw [ekeys, List.getElem?_map] at hx
              cases hr : (keysS pc)[j]? with
              | none => rw [hr] at hx; cases hx
              | some q' =>
              rw [hr] at hx
              cases hx
              have mq := List.mem_of_getElem? hr
              have tk := take_succ hr
              have hsub : ∀ x ∈ keysS fd', x ∈ ps := fun x hx => by
                rw [← lookS_key, g2] at hx
                by_cases hm : x ∈ (keysS pc).take j
                · exact G1.sub x (List.mem_of_mem_take hm)
                · rw [if_neg hm, lookS_key] at hx
                  exact F.sub x hx
              have len' := keys_len g1 hsub p5
              walk_at "km"
              refine rr_dput 1 ?_
              walk_at "km"
              refine ⟨pc, q', fv pc q', rfl, ⟨pp, rfl, .inr ⟨od2, List.mem_cons_self ..⟩⟩, lookS_fv mq, ?_⟩
              walk_at "km"
              refine ⟨pf, fd', q', _, rfl, rfl, rfl, rfl, few_lt (by omega), _, Kp.refl _, _, _, keys_put_nd g1, fun x => ?_, rfl, rfl⟩
              rw [lookS_put, g2, tk]
              by_cases hxq : x = q'
              · subst hxq
                rw [if_pos rfl, if_pos (by simp)]
              · rw [if_neg hxq]
                by_cases hm : x ∈ (keysS pc).take j
                · rw [if_pos hm, if_pos (List.mem_append_left _ hm)]
                · rw [if_neg hm, if_neg (by simp [hm, hxq])]
            · rintro δ' ω' ⟨t8, fd', g1, g2, rfl, rfl⟩
              have el : (pc.map fun p : Str × Int => PyData.str p.1).length = (keysS pc).length := by rw [ekeys, List.length_map]
              rw [el, List.take_length] at g2
              have FM := F.merge G1 cl (fun x hx => hmin _ (List.mem_map.mpr ⟨x, hx, rfl⟩)) hlo pc5 g1 g2
              refine ⟨0, rfl, _, Kp.cons (Kp.refl _), _, _, _, _, _, _, _, fd', FM, ?_, rfl, rfl⟩
              rw [take_succ hr]
              intro x hx
              rw [← lookS_key, g2]
              by_cases hm : x ∈ keysS pc
              · rw [if_pos hm]
                rfl
              · rw [if_neg hm, lookS_key]
                rcases List.mem_append.mp hx with z | z
                · exact h1 x z
                · exact absurd (by rw [List.mem_singleton.mp z]; exact G1.st) hm
    · rintro δ' ω' ⟨s4, s5, s6, s7, s8, s9, s10, fd, F, h1, rfl, rfl⟩
      rw [List.length_map, List.take_length] at h1
      exact ⟨_, _, _, _, _, _, _, fd, F, h1, rfl, rfl⟩
  · rintro δ' ω' ⟨s4, s5, s6, s7, s8, s9, s10, fd, F, hall, rfl, rfl⟩
    refine rr_cut (fun δ' ω' => (∀ a b, adj rs a b = true → fv fd a - fv fd b = lead o o' a b) ∧ ∃ s9 s10, δ' = [.dt (webD ps rs), .dt (tS o), .dt (tS o'), .pt pf, s4, s5, s6, s7, s8, s9, s10] ∧ ω' = [(pf, .dk fd)]) ?_ ?_
    · refine rr_for T (fun j δ' ω' => (∀ r ∈ rs.take j, fv fd r.1 - fv fd r.2 = lead o o' r.1 r.2) ∧ ∃ s9 s10, δ' = [.dt (webD ps rs), .dt (tS o), .dt (tS o'), .pt pf, s4, s5, s6, s7, s8, s9, s10] ∧ ω' = [(pf, .dk fd)]) ?_
      walk_at "km"
      refine ox_ixT _ (i := 1) (d := .tuple (rs.map rdD)) rfl ?_
      refine ⟨_, rfl, ⟨(fun _ h => nomatch h), _, _, rfl, rfl⟩, fun _ _ _ _ => True.intro, ?_, ?_⟩
      · rintro j x δ' ω' hx ⟨g1, t9, t10, rfl, rfl⟩
        rw [List.getElem?_map] at hx
        cases hr : rs[j]? with
        | none => rw [hr] at hx; cases hx
        | some r =>
        rw [hr] at hx
        cases hx
        have mr := List.mem_of_getElem? hr
        obtain ⟨m1, m2, _⟩ := W.web.ends r mr
        walk_at "km"
        refine ⟨fd, r.1, _, rfl, ⟨pf, rfl, .inl (List.mem_cons_self ..)⟩, lookS_fv (hall _ m1), ?_⟩
        walk_at "km"
        refine ⟨fd, r.2, _, rfl, ⟨pf, rfl, .inl (List.mem_cons_self ..)⟩, lookS_fv (hall _ m2), ?_⟩
        walk_at "km"
        refine ⟨o, o', r.1, r.2, rfl, ⟨ho.mem_iff.mpr m1, ho.mem_iff.mpr m2, ho'.mem_iff.mpr m1, ho'.mem_iff.mpr m2⟩, ?_⟩
        refine ox_nei _ ?_
        refine ⟨_, rfl, ?_⟩
        by_cases he : fv fd r.1 - fv fd r.2 = lead o o' r.1 r.2
        · refine ifF (by rw [decide_eq_true he]; rfl) ?_
          walk_at "km"
          refine ⟨_, Kp.refl _, fun z hz => ?_, _, _, rfl, rfl⟩
          rw [take_succ hr] at hz
          rcases List.mem_append.mp hz with hz | hz
          · exact g1 z hz
          · rw [List.mem_singleton.mp hz]
            exact he
        · refine ifT (by rw [decide_eq_false he]; rfl) ?_
          walk_at "km"
          refine kp_end (kp_nil _) (q1 ?_)
          rintro ⟨f, hf⟩
          exact he (F.pot f hf r.1 (hall _ m1) r.2 (adj_iff.mpr (.inl mr)))
      · rintro δ' ω' ⟨g1, t9, t10, rfl, rfl⟩
        rw [List.length_map, List.take_length] at g1
        refine ⟨fun a b e => ?_, _, _, rfl, rfl⟩
        rcases adj_iff.mp e with z | z
        · exact g1 (a, b) z
        · have h1 := g1 (b, a) z
          have h2 := lead_anti (o := o) (o' := o') (fun x => by rw [ho.mem_iff, ho'.mem_iff]) a b
          rw [h2] at h1
          simp only at h1
          omega
    · rintro δ' ω' ⟨g1, t9, t10, rfl, rfl⟩
      walk_at "km"
      exact kp_end (Kp.refl _) (q2 pf fd F.nd (fun x => ⟨F.sub x, hall x⟩) ⟨g1, fun a ha => F.nn a (hall a ha)⟩ fun x hx => F.bd x (hall x hx))
end Km
/-! Text KmM4 -/
namespace Km
open PySem PySem.Spec PyProof.Rows L2 LamX
local macro_rules
  | `(tactic| walk_at "km1") => `(tactic| first
    | ((with_reducible apply ex_v); (focus rfl); (focus rfl))
    | with_reducible refine ex_int ?_
    | with_reducible refine ex_str ?_
    | with_reducible refine ex_bl ?_
    | with_reducible refine ex_non ?_
    | with_reducible refine ex_op ?_
    | with_reducible refine ex_un ?_
    | with_reducible refine ux_neg ?_
    | with_reducible refine ox_i0I ?_
    | with_reducible refine ox_i0B ?_
    | with_reducible refine ex_tup ?_
    | with_reducible refine ex_lst ?_
    | with_reducible refine ex_slT _ ?_
    | with_reducible refine ex_slL _ ?_
    | with_reducible refine px_none ?_
    | with_reducible refine px_some ?_
    | with_reducible refine ea_nil ?_
    | with_reducible refine ea_cons ?_
    | with_reducible refine ex_isi _ ?_
    | with_reducible refine ex_cb ?_
    | with_reducible refine ex_isN ?_
    | with_reducible refine ex_notN ?_
    | with_reducible refine ex_chain ?_
    | with_reducible refine ex_if ?_
    | with_reducible refine ex_and ?_
    | with_reducible refine ex_or ?_
    | with_reducible refine ex_not ?_
    | with_reducible refine ex_tix _ ?_
    | with_reducible refine ex_goD ?_
    | with_reducible refine ex_goN ?_
    | with_reducible refine ex_goF ?_
    | with_reducible refine ex_dget ?_
    | with_reducible refine ex_din ?_
    | with_reducible refine ex_dnotin ?_
    | with_reducible refine ex_dnew ?_
    | with_reducible refine et_test ?_
    | with_reducible refine et_val ?_
    | with_reducible refine et_and ?_
    | with_reducible refine et_or ?_
    | with_reducible refine et_not ?_
    | with_reducible refine et_yes ?_
    | with_reducible refine rr_seq ?_
    | with_reducible refine rr_asg ?_
    | with_reducible refine rr_ret ?_
    | with_reducible refine rr_retN ?_
    | with_reducible refine rr_drop ?_
    | with_reducible refine rr_if ?_
    | with_reducible refine rr_par ?_
    | with_reducible refine rr_next ?_
    | with_reducible refine rr_break ?_
    | with_reducible refine ix_tup _ ?_
    | with_reducible refine ix_range1 ?_
    | with_reducible refine ix_range2 ?_
    | with_reducible refine ix_down ?_
    | with_reducible refine ix_str ?_
    | with_reducible refine ix_keys ?_
    | with_reducible refine nb_dt ?_
    | with_reducible refine nb_pt ?_
    | with_reducible refine lc_name (by simp) ?_
    | with_reducible refine lc_pair (by simp) (by simp) ?_
    | with_reducible refine lc_new (by simp) (by simp) ?_
    | with_reducible refine for_name ?_
    | with_reducible refine for_pair ?_
    | with_reducible refine for_new ?_
    | with_reducible refine tup0 ?_
    | with_reducible refine tup1 ?_
    | with_reducible refine tup2 ?_
    | with_reducible refine tup3 ?_
    | with_reducible refine arg1 ?_
    | with_reducible refine arg2 ?_
    | with_reducible refine arg3 ?_
    | with_reducible refine arg4 ?_
    | with_reducible refine ⟨_, rfl, ?_⟩
    | with_reducible refine ⟨_, _, rfl, ?_⟩)
local macro_rules
  | `(tactic| walk_at "kms") => `(tactic| try simp (maxSteps := 2000) only [wipeS, List.map_cons, List.map_nil, List.set_cons_zero, List.set_cons_succ, Bool.false_eq_true, Bool.not_true, Bool.not_false, reduceIte])
local macro_rules
  | `(tactic| walk_at "km") => `(tactic| repeat (walk_at "km1"; walk_at "kms"))
local macro_rules
  | `(tactic| walk_at "kp") => `(tactic| repeat (first | exact Kp.refl _ | refine Kp.cons2 ?_ | refine Kp.cons ?_))
local macro_rules
  | `(tactic| walk_at "ls") => `(tactic| repeat (first | exact isLs_hd | exact isLs_bo | refine isLs_tl ?_))

variable {Tb : List (Addr × Str)} {P : Program} {w : World} {K : PySem.W.Frag} {mg : Str → Option Value} {base : Heap} {C : Addr}
/-! moves_between(web, order, other) -/
theorem fv_less (kvs : List (Str × Int)) (p : Str) : fv (putS kvs p (fv kvs p - 1)) = lessAt (fv kvs) p := by
  funext x
  rw [fv_put]
  unfold lessAt
  by_cases h : x = p
  · rw [if_pos h, if_pos h, h]
  · rw [if_neg h, if_neg h]
theorem isum_top {f : Str → Int} {b : Int} : ∀ {l : List Str}, (∀ a ∈ l, f a ≤ b) → isum f l ≤ b * l.length
  | [], _ => by simp [isum]
  | a :: l, h => by
    have h1 := isum_top (l := l) fun x hx => h x (List.mem_cons_of_mem _ hx)
    have h2 := h a (List.mem_cons_self ..)
    unfold isum
    rw [List.length_cons]
    have : b * ((l.length + 1 : Nat) : Int) = b * l.length + b := by
      rw [Int.natCast_add, Int.mul_add]
      simp
    omega
theorem vals_of_keys {kvs : List (Str × Int)} (nd : (keysS kvs).Nodup) {v : Int} : v ∈ kvs.map (·.2) ↔ ∃ x ∈ keysS kvs, fv kvs x = v := by
  constructor
  · intro h
    obtain ⟨q, hq, e⟩ := List.mem_map.mp h
    refine ⟨q.1, List.mem_map.mpr ⟨q, hq, rfl⟩, ?_⟩
    unfold fv
    rw [lookS_mem nd (show (q.1, q.2) ∈ kvs from hq)]
    exact e
  · rintro ⟨x, hx, e⟩
    have := lookS_fv hx
    unfold lookS at this
    cases hf : kvs.find? (fun p => decide (p.1 = x)) with
    | none => rw [hf] at this; cases this
    | some q =>
      rw [hf] at this
      have e2 : q.2 = fv kvs x := Option.some.inj this
      exact List.mem_map.mpr ⟨q, List.mem_of_find?_eq_some hf, e2.trans e⟩
def nah (rs : List (Str × Str)) (held : List Str) (y : Str) : Bool := decide (∀ q ∈ held.take (held.idxOf y), adj rs y q = false)
abbrev R_moves_between : Prm := fun δ ω Φ => ω = [] ∧ ∃ (ps : List Str) (rs : List (Str × Str)) (o o' : List Str), δ = [.dt (webD ps rs), .dt (tS o), .dt (tS o')] ∧ WebV ps rs ∧ o.Perm ps ∧ o'.Perm ps ∧
  (¬ Pot rs (lead o o') → Φ (.dt .none) []) ∧ ∀ (p : Addr) (ms : List Mv), run rs o ms = some o' → ms.length ≤ 100000 → Φ (.pt p) [(p, .ls (ms.map mvD))]
theorem ok_moves_between (G : Glob Tb base K mg C) : OkF Tb P w K mg base 6 "moves_between" ["web", "order", "other"] R_moves_between := by
  refine okF_of 5 G.d_moves_between sc_moves_between (fun F => F.bindsN fun _ _ _ _ _ _ us hl => match us, hl with | [_, _, _], _ => rfl) (fun f cdv A outer s H E hr => ?_)
  have sc := sc_moves_between
  have hv := hv_of hr
  have hu := hu_of hr
  have ok_Mover_init_ := ok_Mover_init (Tb := Tb) (P := P) (w := w) (base := base) G
  have ok_Mover_follow_ := ok_Mover_follow (Tb := Tb) (P := P) (w := w) (base := base) G
  have ok_Mover_has_none_ahead_ := ok_Mover_has_none_ahead (Tb := Tb) (P := P) (w := w) (base := base) G
  have ok_Mover_turn_place_ := ok_Mover_turn_place (Tb := Tb) (P := P) (w := w) (base := base) G
  have ok_turns_wanted_ := ok_turns_wanted (Tb := Tb) (P := P) (w := w) (base := base) G
  refine ⟨_, (pss_cons (ps_set (i := 3) sc.nd rfl (Or.inr rfl) (pe_go 3 ok_turns_wanted_ (hr.mono (by decide)) rfl (pa_cons (pv 0) (pa_cons (pv 1) (pa_cons (pv 2) pa_nil)))))
  (pss_cons (ps_if (pt_cmp (pc_isN (pv 3)) (by rfl)) (pss_one (ps_ret pe_non)) pss_nil)
  (pss_cons (ps_set (i := 4) sc.nd rfl (Or.inr rfl) (pe_makeM 3 ok_Mover_init_ (hr.mono (by decide)) rfl G.cM (pa_cons (pv 0) (pa_cons (pv 1) pa_nil))))
  (pss_cons (ps_while PassesOwn.never (pt_val (pe_callB (cr_anyI rfl) (by rfl) G.f_any (by decide +kernel) (pa_cons (pe_listVals rfl (by rfl) G.f_list (pv 3)) pa_nil))) (pss_cons (ps_set (i := 5) sc.nd rfl (Or.inr rfl) (pe_callB (cr_max rfl) (by rfl) G.f_max (by decide +kernel) (pa_cons (pe_listVals rfl (by rfl) G.f_list (pv 3)) pa_nil)))
  (pss_cons (ps_set (i := 6) sc.nd rfl (Or.inl rfl) (pe_ix L2.ix_list (pe_lc (own := [("one", 7)]) (g := (gName 7)) rfl sc.nd (pi_tup (pe_fld (pv 4) (by rfl))) (blkOk_by (N := N_moves_between) (sc := defScope s_moves_between) (by decide +kernel)) (fun _ _ _ _ _ => (pg_name (i := 7) sc.nd rfl (Or.inl rfl))) (fun _ _ _ _ _ => pts_one (PW.pt (pw_and (pt_cmpR (r := rEqD K) (op_eqD hr.units) (pe_dget hu (pv 3) (pv 7) (fun _ _ => rfl)) (pv 5) (nomark _)) (pw_and1 (pt_val (pe_mv 2 G.cls ok_Mover_has_none_ahead_ (hr.mono (by decide)) (pv 4) (pa_cons (pv 7) pa_nil))))))) (fun _ _ _ _ _ => (pv 7))) pe_int (fun _ _ => rfl)))
  (pss_cons (ps_expr (pe_mv 2 G.cls ok_Mover_turn_place_ (hr.mono (by decide)) (pv 4) (pa_cons (pv 6) pa_nil)))
  (pss_one (ps_daug hu (pv 3) (pv 6) pe_int in_sub (fun _ _ _ => rfl)))))))
  (pss_cons (ps_expr (pe_mv 2 G.cls ok_Mover_follow_ (hr.mono (by decide)) (pv 4) (pa_cons (pv 2) pa_nil)))
  (pss_one (ps_ret (pe_fld (pv 4) (by rfl))))))))), ?_⟩
  clear sc hu
  rintro δ ω Φ ⟨rfl, ps, rs, o, o', rfl, W, ho, ho', q1, q2⟩
  have p5 := W.p5
  have hl := W.law
  show RR Tb _ [.dt (webD ps rs), .dt (tS o), .dt (tS o'), .un, .un, .un, .un, .un] [] _
  refine rr_seq ?_
  refine rr_asg ?_
  refine ex_go ?_
  walk_at "km"
  refine ⟨rfl, [], [], [.dt (webD ps rs), .dt (tS o), .dt (tS o')], fun s ω' => (s = .dt .none ∧ ω' = [] ∧ ¬ Pot rs (lead o o')) ∨ ∃ p kvs, s = .pt p ∧ ω' = [(p, .dk kvs)] ∧ (keysS kvs).Nodup ∧ (∀ x, x ∈ keysS kvs ↔ x ∈ ps) ∧ Left rs ps (fv kvs) o o' ∧ (∀ x ∈ ps, fv kvs x ≤ 10), List.Perm.refl _, conv_data [] [webD ps rs, tS o, tS o'], ⟨rfl, ps, rs, o, o', rfl, W, ho, ho', fun h => .inl ⟨rfl, rfl, h⟩, fun p kvs h1 h2 h3 h4 => .inr ⟨p, kvs, rfl, rfl, h1, h2, h3, h4⟩⟩, ?_⟩
  rintro s0 ω' _ (⟨rfl, rfl, hno⟩ | ⟨pd, kvs0, rfl, rfl, k1, k2, k3, k4⟩)
  · walk_at "km"
    refine ⟨true, rfl, _, rfl, ifT rfl ?_⟩
    walk_at "km"
    exact kp_end (Kp.refl _) (q1 hno)
  walk_at "km"
  refine ⟨false, rfl, _, rfl, ifF rfl ?_⟩
  walk_at "km"
  refine ex_make ?_
  walk_at "km"
  refine ⟨rfl, [webD ps rs, tS o], rfl, fun x dx => ⟨fun s ω' => s = .dt .none ∧ ∃ m, ω' = mvS C x dx m ps rs o [], ⟨x, dx, ps, rs, o, rfl, rfl, fun m => ⟨rfl, m, rfl⟩⟩, ?_⟩⟩
  rintro s ω' ⟨rfl, m, rfl⟩
  refine ⟨rfl, ?_⟩
  have hs0 := isum_top (f := fv kvs0) (b := 10) (l := ps) k4
  refine rr_cut (fun δ' ω' => ∃ s5 s6 s7 kvs held ms, AlikeO rs held o' ∧ held.Perm ps ∧ run rs o ms = some held ∧ ms.length ≤ 500 ∧ δ' = [.dt (webD ps rs), .dt (tS o), .dt (tS o'), .pt pd, .pt x, s5, s6, s7] ∧ Kp ω' (mvS C x dx m ps rs held ms ++ [(pd, .dk kvs)])) ?_ ?_
  · refine rr_while (fun n δ' ω' => ∃ s5 s6 s7 kvs held ms, (keysS kvs).Nodup ∧ (∀ x, x ∈ keysS kvs ↔ x ∈ ps) ∧ Left rs ps (fv kvs) held o' ∧ held.Perm ps ∧ run rs o ms = some held ∧ (isum (fv kvs) ps).toNat = n ∧ n ≤ 50 ∧ ms.length ≤ 10 * (50 - n) ∧ δ' = [.dt (webD ps rs), .dt (tS o), .dt (tS o'), .pt pd, .pt x, s5, s6, s7] ∧ ω' = mvS C x dx m ps rs held ms ++ [(pd, .dk kvs)])
      (isum (fv kvs0) ps).toNat ⟨_, _, _, kvs0, o, [], k1, k2, k3, ho, rfl, rfl, by omega, Nat.zero_le _, rfl, rfl⟩ ?_
    rintro n δ' ω' ⟨s5, s6, s7, kvs, held, ms, g1, g2, g3, hh, g5, g6, g7, g8, rfl, rfl⟩
    have kl := keys_len g1 (fun x hx => (g2 x).mp hx) p5
    have hhl := hh.length_eq
    walk_at "km"
    refine ex_listVals ?_
    walk_at "km"
    refine ⟨pd, kvs, rfl, by simp [mvS], fun pv => ?_⟩
    walk_at "km"
    have evals : (kvs.map fun q : Str × Int => PyData.int q.2) = (kvs.map (·.2)).map PyData.int := by
      rw [List.map_map]
      rfl
    refine kx_anyI _ (ns := kvs.map (·.2)) (by rw [← evals]; exact isLs_hd) ?_
    refine ⟨_, rfl, ?_⟩
    by_cases hz : ∀ v ∈ kvs.map (·.2), v = 0
    · have e0 : ((kvs.map (·.2)).map nz).any id = false := by
        rw [List.any_map, List.any_eq_false]
        intro v hv
        simp [nz, hz v hv]
      refine ifF e0 ?_
      walk_at "km"
      exact ⟨_, _, _, kvs, held, ms, g3.alike W.web fun a ha => hz _ ((vals_of_keys g1).mpr ⟨a, (g2 a).mpr ha, rfl⟩), hh, g5, by omega, rfl, Kp.cons (Kp.refl _)⟩
    · have e1 : ((kvs.map (·.2)).map nz).any id = true := by
        rw [List.any_map, List.any_eq_true]
        refine Classical.byContradiction fun hc => hz fun v hv => Classical.byContradiction fun hne => hc ⟨v, hv, ?_⟩
        show nz v = true
        unfold nz
        exact decide_eq_true hne
      refine ifT e1 ?_
      refine rr_kp (Kp.cons (Kp.refl _)) ?_
      walk_at "km"
      refine ex_listVals ?_
      walk_at "km"
      refine ⟨pd, kvs, rfl, by simp [mvS], fun pv2 => ?_⟩
      walk_at "km"
      refine kx_max _ (ns := kvs.map (·.2)) (by rw [← evals]; exact isLs_hd) ?_ fun most hmm hmx => ?_
      · rw [List.length_map]
        refine Nat.pos_of_ne_zero fun e => hz fun v hv => ?_
        rw [List.eq_nil_of_length_eq_zero e] at hv
        cases hv
      refine rr_kp (Kp.cons (Kp.refl _)) ?_
      walk_at "km"
      refine ex_lcM T PyData.str str_inj PyData.str held (fun y => if (decide (fv kvs y = most) && nah rs held y) = true then some y else none) ?_
      refine ix_tup _ ?_
      refine ex_held _ (a := x) (dx := dx) (m := m) (w := webD ps rs) (hd := tS held) G.cls G.na_held ?_
      walk_at "km"
      refine ⟨trivial, List.mem_cons_self .., ?_⟩
      refine ⟨_, rfl, rfl, by omega, fun _ => True.intro, fun y hy => ?_, fun D => ?_⟩
      · walk_at "km"
        intro D2 acc
        walk_at "km"
        refine ⟨kvs, y, fv kvs y, rfl, ⟨pd, rfl, .inl (by simp [mvS])⟩, lookS_fv ((g2 y).mpr (hh.mem_iff.mp hy)), ?_⟩
        walk_at "km"
        refine ox_eqi _ ?_
        refine ⟨_, rfl, ?_⟩
        by_cases hm : fv kvs y = most
        · refine ifT (decide_eq_true hm) ?_
          obtain ⟨u, v, e⟩ := List.append_of_mem hy
          have hn : (u ++ y :: v).Nodup := by
            rw [← e]
            exact hh.nodup_iff.mpr W.web.nd
          have hu : y ∉ u := fun z => (List.nodup_append.mp hn).2.2 y z y (List.mem_cons_self ..) rfl
          have enah : nah rs held y = decide (∀ q ∈ u, adj rs y q = false) := by
            unfold nah
            rw [e, List.idxOf_append, if_neg hu, List.idxOf_cons_self, Nat.zero_add, List.take_left]
          walk_at "km"
          refine ex_mvc (by decide) ?_
          walk_at "km"
          refine ⟨x, dx, m, ps, rs, _, _, [(D2, .ls acc), (pd, .dk kvs)], rfl, List.perm_middle, ?_⟩
          walk_at "km"
          refine ⟨trivial, [.str y], rfl, rfl, x, dx, m, ps, rs, u, v, y, ms, rfl, by rw [e], W, by rw [← e]; exact hh, ?_⟩
          rw [← enah, ← e]
          refine ⟨_, rfl, ?_⟩
          cases hna : nah rs held y with
          | true =>
            refine ifT rfl ?_
            walk_at "km"
            exact ⟨by rw [decide_eq_true hm]; rfl, ⟨_, List.Sublist.refl _, List.perm_middle.symm⟩⟩
          | false =>
            refine ifF rfl ⟨by rw [Bool.and_false]; rfl, ⟨_, List.Sublist.refl _, List.perm_middle.symm⟩⟩
        · refine ifF (decide_eq_false hm) ⟨by rw [decide_eq_false hm]; rfl, Kp.refl _⟩
      · have hex : ∃ z ∈ held, (decide (fv kvs z = most) && nah rs held z) = true := by
          obtain ⟨p0, hp0, ep0⟩ := (vals_of_keys g1).mp hmm
          have mp0 : p0 ∈ held := hh.mem_iff.mpr ((g2 p0).mp hp0)
          obtain ⟨u, p, v, e, ep, hf⟩ := split_first (f := fv kvs) (m := most) ⟨p0, mp0, ep0⟩
          have hna := g3.first W.web hh e (fun a ha => by rw [ep]; exact hmx _ ((vals_of_keys g1).mpr ⟨a, (g2 a).mpr ha, rfl⟩)) (fun q hq => by rw [ep]; exact hf q hq)
          have hu : p ∉ u := fun z => hf p z ep
          refine ⟨p, by rw [e]; simp, ?_⟩
          have enah : nah rs held p = true := by
            unfold nah
            rw [e, List.idxOf_append, if_neg hu, List.idxOf_cons_self, Nat.zero_add, List.take_left]
            exact decide_eq_true hna
          rw [decide_eq_true ep, enah]
          rfl
        obtain ⟨p, rest, efm⟩ : ∃ p rest, held.filterMap (fun y => if (decide (fv kvs y = most) && nah rs held y) = true then some y else none) = p :: rest := by
          obtain ⟨z, hz1, hz2⟩ := hex
          cases hfm : held.filterMap (fun y => if (decide (fv kvs y = most) && nah rs held y) = true then some y else none) with
          | nil =>
            have : z ∈ held.filterMap (fun y => if (decide (fv kvs y = most) && nah rs held y) = true then some y else none) := List.mem_filterMap.mpr ⟨z, hz1, by rw [if_pos hz2]⟩
            rw [hfm] at this
            cases this
          | cons p rest => exact ⟨p, rest, rfl⟩
        have hp : p ∈ held ∧ fv kvs p = most ∧ nah rs held p = true := by
          have : p ∈ held.filterMap (fun y => if (decide (fv kvs y = most) && nah rs held y) = true then some y else none) := by rw [efm]; exact List.mem_cons_self ..
          obtain ⟨z, hz1, hz2⟩ := List.mem_filterMap.mp this
          by_cases hc : (decide (fv kvs z = most) && nah rs held z) = true
          · rw [if_pos hc] at hz2
            cases hz2
            rw [Bool.and_eq_true] at hc
            exact ⟨hz1, of_decide_eq_true hc.1, hc.2⟩
          · rw [if_neg hc] at hz2
            cases hz2
        obtain ⟨hp1, hp2, hp3⟩ := hp
        rw [efm]
        obtain ⟨u, v, e⟩ := List.append_of_mem hp1
        have hn : (u ++ p :: v).Nodup := by
          rw [← e]
          exact hh.nodup_iff.mpr W.web.nd
        have hu : p ∉ u := fun z => (List.nodup_append.mp hn).2.2 p z p (List.mem_cons_self ..) rfl
        have hna : ∀ q ∈ u, adj rs p q = false := by
          unfold nah at hp3
          rw [e, List.idxOf_append, if_neg hu, List.idxOf_cons_self, Nat.zero_add, List.take_left] at hp3
          exact of_decide_eq_true hp3
        have mpp : p ∈ ps := hh.mem_iff.mp hp1
        have hpos : 1 ≤ fv kvs p := by
          have h0 := g3.nn p mpp
          refine Classical.byContradiction fun hc => hz fun w hw => ?_
          have h1 := hmx w hw
          obtain ⟨a, ha, ea⟩ := (vals_of_keys g1).mp hw
          have h2 := g3.nn a ((g2 a).mp ha)
          omega
        subst e
        have gT := g3.turn W.web hh hna hpos
        have hrun := run_trans g5 (turn_place (v := v) hna)
        have pT : (u ++ v ++ [p]).Perm ps := (run_perm (turn_place (rs := rs) (v := v) hna)).trans hh
        have hsum := isum_less (f := fv kvs) (p := p) W.web.nd
        rw [if_pos mpp] at hsum
        have hnn : 1 ≤ isum (fv kvs) ps := by
          have := (isum_nn (f := lessAt (fv kvs) p) (l := ps) fun a ha => gT.nn a ha).1
          omega
        rw [List.length_append, List.length_cons] at hhl
        walk_at "km"
        refine ox_ixLM _ (f := PyData.str) (l := p :: rest) isLs_hd (z := p) (atI_nat (j := 0) rfl) ?_
        refine rr_kp (Kp.cons (Kp.refl _)) ?_
        walk_at "km"
        refine ex_mvc (by decide) ?_
        walk_at "km"
        refine ⟨x, dx, m, ps, rs, _, _, [(pd, .dk kvs)], rfl, List.Perm.refl _, ?_⟩
        walk_at "km"
        refine ⟨trivial, [.str p], rfl, rfl, x, dx, m, ps, rs, u, v, p, ms, rfl, rfl, hu, by omega, by omega, ?_⟩
        refine rr_daug (fun i m => i - m) (fun a b H Q q => ⟨a, b, rfl, rfl, q⟩) 2 ?_
        walk_at "km"
        refine ⟨pd, kvs, p, fv kvs p, rfl, rfl, ⟨pd, rfl, .inl (by simp [mvS])⟩, lookS_fv ((g2 p).mpr mpp), ?_⟩
        walk_at "km"
        have ek : ∀ x, x ∈ keysS (putS kvs p (fv kvs p - 1)) ↔ x ∈ ps := fun x => by
          rw [keys_put_mem, g2]
          exact ⟨fun z => z.elim (fun e => e ▸ mpp) id, .inr⟩
        refine ⟨rfl, few_lt (by omega), (isum (lessAt (fv kvs) p) ps).toNat, _, by omega, Kp.refl _, _, _, _, putS kvs p (fv kvs p - 1), u ++ v ++ [p], ms ++ ((downs 0 u.length).map Mv.swap ++ [Mv.turn]), keys_put_nd g1, ek, by rw [fv_less]; exact gT, pT, hrun, by rw [fv_less], by omega, ?_, rfl, rfl⟩
        simp only [List.length_append, List.length_map, downs_len, List.length_cons, List.length_nil]
        omega
  · rintro δ' ω' ⟨s5, s6, s7, kvs, held, ms, g1, hh, g5, g8, rfl, kp⟩
    refine rr_kp kp ?_
    walk_at "km"
    refine ex_mvc (by decide) ?_
    walk_at "km"
    refine ⟨x, dx, m, ps, rs, _, _, [(pd, .dk kvs)], rfl, List.Perm.refl _, ?_⟩
    walk_at "km"
    refine ⟨trivial, [tS o'], rfl, rfl, x, dx, m, ps, rs, held, o', ms, rfl, rfl, W, hh, ho', g1, by omega, fun is hr hl => ?_⟩
    walk_at "km"
    refine ex_moves _ (a := x) (dx := dx) (m := m) (w := webD ps rs) (hd := tS o') G.cls G.na_moves ?_
    walk_at "km"
    refine ⟨trivial, by simp [mvS], (fun _ z => nomatch z), ?_⟩
    refine kp_end (Kp.cons (Kp.cons2 (kp_nil _))) (q2 m (ms ++ is.map Mv.swap) (run_trans g5 hr) ?_)
    rw [List.length_append, List.length_map]
    omega
end Km
/-! Text KmN -/
namespace Km
open PySem PySem.Spec PyProof.Rows L2 LamX
local macro_rules
  | `(tactic| walk_at "km1") => `(tactic| first
    | ((with_reducible apply ex_v); (focus rfl); (focus rfl))
    | with_reducible refine ex_int ?_
    | with_reducible refine ex_str ?_
    | with_reducible refine ex_bl ?_
    | with_reducible refine ex_non ?_
    | with_reducible refine ex_op ?_
    | with_reducible refine ex_un ?_
    | with_reducible refine ux_neg ?_
    | with_reducible refine ox_i0I ?_
    | with_reducible refine ox_i0B ?_
    | with_reducible refine ex_tup ?_
    | with_reducible refine ex_lst ?_
    | with_reducible refine ex_slT _ ?_
    | with_reducible refine ex_slL _ ?_
    | with_reducible refine px_none ?_
    | with_reducible refine px_some ?_
    | with_reducible refine ea_nil ?_
    | with_reducible refine ea_cons ?_
    | with_reducible refine ex_isi _ ?_
    | with_reducible refine ex_cb ?_
    | with_reducible refine ex_isN ?_
    | with_reducible refine ex_notN ?_
    | with_reducible refine ex_chain ?_
    | with_reducible refine ex_if ?_
    | with_reducible refine ex_and ?_
    | with_reducible refine ex_or ?_
    | with_reducible refine ex_not ?_
    | with_reducible refine ex_tix _ ?_
    | with_reducible refine ex_goD ?_
    | with_reducible refine ex_goN ?_
    | with_reducible refine ex_goF ?_
    | with_reducible refine ex_dget ?_
    | with_reducible refine ex_din ?_
    | with_reducible refine ex_dnotin ?_
    | with_reducible refine ex_dnew ?_
    | with_reducible refine et_test ?_
    | with_reducible refine et_val ?_
    | with_reducible refine et_and ?_
    | with_reducible refine et_or ?_
    | with_reducible refine et_not ?_
    | with_reducible refine et_yes ?_
    | with_reducible refine rr_seq ?_
    | with_reducible refine rr_asg ?_
    | with_reducible refine rr_ret ?_
    | with_reducible refine rr_retN ?_
    | with_reducible refine rr_drop ?_
    | with_reducible refine rr_if ?_
    | with_reducible refine rr_par ?_
    | with_reducible refine rr_next ?_
    | with_reducible refine rr_break ?_
    | with_reducible refine ix_tup _ ?_
    | with_reducible refine ix_range1 ?_
    | with_reducible refine ix_range2 ?_
    | with_reducible refine ix_down ?_
    | with_reducible refine ix_str ?_
    | with_reducible refine ix_keys ?_
    | with_reducible refine nb_dt ?_
    | with_reducible refine nb_pt ?_
    | with_reducible refine lc_name (by simp) ?_
    | with_reducible refine lc_pair (by simp) (by simp) ?_
    | with_reducible refine lc_new (by simp) (by simp) ?_
    | with_reducible refine for_name ?_
    | with_reducible refine for_pair ?_
    | with_reducible refine for_new ?_
    | with_reducible refine tup0 ?_
    | with_reducible refine tup1 ?_
    | with_reducible refine tup2 ?_
    | with_reducible refine tup3 ?_
    | with_reducible refine arg1 ?_
    | with_reducible refine arg2 ?_
    | with_reducible refine arg3 ?_
    | with_reducible refine arg4 ?_
    | with_reducible refine ⟨_, rfl, ?_⟩
    | with_reducible refine ⟨_, _, rfl, ?_⟩)
local macro_rules
  | `(tactic| walk_at "kms") => `(tactic| try simp (maxSteps := 2000) only [wipeS, List.map_cons, List.map_nil, List.set_cons_zero, List.set_cons_succ, Bool.false_eq_true, Bool.not_true, Bool.not_false, reduceIte])
local macro_rules
  | `(tactic| walk_at "km") => `(tactic| repeat (walk_at "km1"; walk_at "kms"))
local macro_rules
  | `(tactic| walk_at "kp") => `(tactic| repeat (first | exact Kp.refl _ | refine Kp.cons2 ?_ | refine Kp.cons ?_))
local macro_rules
  | `(tactic| walk_at "ls") => `(tactic| repeat (first | exact isLs_hd | exact isLs_bo | refine isLs_tl ?_))

variable {Tb : List (Addr × Str)} {P : Program} {w : World} {K : PySem.W.Frag} {mg : Str → Option Value} {base : Heap} {C : Addr}
theorem rr_asgP (K : PySem.W.Frag) {te : TE} {δ : List Sl} {ω : Om} {Q : Po} {i j : Nat} (h : EX Tb te δ ω fun s ω' => ∃ d1 d2, s = .dt (.tuple [d1, d2]) ∧ Q.nx ((δ.set i (.dt d1)).set j (.dt d2)) ω') :
    RR Tb (tAsg te (gTup K 2 (gCons (gName i) (gCons (gName j) gNil)))) δ ω Q := fun B σ H D S k1 _ _ _ => h B σ H _ S fun v s ω' H' q e k p => by
  obtain ⟨d1, d2, rfl, q⟩ := q
  exact gx_pair (K := K) Tb B σ H' v ω' _ (S.re e p) k.data fun σ' S' _ => k1 _ ω' σ' H' q e S'
structure WebN (ps : List Str) (rs : List (Str × Str)) : Prop where
  v : WebV ps rs
  n : ∀ z ∈ ps, z ∈ theNames
/-! are_unlike(things) -/
abbrev R_are_unlike : Prm := fun δ ω Φ => ω = [] ∧ ((∃ xs : List Str, δ = [.dt (tS xs)] ∧ xs.Nodup ∧ xs.length < 64) ∨ (∃ ls : List (List Str), δ = [.bo (.ls (ls.map tS))] ∧ ls.Nodup ∧ ls.length ≤ 16)) ∧ Φ (.dt (.bool true)) []
theorem ok_are_unlike (G : Glob Tb base K mg C) : OkF Tb P w K mg base 2 "are_unlike" ["things"] R_are_unlike := by
  refine okF_of 1 G.d_are_unlike sc_are_unlike (fun F => F.bindsN fun _ _ _ _ _ _ us hl => match us, hl with | [_], _ => rfl) (fun f cdv A outer s H E hr => ?_)
  have sc := sc_are_unlike
  have hv := hv_of hr
  have hu := hu_of hr
  refine ⟨_, (pss_one (ps_ret (pe_cmpR (op_eqD hr.units) (pe_lenSetD hr.units (by rfl) rfl G.f_len rfl G.f_set (pv 0)) (pe_callB cr_lenQ (by rfl) G.f_len (by decide +kernel) (pa_cons (pv 0) pa_nil)) (nomark _)))), ?_⟩
  clear sc hu
  rintro δ ω Φ ⟨rfl, (⟨xs, rfl, nd, few⟩ | ⟨ls, rfl, nd, few⟩), q⟩
  · show RR Tb _ [.dt (tS xs)] [] _
    walk_at "km"
    refine ex_lenSetT _ ?_
    walk_at "km"
    refine ⟨nd, few, ?_⟩
    walk_at "km"
    refine kx_lenT _ ?_
    refine ox_eqi _ ?_
    rw [List.length_map, decide_eq_true rfl]
    walk_at "km"
    exact kp_end (Kp.refl _) q
  · show RR Tb _ [.bo (.ls (ls.map tS))] [] _
    walk_at "km"
    refine ex_lenSetL _ ?_
    walk_at "km"
    refine ⟨ls, isLs_bo, nd, few, ?_⟩
    walk_at "km"
    refine kx_lenL _ isLs_bo ?_
    refine ox_eqi _ ?_
    walk_at "km"
    rw [List.length_map, decide_eq_true rfl]
    exact kp_end (Kp.refl _) q
/-! are_places(places, thing) -/
abbrev R_are_places : Prm := pureR fun ds k => ∃ (ps l : List Str), ds = [tS ps, tS l] ∧ Lawful ps ∧ (∀ y ∈ l, y ∈ ps) ∧ l.Nodup ∧ l.length ≤ 5 ∧ k (.bool true)
theorem ok_are_places (G : Glob Tb base K mg C) : OkF Tb P w K mg base 3 "are_places" ["places", "thing"] R_are_places := by
  refine okF_of 2 G.d_are_places sc_are_places (fun F => F.bindsN fun _ _ _ _ _ _ us hl => match us, hl with | [_, _], _ => rfl) (fun f cdv A outer s H E hr => ?_)
  have sc := sc_are_places
  have hv := hv_of hr
  have hu := hu_of hr
  have ok_are_unlike_ := ok_are_unlike (Tb := Tb) (P := P) (w := w) (base := base) G
  refine ⟨_, (pss_one (ps_ret (pe_and (pe_callB (cr_all rfl) (by rfl) G.f_all (by decide +kernel) (pa_cons (pe_lc (own := [("place", 2)]) (g := (gName 2)) rfl sc.nd (pi_tup (pv 1)) (blkOk_by (N := N_are_places) (sc := defScope s_are_places) (by decide +kernel)) (fun _ _ _ _ _ => (pg_name (i := 2) sc.nd rfl (Or.inl rfl))) (fun _ _ _ _ _ => pts_nil) (fun _ _ _ _ _ => (pe_and (pe_callB (r := rIsi K) call_isi (by rfl) G.f_isinstance (by decide +kernel) (pa_cons (pv 2) (pa_cons (pe_bltn (v := .ty "str") (by rfl) G.f_str (by decide +kernel) rfl) pa_nil))) (pe_one (pe_cmpR (r := rInTp K) (op_inTp hv) (pv 2) (pv 0) (by rfl)))))) pa_nil)) (pe_one (pe_go 1 ok_are_unlike_ (hr.mono (by decide)) rfl (pa_cons (pv 1) pa_nil)))))), ?_⟩
  clear sc hu
  rintro δ ω Φ ⟨rfl, ds, rfl, ps, l, rfl, law, sub, nd, h5, q⟩
  show RR Tb _ [.dt (tS ps), .dt (tS l), .un] [] _
  walk_at "km"
  refine ex_lcM T PyData.str str_inj PyData.bool l (fun _ => some true) ?_
  walk_at "km"
  refine ⟨trivial, by omega, fun _ => True.intro, fun y hy => ?_, fun p => ?_⟩
  · walk_at "km"
    intro D acc
    walk_at "km"
    refine isi_d true kit_ss ?_
    walk_at "km"
    refine ox_in _ 1 (okd_s 1 (law y (sub y hy))) (okd_tS law) (by decide) fun b hb => ?_
    have e : b = true := hb.mpr (List.mem_map.mpr ⟨y, sub y hy, rfl⟩)
    subst e
    walk_at "km"
    exact ⟨trivial, Kp.refl _⟩
  · walk_at "km"
    rw [filterMap_some]
    refine kx_all _ (bs := l.map fun _ => true) (by simpa using isLs_hd) ?_
    walk_at "km"
    refine ifT (by simp) ?_
    refine ex_go ?_
    walk_at "km"
    refine ⟨rfl, [], _, [.dt (tS l)], fun s ω' => s = .dt (.bool true) ∧ ω' = [], List.Perm.refl _, .dt .nil, ⟨rfl, .inl ⟨l, rfl, nd, by omega⟩, rfl, rfl⟩, ?_⟩
    rintro s ω' _ ⟨rfl, rfl⟩
    exact ⟨(fun _ z => nomatch z), kp_end (Kp.cons (Kp.refl _)) q⟩
/-! is_road(places, thing) -/
abbrev R_is_road : Prm := pureR fun ds k => ∃ (ps : List Str) (p : Str × Str), ds = [tS ps, rdD p] ∧ Lawful ps ∧ p.1 ∈ ps ∧ p.2 ∈ ps ∧ p.1 ≠ p.2 ∧ k (.bool true)
theorem ok_is_road (G : Glob Tb base K mg C) : OkF Tb P w K mg base 4 "is_road" ["places", "thing"] R_is_road := by
  refine okF_of 3 G.d_is_road sc_is_road (fun F => F.bindsN fun _ _ _ _ _ _ us hl => match us, hl with | [_, _], _ => rfl) (fun f cdv A outer s H E hr => ?_)
  have sc := sc_is_road
  have hv := hv_of hr
  have hu := hu_of hr
  have ok_are_places_ := ok_are_places (Tb := Tb) (P := P) (w := w) (base := base) G
  have ok_is_row_of_ := ok_is_row_of (Tb := Tb) (P := P) (w := w) (base := base) G
  refine ⟨_, (pss_one (ps_ret (pe_and (pe_go 3 ok_is_row_of_ (hr.mono (by decide)) rfl (pa_cons (pv 1) (pa_cons pe_int (pa_cons pe_int pa_nil)))) (pe_one (pe_go 2 ok_are_places_ (hr.mono (by decide)) rfl (pa_cons (pv 0) (pa_cons (pv 1) pa_nil))))))), ?_⟩
  clear sc hu
  rintro δ ω Φ ⟨rfl, ds, rfl, ps, p, rfl, law, h1, h2, ne, q⟩
  show RR Tb _ [.dt (tS ps), .dt (rdD p)] [] _
  walk_at "km"
  refine ⟨_, _, _, rfl, by simp, by simp, ?_⟩
  walk_at "km"
  refine ⟨ps, [p.1, p.2], rfl, law, ?_, ?_, by simp, ?_⟩
  · intro y hy
    rcases List.mem_cons.mp hy with rfl | hy
    · exact h1
    · rw [List.mem_singleton.mp hy]; exact h2
  · exact List.nodup_cons.mpr ⟨fun h => ne (List.mem_singleton.mp h), List.nodup_cons.mpr ⟨fun h => (nomatch h), List.nodup_nil⟩⟩
  · exact ⟨(fun _ z => nomatch z), kp_end (Kp.refl _) q⟩
/-! is_web_form(thing) -/
abbrev R_is_web_form : Prm := pureR fun ds k => ∃ (ps : List Str) (rs : List (Str × Str)), ds = [webD ps rs] ∧ WebN ps rs ∧ k (.bool true)
theorem ok_is_web_form (G : Glob Tb base K mg C) : OkF Tb P w K mg base 5 "is_web_form" ["thing"] R_is_web_form := by
  refine okF_of 4 G.d_is_web_form sc_is_web_form (fun F => F.bindsN fun _ _ _ _ _ _ us hl => match us, hl with | [_], _ => rfl) (fun f cdv A outer s H E hr => ?_)
  have sc := sc_is_web_form
  have hv := hv_of hr
  have hu := hu_of hr
  have ok_are_unlike_ := ok_are_unlike (Tb := Tb) (P := P) (w := w) (base := base) G
  have ok_is_name_ := ok_is_name (Tb := Tb) (P := P) (w := w) (base := base) G
  have ok_is_road_ := ok_is_road (Tb := Tb) (P := P) (w := w) (base := base) G
  have ok_is_row_of_ := ok_is_row_of (Tb := Tb) (P := P) (w := w) (base := base) G
  refine ⟨_, (pss_cons (ps_if (PW.pt (pw_or (pt_not (pt_val (pe_go 3 ok_is_row_of_ (hr.mono (by decide)) rfl (pa_cons (pv 0) (pa_cons pe_int (pa_cons pe_int pa_nil)))))) (pw_or1 (pt_not (pt_val (pe_go 3 ok_is_row_of_ (hr.mono (by decide)) rfl (pa_cons (pe_ix L2.ix_tup (pv 0) pe_int (fun _ _ => rfl)) (pa_cons pe_int (pa_cons (pe_glob (v := .int 8) (by rfl) G.g_MOST_PLACES.choose_spec.1 G.g_MOST_PLACES.choose_spec.2) pa_nil))))))))) (pss_one (ps_ret pe_bl)) pss_nil)
  (pss_cons (ps_asg (pv 0) (pg_tup (n := 2) rfl (pgs_cons (pg_name (i := 1) sc.nd rfl (Or.inr rfl)) (pgs_cons (pg_name (i := 2) sc.nd rfl (Or.inl rfl)) pgs_nil))))
  (pss_cons (ps_if (PW.pt (pw_or (pt_not (pt_val (pe_callB (cr_all rfl) (by rfl) G.f_all (by decide +kernel) (pa_cons (pe_lc (own := [("place", 3)]) (g := (gName 3)) rfl sc.nd (pi_tup (pv 1)) (blkOk_by (N := N_is_web_form) (sc := defScope s_is_web_form) (by decide +kernel)) (fun _ _ _ _ _ => (pg_name (i := 3) sc.nd rfl (Or.inl rfl))) (fun _ _ _ _ _ => pts_nil) (fun _ _ _ _ _ => (pe_go 1 ok_is_name_ (hr.mono (by decide)) rfl (pa_cons (pv 3) pa_nil)))) pa_nil)))) (pw_or1 (pt_not (pt_val (pe_go 1 ok_are_unlike_ (hr.mono (by decide)) rfl (pa_cons (pv 1) pa_nil))))))) (pss_one (ps_ret pe_bl)) pss_nil)
  (pss_cons (ps_if (PW.pt (pw_or (pt_not (pt_val (pe_go 3 ok_is_row_of_ (hr.mono (by decide)) rfl (pa_cons (pv 2) (pa_cons pe_int (pa_cons (pe_glob (v := .int 14) (by rfl) G.g_MOST_ROADS.choose_spec.1 G.g_MOST_ROADS.choose_spec.2) pa_nil)))))) (pw_or1 (pt_not (pt_val (pe_callB (cr_all rfl) (by rfl) G.f_all (by decide +kernel) (pa_cons (pe_lc (own := [("road", 4)]) (g := (gName 4)) rfl sc.nd (pi_tup (pv 2)) (blkOk_by (N := N_is_web_form) (sc := defScope s_is_web_form) (by decide +kernel)) (fun _ _ _ _ _ => (pg_name (i := 4) sc.nd rfl (Or.inl rfl))) (fun _ _ _ _ _ => pts_nil) (fun _ _ _ _ _ => (pe_go 2 ok_is_road_ (hr.mono (by decide)) rfl (pa_cons (pv 1) (pa_cons (pv 4) pa_nil))))) pa_nil))))))) (pss_one (ps_ret pe_bl)) pss_nil)
  (pss_one (ps_ret (pe_go 1 ok_are_unlike_ (hr.mono (by decide)) rfl (pa_cons (pe_lc (own := [("road", 4)]) (g := (gName 4)) rfl sc.nd (pi_tup (pv 2)) (blkOk_by (N := N_is_web_form) (sc := defScope s_is_web_form) (by decide +kernel)) (fun _ _ _ _ _ => (pg_name (i := 4) sc.nd rfl (Or.inl rfl))) (fun _ _ _ _ _ => pts_nil) (fun _ _ _ _ _ => (pe_callTy (r := rTupF K) call_tupF (by rfl) G.f_tuple (by decide +kernel) (pa_cons (pe_callB (r := rSortTup K) cr_sortTup (by rfl) G.f_sorted (by decide +kernel) (pa_cons (pv 4) pa_nil)) pa_nil)))) pa_nil)))))))), ?_⟩
  clear sc hu
  rintro δ ω Φ ⟨rfl, ds, rfl, ps, rs, rfl, W, q⟩
  have p5 := W.v.p5
  have p1 := W.v.p1
  have r14 := W.v.r10
  show RR Tb _ [.dt (webD ps rs), .un, .un, .un, .un] [] _
  walk_at "km"
  refine ⟨_, _, _, rfl, by simp, by simp, ?_⟩
  walk_at "km"
  refine ox_ixT _ (atI_n (j := 0) rfl) ?_
  walk_at "km"
  refine ⟨_, _, _, rfl, by rw [List.length_map]; omega, by rw [List.length_map]; omega, ?_⟩
  walk_at "km"
  refine rr_asgP _ ?_
  walk_at "km"
  refine ex_lcM T PyData.str str_inj PyData.bool ps (fun _ => some true) ?_
  walk_at "km"
  refine ⟨trivial, by omega, fun _ => True.intro, fun y hy => ?_, fun p => ?_⟩
  · walk_at "km"
    intro D acc
    walk_at "km"
    refine ⟨W.n y hy, ?_⟩
    exact ⟨true, rfl, rfl, Kp.refl _⟩
  walk_at "km"
  rw [filterMap_some]
  refine kx_all _ (bs := ps.map fun _ => true) (by simpa using isLs_hd) ?_
  walk_at "km"
  refine ifF (by simp) ?_
  walk_at "km"
  refine ex_kp (kp_nil _) ?_
  refine ex_go ?_
  walk_at "km"
  refine ⟨rfl, [], _, [.dt (tS ps)], fun s ω' => s = .dt (.bool true) ∧ ω' = [], List.Perm.refl _, .dt .nil, ⟨rfl, .inl ⟨ps, rfl, W.v.web.nd, by omega⟩, rfl, rfl⟩, ?_⟩
  rintro s ω' _ ⟨rfl, rfl⟩
  refine ⟨true, rfl, ifF rfl ?_⟩
  walk_at "km"
  refine ⟨_, _, _, rfl, by rw [List.length_map]; omega, by rw [List.length_map]; omega, ?_⟩
  walk_at "km"
  refine ex_lcM T rdD rd_inj PyData.bool rs (fun _ => some true) ?_
  walk_at "km"
  refine ⟨trivial, by omega, fun _ => True.intro, fun r hr => ?_, fun p => ?_⟩
  · have he := W.v.web.ends r hr
    walk_at "km"
    intro D acc
    walk_at "km"
    refine ⟨W.v.law, he.1, he.2.1, he.2.2, ?_⟩
    exact ⟨true, rfl, rfl, Kp.refl _⟩
  walk_at "km"
  rw [filterMap_some]
  refine kx_all _ (bs := rs.map fun _ => true) (by simpa using isLs_hd) ?_
  walk_at "km"
  refine ifF (by simp) ?_
  walk_at "km"
  refine ex_kp (kp_nil _) ?_
  refine ex_go ?_
  walk_at "km"
  refine ex_lcM T rdD rd_inj tS rs (fun r => some (srt r)) ?_
  walk_at "km"
  refine ⟨trivial, by omega, fun _ => True.intro, fun r hr => ?_, fun p => ?_⟩
  · walk_at "km"
    intro D acc
    walk_at "km"
    refine kx_sortTup _ fun a => ?_
    walk_at "km"
    refine kx_tuple _ isLs_hd ?_
    exact ⟨srt r, rfl, rfl, Kp.cons (Kp.refl _)⟩
  walk_at "km"
  refine ⟨rfl, [], _, [.bo (.ls ((rs.map srt).map tS))], fun s ω' => s = .dt (.bool true) ∧ ω' = [], List.Perm.refl _, .lend (by simp) .nil, ⟨rfl, .inr ⟨rs.map srt, rfl, ?_, by rw [List.length_map]; omega⟩, rfl, rfl⟩, ?_⟩
  · exact List.pairwise_map.mpr (W.v.web.one.imp fun {a b} h e => (srt_inj e).elim h.1 h.2)
  rintro s ω' _ ⟨rfl, rfl⟩
  exact ⟨(fun _ z => nomatch z), kp_end (kp_nil _) q⟩
/-! need_web(web) -/
abbrev R_need_web : Prm := pureR fun ds k => ∃ (ps : List Str) (rs : List (Str × Str)), ds = [webD ps rs] ∧ WebN ps rs ∧ k .none
theorem ok_need_web (G : Glob Tb base K mg C) : OkF Tb P w K mg base 6 "need_web" ["web"] R_need_web := by
  refine okF_of 5 G.d_need_web sc_need_web (fun F => F.bindsN fun _ _ _ _ _ _ us hl => match us, hl with | [_], _ => rfl) (fun f cdv A outer s H E hr => ?_)
  have sc := sc_need_web
  have hv := hv_of hr
  have hu := hu_of hr
  have ok_is_web_form_ := ok_is_web_form (Tb := Tb) (P := P) (w := w) (base := base) G
  refine ⟨_, (pss_one (ps_if (pt_not (pt_val (pe_go 1 ok_is_web_form_ (hr.mono (by decide)) rfl (pa_cons (pv 0) pa_nil)))) (pss_one ps_never) pss_nil)), ?_⟩
  clear sc hu
  rintro δ ω Φ ⟨rfl, ds, rfl, ps, rs, rfl, W, q⟩
  show RR Tb _ [.dt (webD ps rs)] [] _
  walk_at "km"
  refine ⟨W, ?_⟩
  walk_at "km"
  exact kp_end (Kp.refl _) q
/-! is_order(web, thing) -/
abbrev R_is_order : Prm := pureR fun ds k => ∃ (ps : List Str) (rs : List (Str × Str)) (o : List Str), ds = [webD ps rs, tS o] ∧ WebN ps rs ∧ o.Perm ps ∧ k (.bool true)
theorem ok_is_order (G : Glob Tb base K mg C) : OkF Tb P w K mg base 4 "is_order" ["web", "thing"] R_is_order := by
  refine okF_of 3 G.d_is_order sc_is_order (fun F => F.bindsN fun _ _ _ _ _ _ us hl => match us, hl with | [_, _], _ => rfl) (fun f cdv A outer s H E hr => ?_)
  have sc := sc_is_order
  have hv := hv_of hr
  have hu := hu_of hr
  have ok_are_places_ := ok_are_places (Tb := Tb) (P := P) (w := w) (base := base) G
  have ok_is_row_of_ := ok_is_row_of (Tb := Tb) (P := P) (w := w) (base := base) G
  refine ⟨_, (pss_one (ps_ret (pe_and (pe_go 3 ok_is_row_of_ (hr.mono (by decide)) rfl (pa_cons (pv 1) (pa_cons (pe_callB cr_lenQ (by rfl) G.f_len (by decide +kernel) (pa_cons (pe_ix L2.ix_tup (pv 0) pe_int (fun _ _ => rfl)) pa_nil)) (pa_cons (pe_callB cr_lenQ (by rfl) G.f_len (by decide +kernel) (pa_cons (pe_ix L2.ix_tup (pv 0) pe_int (fun _ _ => rfl)) pa_nil)) pa_nil)))) (pe_one (pe_go 2 ok_are_places_ (hr.mono (by decide)) rfl (pa_cons (pe_ix L2.ix_tup (pv 0) pe_int (fun _ _ => rfl)) (pa_cons (pv 1) pa_nil))))))), ?_⟩
  clear sc hu
  rintro δ ω Φ ⟨rfl, ds, rfl, ps, rs, o, rfl, W, ho, q⟩
  have p5 := W.v.p5
  have hl := ho.length_eq
  show RR Tb _ [.dt (webD ps rs), .dt (tS o)] [] _
  walk_at "km"
  refine ox_ixT _ (atI_n (j := 0) rfl) ?_
  walk_at "km"
  refine kx_lenT _ ?_
  walk_at "km"
  refine ox_ixT _ (atI_n (j := 0) rfl) ?_
  walk_at "km"
  refine kx_lenT _ ?_
  walk_at "km"
  refine ⟨_, _, _, rfl, by rw [List.length_map, List.length_map]; omega, by rw [List.length_map, List.length_map]; omega, ?_⟩
  walk_at "km"
  refine ox_ixT _ (atI_n (j := 0) rfl) ?_
  walk_at "km"
  refine ⟨W.v.law, fun y hy => ho.mem_iff.mp hy, ho.nodup_iff.mpr W.v.web.nd, by omega, ?_⟩
  exact ⟨(fun _ z => nomatch z), kp_end (Kp.refl _) q⟩
/-! need_order, need_two_orders -/
abbrev R_need_order : Prm := pureR fun ds k => ∃ (ps : List Str) (rs : List (Str × Str)) (o : List Str), ds = [webD ps rs, tS o] ∧ WebN ps rs ∧ o.Perm ps ∧ k .none
theorem ok_need_order (G : Glob Tb base K mg C) : OkF Tb P w K mg base 5 "need_order" ["web", "order"] R_need_order := by
  refine okF_of 4 G.d_need_order sc_need_order (fun F => F.bindsN fun _ _ _ _ _ _ us hl => match us, hl with | [_, _], _ => rfl) (fun f cdv A outer s H E hr => ?_)
  have sc := sc_need_order
  have hv := hv_of hr
  have hu := hu_of hr
  have ok_is_order_ := ok_is_order (Tb := Tb) (P := P) (w := w) (base := base) G
  refine ⟨_, (pss_one (ps_if (pt_not (pt_val (pe_go 2 ok_is_order_ (hr.mono (by decide)) rfl (pa_cons (pv 0) (pa_cons (pv 1) pa_nil))))) (pss_one ps_never) pss_nil)), ?_⟩
  clear sc hu
  rintro δ ω Φ ⟨rfl, ds, rfl, ps, rs, o, rfl, W, ho, q⟩
  show RR Tb _ [.dt (webD ps rs), .dt (tS o)] [] _
  walk_at "km"
  refine ⟨ps, rs, o, rfl, W, ho, ?_⟩
  walk_at "km"
  exact kp_end (Kp.refl _) q
abbrev R_need_two_orders : Prm := pureR fun ds k => ∃ (ps : List Str) (rs : List (Str × Str)) (o o' : List Str), ds = [webD ps rs, tS o, tS o'] ∧ WebN ps rs ∧ o.Perm ps ∧ o'.Perm ps ∧ k .none
theorem ok_need_two_orders (G : Glob Tb base K mg C) : OkF Tb P w K mg base 7 "need_two_orders" ["web", "order", "other"] R_need_two_orders := by
  refine okF_of 6 G.d_need_two_orders sc_need_two_orders (fun F => F.bindsN fun _ _ _ _ _ _ us hl => match us, hl with | [_, _, _], _ => rfl) (fun f cdv A outer s H E hr => ?_)
  have sc := sc_need_two_orders
  have hv := hv_of hr
  have hu := hu_of hr
  have ok_need_order_ := ok_need_order (Tb := Tb) (P := P) (w := w) (base := base) G
  have ok_need_web_ := ok_need_web (Tb := Tb) (P := P) (w := w) (base := base) G
  refine ⟨_, (pss_cons (ps_expr (pe_go 1 ok_need_web_ (hr.mono (by decide)) rfl (pa_cons (pv 0) pa_nil)))
  (pss_cons (ps_expr (pe_go 2 ok_need_order_ (hr.mono (by decide)) rfl (pa_cons (pv 0) (pa_cons (pv 1) pa_nil))))
  (pss_one (ps_expr (pe_go 2 ok_need_order_ (hr.mono (by decide)) rfl (pa_cons (pv 0) (pa_cons (pv 2) pa_nil))))))), ?_⟩
  clear sc hu
  rintro δ ω Φ ⟨rfl, ds, rfl, ps, rs, o, o', rfl, W, ho, ho', q⟩
  show RR Tb _ [.dt (webD ps rs), .dt (tS o), .dt (tS o')] [] _
  walk_at "km"
  refine ⟨W, ?_⟩
  walk_at "km"
  refine ⟨ps, rs, o, rfl, W, ho, ?_⟩
  walk_at "km"
  refine ⟨ps, rs, o', rfl, W, ho', ?_⟩
  walk_at "km"
  exact kp_end (Kp.refl _) q
end Km
/-! Text KmP -/
namespace Km
open PySem PySem.Spec PyProof.Rows L2 LamX
local macro_rules
  | `(tactic| walk_at "km1") => `(tactic| first
    | ((with_reducible apply ex_v); (focus rfl); (focus rfl))
    | with_reducible refine ex_int ?_
    | with_reducible refine ex_str ?_
    | with_reducible refine ex_bl ?_
    | with_reducible refine ex_non ?_
    | with_reducible refine ex_op ?_
    | with_reducible refine ex_un ?_
    | with_reducible refine ux_neg ?_
    | with_reducible refine ox_i0I ?_
    | with_reducible refine ox_i0B ?_
    | with_reducible refine ex_tup ?_
    | with_reducible refine ex_lst ?_
    | with_reducible refine ex_slT _ ?_
    | with_reducible refine ex_slL _ ?_
    | with_reducible refine px_none ?_
    | with_reducible refine px_some ?_
    | with_reducible refine ea_nil ?_
    | with_reducible refine ea_cons ?_
    | with_reducible refine ex_isi _ ?_
    | with_reducible refine ex_cb ?_
    | with_reducible refine ex_isN ?_
    | with_reducible refine ex_notN ?_
    | with_reducible refine ex_chain ?_
    | with_reducible refine ex_if ?_
    | with_reducible refine ex_and ?_
    | with_reducible refine ex_or ?_
    | with_reducible refine ex_not ?_
    | with_reducible refine ex_tix _ ?_
    | with_reducible refine ex_goD ?_
    | with_reducible refine ex_goN ?_
    | with_reducible refine ex_goF ?_
    | with_reducible refine ex_dget ?_
    | with_reducible refine ex_din ?_
    | with_reducible refine ex_dnotin ?_
    | with_reducible refine ex_dnew ?_
    | with_reducible refine et_test ?_
    | with_reducible refine et_val ?_
    | with_reducible refine et_and ?_
    | with_reducible refine et_or ?_
    | with_reducible refine et_not ?_
    | with_reducible refine et_yes ?_
    | with_reducible refine rr_seq ?_
    | with_reducible refine rr_asg ?_
    | with_reducible refine rr_ret ?_
    | with_reducible refine rr_retN ?_
    | with_reducible refine rr_drop ?_
    | with_reducible refine rr_if ?_
    | with_reducible refine rr_par ?_
    | with_reducible refine rr_next ?_
    | with_reducible refine rr_break ?_
    | with_reducible refine ix_tup _ ?_
    | with_reducible refine ix_range1 ?_
    | with_reducible refine ix_range2 ?_
    | with_reducible refine ix_down ?_
    | with_reducible refine ix_str ?_
    | with_reducible refine ix_keys ?_
    | with_reducible refine nb_dt ?_
    | with_reducible refine nb_pt ?_
    | with_reducible refine lc_name (by simp) ?_
    | with_reducible refine lc_pair (by simp) (by simp) ?_
    | with_reducible refine lc_new (by simp) (by simp) ?_
    | with_reducible refine for_name ?_
    | with_reducible refine for_pair ?_
    | with_reducible refine for_new ?_
    | with_reducible refine tup0 ?_
    | with_reducible refine tup1 ?_
    | with_reducible refine tup2 ?_
    | with_reducible refine tup3 ?_
    | with_reducible refine arg1 ?_
    | with_reducible refine arg2 ?_
    | with_reducible refine arg3 ?_
    | with_reducible refine arg4 ?_
    | with_reducible refine ⟨_, rfl, ?_⟩
    | with_reducible refine ⟨_, _, rfl, ?_⟩)
local macro_rules
  | `(tactic| walk_at "kms") => `(tactic| try simp (maxSteps := 2000) only [wipeS, List.map_cons, List.map_nil, List.set_cons_zero, List.set_cons_succ, Bool.false_eq_true, Bool.not_true, Bool.not_false, reduceIte])
local macro_rules
  | `(tactic| walk_at "km") => `(tactic| repeat (walk_at "km1"; walk_at "kms"))
local macro_rules
  | `(tactic| walk_at "kp") => `(tactic| repeat (first | exact Kp.refl _ | refine Kp.cons2 ?_ | refine Kp.cons ?_))
local macro_rules
  | `(tactic| walk_at "ls") => `(tactic| repeat (first | exact isLs_hd | exact isLs_bo | refine isLs_tl ?_))

variable {Tb : List (Addr × Str)} {P : Program} {w : World} {K : PySem.W.Frag} {mg : Str → Option Value} {base : Heap} {C : Addr}
/-! moves_to(web, order, other) -/
abbrev R_moves_to : Prm := fun δ ω Φ => ω = [] ∧ ∃ (ps : List Str) (rs : List (Str × Str)) (o o' : List Str), δ = [.dt (webD ps rs), .dt (tS o), .dt (tS o')] ∧ WebN ps rs ∧ o.Perm ps ∧ o'.Perm ps ∧
  (¬ Pot rs (lead o o') → Φ (.dt .none) []) ∧ ∀ (p : Addr) (ms : List Mv), run rs o ms = some o' → ms.length ≤ 100000 → Φ (.pt p) [(p, .ls (ms.map mvD))]
theorem ok_moves_to (G : Glob Tb base K mg C) : OkF Tb P w K mg base 8 "moves_to" ["web", "order", "other"] R_moves_to := by
  refine okF_of 7 G.d_moves_to sc_moves_to (fun F => F.bindsN fun _ _ _ _ _ _ us hl => match us, hl with | [_, _, _], _ => rfl) (fun f cdv A outer s H E hr => ?_)
  have sc := sc_moves_to
  have hv := hv_of hr
  have hu := hu_of hr
  have ok_moves_between_ := ok_moves_between (Tb := Tb) (P := P) (w := w) (base := base) G
  have ok_need_two_orders_ := ok_need_two_orders (Tb := Tb) (P := P) (w := w) (base := base) G
  refine ⟨_, (pss_cons (ps_expr (pe_go 3 ok_need_two_orders_ (hr.mono (by decide)) rfl (pa_cons (pv 0) (pa_cons (pv 1) (pa_cons (pv 2) pa_nil)))))
  (pss_one (ps_ret (pe_go 3 ok_moves_between_ (hr.mono (by decide)) rfl (pa_cons (pv 0) (pa_cons (pv 1) (pa_cons (pv 2) pa_nil))))))), ?_⟩
  clear sc hu
  rintro δ ω Φ ⟨rfl, ps, rs, o, o', rfl, W, ho, ho', q1, q2⟩
  show RR Tb _ [.dt (webD ps rs), .dt (tS o), .dt (tS o')] [] _
  walk_at "km"
  refine ⟨_, _, _, _, rfl, W, ho, ho', ?_⟩
  walk_at "km"
  refine ex_go ?_
  walk_at "km"
  refine ⟨rfl, [], [], [.dt (webD ps rs), .dt (tS o), .dt (tS o')], fun s ω' => (s = .dt .none ∧ ω' = [] ∧ ¬ Pot rs (lead o o')) ∨ ∃ p ms, s = .pt p ∧ ω' = [(p, .ls (ms.map mvD))] ∧ run rs o ms = some o' ∧ ms.length ≤ 100000, List.Perm.refl _, conv_data [] [webD ps rs, tS o, tS o'], ⟨rfl, ps, rs, o, o', rfl, W.v, ho, ho', fun h => .inl ⟨rfl, rfl, h⟩, fun p ms h1 h2 => .inr ⟨p, ms, rfl, rfl, h1, h2⟩⟩, ?_⟩
  rintro s0 ω' nb (⟨rfl, rfl, hno⟩ | ⟨p, ms, rfl, rfl, h1, h2⟩)
  · exact ⟨nb, kp_end (Kp.refl _) (q1 hno)⟩
  · exact ⟨nb, kp_end (Kp.refl _) (q2 p ms h1 h2)⟩
/-! moves_hold(web, order, other, thing) -/
abbrev R_moves_hold : Prm := fun δ ω Φ => ω = [] ∧ ∃ (ps : List Str) (rs : List (Str × Str)) (o o' : List Str) (ms : List Mv), δ = [.dt (webD ps rs), .dt (tS o), .dt (tS o'), .bo (.ls (ms.map mvD))] ∧ WebN ps rs ∧ o.Perm ps ∧ o'.Perm ps ∧ run rs o ms = some o' ∧ ms.length ≤ 100000 ∧ Φ (.dt (.bool true)) []
theorem ok_moves_hold (G : Glob Tb base K mg C) : OkF Tb P w K mg base 8 "moves_hold" ["web", "order", "other", "thing"] R_moves_hold := by
  refine okF_of 7 G.d_moves_hold sc_moves_hold (fun F => F.bindsN fun _ _ _ _ _ _ us hl => match us, hl with | [_, _, _, _], _ => rfl) (fun f cdv A outer s H E hr => ?_)
  have sc := sc_moves_hold
  have hv := hv_of hr
  have hu := hu_of hr
  have ok_need_two_orders_ := ok_need_two_orders (Tb := Tb) (P := P) (w := w) (base := base) G
  have ok_orders_behind_ := ok_orders_behind (Tb := Tb) (P := P) (w := w) (base := base) G
  refine ⟨_, (pss_cons (ps_expr (pe_go 3 ok_need_two_orders_ (hr.mono (by decide)) rfl (pa_cons (pv 0) (pa_cons (pv 1) (pa_cons (pv 2) pa_nil)))))
  (pss_cons (ps_set (i := 4) sc.nd rfl (Or.inl rfl) (pe_go 3 ok_orders_behind_ (hr.mono (by decide)) rfl (pa_cons (pv 0) (pa_cons (pv 1) (pa_cons (pv 3) pa_nil)))))
  (pss_one (ps_ret (pe_and (pe_cmp (pc_notN (pv 4)) rfl) (pe_one (pe_cmpR (op_eqD hr.units) (pe_ix L2.ix_list (pv 4) (pe_un un_neg pe_int) (fun _ _ => rfl)) (pv 2) (nomark _)))))))), ?_⟩
  clear sc hu
  rintro δ ω Φ ⟨rfl, ps, rs, o, o', ms, rfl, W, ho, ho', hrun, hms, q⟩
  have law : Lawful o' := W.v.okd fun y hy => ho'.mem_iff.mp hy
  show RR Tb _ [.dt (webD ps rs), .dt (tS o), .dt (tS o'), .bo (.ls (ms.map mvD)), .un] [] _
  walk_at "km"
  refine ⟨_, _, _, _, rfl, W, ho, ho', ?_⟩
  walk_at "km"
  refine ex_go ?_
  walk_at "km"
  refine ⟨rfl, [], [], [.dt (webD ps rs), .dt (tS o), .bo (.ls (ms.map mvD))], fun s ω' => ∃ p os, s = .pt p ∧ ω' = [(p, .ls (os.map tS))] ∧ os.getLast? = some o', List.Perm.refl _, .dt (.dt (.bo .nil)), ⟨rfl, ps, rs, o, o', ms, rfl, W.v, ho, hrun, hms, fun p os h => ⟨p, os, rfl, rfl, h⟩⟩, ?_⟩
  rintro s0 ω' _ ⟨p, os, rfl, rfl, hlast⟩
  walk_at "km"
  refine ⟨false, rfl, true, rfl, ifT rfl ?_⟩
  walk_at "km"
  refine ox_ixL _ isLs_hd (atI_neg1 (by rw [List.getLast?_map, hlast]; rfl)) ?_
  walk_at "km"
  refine ox_eqd _ 1 (okd_tS law) (okd_tS law) (by decide) fun b hb => ?_
  have e : b = true := hb.mpr rfl
  subst e
  exact ⟨(fun _ z => nomatch z), kp_end (kp_nil _) q⟩
/-! ring_between(web, order, other) -/
abbrev R_ring_between : Prm := pureR fun ds k => ∃ (ps : List Str) (rs : List (Str × Str)) (o o' : List Str), ds = [webD ps rs, tS o, tS o'] ∧ WebN ps rs ∧ o.Perm ps ∧ o'.Perm ps ∧
  ((∀ l ∈ toldRings ps rs, stepsN o l = stepsN o' l) → k .none) ∧ ∀ l ∈ toldRings ps rs, stepsN o l ≠ stepsN o' l → k (tS l)
theorem ok_ring_between (G : Glob Tb base K mg C) : OkF Tb P w K mg base 8 "ring_between" ["web", "order", "other"] R_ring_between := by
  refine okF_of 7 G.d_ring_between sc_ring_between (fun F => F.bindsN fun _ _ _ _ _ _ us hl => match us, hl with | [_, _, _], _ => rfl) (fun f cdv A outer s H E hr => ?_)
  have sc := sc_ring_between
  have hv := hv_of hr
  have hu := hu_of hr
  have ok_need_two_orders_ := ok_need_two_orders (Tb := Tb) (P := P) (w := w) (base := base) G
  have ok_ring_apart_ := ok_ring_apart (Tb := Tb) (P := P) (w := w) (base := base) G
  refine ⟨_, (pss_cons (ps_expr (pe_go 3 ok_need_two_orders_ (hr.mono (by decide)) rfl (pa_cons (pv 0) (pa_cons (pv 1) (pa_cons (pv 2) pa_nil)))))
  (pss_one (ps_ret (pe_go 3 ok_ring_apart_ (hr.mono (by decide)) rfl (pa_cons (pv 0) (pa_cons (pv 1) (pa_cons (pv 2) pa_nil))))))), ?_⟩
  clear sc hu
  rintro δ ω Φ ⟨rfl, ds, rfl, ps, rs, o, o', rfl, W, ho, ho', q1, q2⟩
  show RR Tb _ [.dt (webD ps rs), .dt (tS o), .dt (tS o')] [] _
  walk_at "km"
  refine ⟨_, _, _, _, rfl, W, ho, ho', ?_⟩
  walk_at "km"
  refine ⟨_, _, _, _, rfl, W.v, ho, ho', fun h => ?_, fun l hl h => ?_⟩
  · exact ⟨(fun _ z => nomatch z), kp_end (Kp.refl _) (q1 h)⟩
  · exact ⟨(fun _ z => nomatch z), kp_end (Kp.refl _) (q2 l hl h)⟩
/-! ring_counts(web, order) -/
def cntD (o : List Str) (l : List Str) : PyData := .tuple [tS l, .int (stepsN o l : Nat)]
abbrev R_ring_counts : Prm := newR fun ds k => ∃ (ps : List Str) (rs : List (Str × Str)) (o : List Str), ds = [webD ps rs, tS o] ∧ WebN ps rs ∧ o.Perm ps ∧ k ((toldRings ps rs).map (cntD o))
theorem okk_ring_counts (G : Glob Tb base K mg C) : OkK Tb P w K mg base 8 "ring_counts" "web" "order" R_ring_counts := by
  refine okK_of 7 G.d_ring_counts sc_ring_counts (fun F => F.bindsN fun _ _ _ _ _ _ us hl => match us, hl with | [_, _], _ => rfl) (fun _ _ _ _ _ _ _ _ => rfl) (fun f cdv A outer s H E hr => ?_)
  have sc := sc_ring_counts
  have hv := hv_of hr
  have hu := hu_of hr
  have ok_need_order_ := ok_need_order (Tb := Tb) (P := P) (w := w) (base := base) G
  have ok_need_web_ := ok_need_web (Tb := Tb) (P := P) (w := w) (base := base) G
  have ok_steps_forward_ := ok_steps_forward (Tb := Tb) (P := P) (w := w) (base := base) G
  have ok_told_rings_ := ok_told_rings (Tb := Tb) (P := P) (w := w) (base := base) G
  refine ⟨_, (pss_cons (ps_expr (pe_go 1 ok_need_web_ (hr.mono (by decide)) rfl (pa_cons (pv 0) pa_nil)))
  (pss_cons (ps_expr (pe_go 2 ok_need_order_ (hr.mono (by decide)) rfl (pa_cons (pv 0) (pa_cons (pv 1) pa_nil))))
  (pss_one (ps_ret (pe_lc (own := [("ring", 2)]) (g := (gName 2)) rfl sc.nd (pi_list (pe_go 1 ok_told_rings_ (hr.mono (by decide)) rfl (pa_cons (pv 0) pa_nil))) (blkOk_by (N := N_ring_counts) (sc := defScope s_ring_counts) (by decide +kernel)) (fun _ _ _ _ _ => (pg_name (i := 2) sc.nd rfl (Or.inl rfl))) (fun _ _ _ _ _ => pts_nil) (fun _ _ _ _ _ => (pe_tupF (pa_cons (pv 2) (pa_cons (pe_go 2 ok_steps_forward_ (hr.mono (by decide)) rfl (pa_cons (pv 1) (pa_cons (pv 2) pa_nil))) pa_nil))))))))), ?_⟩
  clear sc hu
  rintro δ ω Φ ⟨rfl, ds, rfl, ps, rs, o, rfl, W, ho, q⟩
  show RR Tb _ [.dt (webD ps rs), .dt (tS o), .un] [] _
  walk_at "km"
  refine ⟨W, ?_⟩
  walk_at "km"
  refine ⟨ps, rs, o, rfl, W, ho, ?_⟩
  walk_at "km"
  refine ex_lcM T tS tS_inj' (cntD o) (toldRings ps rs) (fun l => some l) ?_
  refine ix_list _ ?_
  walk_at "km"
  refine ⟨W.v, fun p => ?_⟩
  have hlen : (toldRings ps rs).length ≤ 14 := Nat.le_trans (told_len ps rs []) W.v.r10
  refine ⟨_, .inr ⟨p, rfl, List.mem_cons_self .., rfl, by omega, fun _ => List.mem_cons_of_mem _ (List.mem_cons_self ..), fun l hl => ?_, fun p1 => ?_⟩⟩
  · obtain ⟨t1, t2, t3⟩ := told_mem W.v hl
    walk_at "km"
    intro D acc
    walk_at "km"
    refine ⟨fun y hy => ho.mem_iff.mpr (t2 y hy), by omega, ?_⟩
    walk_at "km"
    exact ⟨trivial, Kp.refl _⟩
  · refine ⟨(fun _ z => nomatch z), kp_end (Kp.cons2 (kp_nil _)) ?_⟩
    rw [List.filterMap_some]
    exact q p1
theorem ok_ring_counts (G : Glob Tb base K mg C) : OkF Tb P w K mg base 8 "ring_counts" ["web", "order"] R_ring_counts := (okk_ring_counts G).ok
/-! _law_pair_right(web, order, other, is_led, rings) -/
theorem okd_cnt {o l : List Str} (h : Lawful l) : okd 2 (cntD o l) = true := okd_tup fun x hx => by
  rcases List.mem_cons.mp hx with rfl | hx
  · exact okd_tS h
  · rw [List.mem_singleton.mp hx]
    simp [okd]
theorem okds_map {α : Type} {f : α → PyData} {l : List α} {n : Nat} (h : ∀ x ∈ l, okd n (f x) = true) : okds n (l.map f) = true := okds_iff.mpr fun d hd => by
  obtain ⟨x, hx, rfl⟩ := List.mem_map.mp hd
  exact h x hx
theorem cnt_eq {o o' : List Str} : ∀ {L : List (List Str)}, L.map (cntD o) = L.map (cntD o') ↔ ∀ l ∈ L, stepsN o l = stepsN o' l
  | [] => by simp
  | l :: L => by
    rw [List.map_cons, List.map_cons, List.cons_eq_cons, cnt_eq (L := L)]
    simp [cntD]
    exact fun _ => Int.ofNat_inj
theorem unlike_nil {o o' : List Str} : ∀ {L : List (List Str)}, (L.filterMap fun l => if stepsN o l ≠ stepsN o' l then some l else none) = [] ↔ ∀ l ∈ L, stepsN o l = stepsN o' l := fun {L} => by
  rw [List.filterMap_eq_nil_iff]
  constructor
  · intro h l hl
    have := h l hl
    by_cases e : stepsN o l = stepsN o' l
    · exact e
    · rw [if_pos e] at this; cases this
  · intro h l hl
    rw [if_neg (fun z => z (h l hl))]
theorem bool_of {a b : Bool} {p : Prop} (h1 : a = true ↔ p) (h2 : b = true ↔ p) : a = b := by
  cases a <;> cases b <;> simp_all
abbrev R_law_pair_right : Prm := fun δ ω Φ => ω = [] ∧ ∃ (ps : List Str) (rs : List (Str × Str)) (o o' : List Str) (led : Bool) (res : List (List Str)), δ = [.dt (webD ps rs), .dt (tS o), .dt (tS o'), .dt (.bool led), .bo (.ls (res.map tS))] ∧ WebN ps rs ∧ o.Perm ps ∧ o'.Perm ps ∧ LawRings ps rs res ∧
  (∀ l ∈ res, ∀ y ∈ l, y ∈ ps) ∧ (led = true ↔ Pot rs (lead o o')) ∧ Φ (.dt (.bool true)) []
theorem ok_law_pair_right (G : Glob Tb base K mg C) : OkF Tb P w K mg base 9 "_law_pair_right" ["_law_web_here", "_law_order_here", "_law_other", "_law_is_led", "_law_rings"] R_law_pair_right := by
  refine okF_of 8 G.d_law_pair_right sc_law_pair_right (fun F => F.bindsN fun _ _ _ _ _ _ us hl => match us, hl with | [_, _, _, _, _], _ => rfl) (fun f cdv A outer s H E hr => ?_)
  have sc := sc_law_pair_right
  have hv := hv_of hr
  have hu := hu_of hr
  have ok_law_forward_ := ok_law_forward (Tb := Tb) (P := P) (w := w) (base := base) G
  have ok_moves_hold_ := ok_moves_hold (Tb := Tb) (P := P) (w := w) (base := base) G
  have ok_moves_to_ := ok_moves_to (Tb := Tb) (P := P) (w := w) (base := base) G
  have ok_ring_between_ := ok_ring_between (Tb := Tb) (P := P) (w := w) (base := base) G
  have ok_ring_counts_ := ok_ring_counts (Tb := Tb) (P := P) (w := w) (base := base) G
  refine ⟨_, (pss_cons (ps_set (i := 5) sc.nd rfl (Or.inl rfl) (pe_cmpR (op_eqD hr.units) (pe_lc (own := [("_law_ring", 6)]) (g := (gName 6)) rfl sc.nd (pi_list (pv 4)) (blkOk_by (N := N_law_pair_right) (sc := defScope s_law_pair_right) (by decide +kernel)) (fun _ _ _ _ _ => (pg_name (i := 6) sc.nd rfl (Or.inl rfl))) (fun _ _ _ _ _ => pts_one (pt_cmpR (r := rNeD K) (op_neD hr.units) (pe_go 2 ok_law_forward_ (hr.mono (by decide)) rfl (pa_cons (pv 1) (pa_cons (pv 6) pa_nil))) (pe_go 2 ok_law_forward_ (hr.mono (by decide)) rfl (pa_cons (pv 2) (pa_cons (pv 6) pa_nil))) (nomark _))) (fun _ _ _ _ _ => (pv 6))) (pe_lst pa_nil) (nomark _)))
  (pss_cons (ps_if (PW.pt (pw_or (pt_cmpR op_ne (pv 5) (pv 3) (nomark _)) (pw_or1 (pt_cmpR op_ne (pe_cmpR (op_eqD hr.units) (pe_go 2 ok_ring_counts_ (hr.mono (by decide)) rfl (pa_cons (pv 0) (pa_cons (pv 1) pa_nil))) (pe_goK (okk_ring_counts (Tb := Tb) (P := P) (w := w) (base := base) G) (hr.mono (by decide)) rfl (pv 2) (pv 0)) (nomark _)) (pv 3) (nomark _))))) (pss_one (ps_ret pe_bl)) pss_nil)
  (pss_cons (ps_par (i := 7) (j := 6) (by rfl) sc.nd rfl rfl (by decide) rfl rfl (pa_cons (pe_go 3 ok_moves_to_ (hr.mono (by decide)) rfl (pa_cons (pv 0) (pa_cons (pv 1) (pa_cons (pv 2) pa_nil)))) (pa_cons (pe_go 3 ok_ring_between_ (hr.mono (by decide)) rfl (pa_cons (pv 0) (pa_cons (pv 1) (pa_cons (pv 2) pa_nil)))) pa_nil)) (by rfl))
  (pss_cons (ps_if (pt_val (pv 3)) (pss_one (ps_ret (pe_and (pe_cmp (pc_isN (pv 6)) rfl) (pe_one (pe_cmpR op_is_bl (pe_go 4 ok_moves_hold_ (hr.mono (by decide)) rfl (pa_cons (pv 0) (pa_cons (pv 1) (pa_cons (pv 2) (pa_cons (pv 7) pa_nil))))) pe_bl (nomark _)))))) pss_nil)
  (pss_one (ps_ret (pe_and (pe_cmp (pc_isN (pv 7)) rfl) (pe_and (pe_callB call_isi (by rfl) G.f_isinstance (by decide +kernel) (pa_cons (pv 6) (pa_cons (pe_bltn (v := .ty "tuple") (by rfl) G.f_tuple (by decide +kernel) rfl) pa_nil))) (pe_one (pe_cmpR (op_neD hr.units) (pe_go 2 ok_law_forward_ (hr.mono (by decide)) rfl (pa_cons (pv 1) (pa_cons (pv 6) pa_nil))) (pe_go 2 ok_law_forward_ (hr.mono (by decide)) rfl (pa_cons (pv 2) (pa_cons (pv 6) pa_nil))) (nomark _))))))))))), ?_⟩
  clear sc hu
  rintro δ ω Φ ⟨rfl, ps, rs, o, o', led, res, rfl, W, ho, ho', R, sub, hled, q⟩
  show RR Tb _ [.dt (webD ps rs), .dt (tS o), .dt (tS o'), .dt (.bool led), .bo (.ls (res.map tS)), .un, .un, .un] [] _
  walk_at "km"
  have hl1 : ∀ l ∈ res, l.length ≤ 1000 := fun l hl => Nat.le_trans (List.Nodup.length_le_of_subset (R.ring l hl).nd fun y hy => sub l hl y hy) (by have := W.v.p5; omega)
  have hlaw : ∀ l ∈ res, Lawful l := fun l hl => W.v.okd (sub l hl)
  have few := R.few
  refine ex_lcM T tS tS_inj' tS res (fun l => if stepsN o l ≠ stepsN o' l then some l else none) ?_
  refine ix_list _ ?_
  walk_at "km"
  refine ⟨_, .inl ⟨rfl, rfl, by omega, fun _ => True.intro, fun l hl => ?_, fun p => ?_⟩⟩
  · walk_at "km"
    intro D acc
    walk_at "km"
    refine ⟨fun y hy => ho.mem_iff.mpr (sub l hl y hy), hl1 l hl, ?_⟩
    walk_at "km"
    refine ⟨fun y hy => ho'.mem_iff.mpr (sub l hl y hy), hl1 l hl, ?_⟩
    refine ox_nei _ ?_
    refine ⟨_, rfl, ?_⟩
    by_cases e : stepsN o l = stepsN o' l
    · refine ifF (by rw [e]; simp) ?_
      exact ⟨if_neg fun z => z e, Kp.refl _⟩
    · refine ifT (by simp; omega) ?_
      walk_at "km"
      exact ⟨if_pos e, Kp.refl _⟩
  walk_at "km"
  intro p2
  walk_at "km"
  refine ox_eql _ 1 (isLs_tl isLs_hd) isLs_hd (okds_map fun l hl => okd_tS (hlaw l ?_)) (by simp [okds]) (by decide) fun b hb => ?_
  · obtain ⟨l', hl', e⟩ := List.mem_filterMap.mp hl
    by_cases h : stepsN o l' ≠ stepsN o' l'
    · rw [if_pos h] at e
      cases e
      exact hl'
    · rw [if_neg h] at e
      cases e
  have hpot := law_iff W.v.web ho ho' R
  have hb2 : b = led := bool_of (p := Pot rs (lead o o')) (by rw [hb, List.map_eq_nil_iff, unlike_nil]; exact hpot) hled
  subst hb2
  refine rr_kp (kp_nil _) ?_
  walk_at "km"
  refine ox_nebool ?_
  refine ⟨_, rfl, ?_⟩
  rw [decide_eq_true rfl]
  refine ifF rfl ?_
  walk_at "km"
  refine ⟨ps, rs, o, rfl, W, ho, fun pa => ?_⟩
  refine ex_goK ?_
  walk_at "km"
  refine ⟨_, _, rfl, rfl, ps, rs, o', rfl, W, ho', fun pb => ?_⟩
  have lt : ∀ l ∈ toldRings ps rs, Lawful l := fun l hl => W.v.okd (told_mem W.v hl).2.1
  refine ox_eql _ 2 (isLs_tl isLs_hd) isLs_hd (okds_map fun l hl => okd_cnt (lt l hl)) (okds_map fun l hl => okd_cnt (lt l hl)) (by decide) fun b2 hb2 => ?_
  have ht := told_iff W.v.web ho ho'
  have hb3 : b2 = b := bool_of (p := Pot rs (lead o o')) (by rw [hb2, cnt_eq]; exact ht) hled
  subst hb3
  walk_at "km"
  refine ox_nebool ?_
  refine ⟨_, rfl, ?_⟩
  rw [decide_eq_true rfl]
  refine ifF rfl ?_
  refine rr_kp (kp_nil _) ?_
  walk_at "km"
  refine ex_go ?_
  walk_at "km"
  refine ⟨rfl, [], [], [.dt (webD ps rs), .dt (tS o), .dt (tS o')], fun s ω' => (s = .dt .none ∧ ω' = [] ∧ ¬ Pot rs (lead o o')) ∨ ∃ p ms, s = .pt p ∧ ω' = [(p, .ls (ms.map mvD))] ∧ run rs o ms = some o' ∧ ms.length ≤ 100000, List.Perm.refl _, conv_data [] [webD ps rs, tS o, tS o'], ⟨rfl, ps, rs, o, o', rfl, W, ho, ho', fun h => .inl ⟨rfl, rfl, h⟩, fun p ms h1 h2 => .inr ⟨p, ms, rfl, rfl, h1, h2⟩⟩, ?_⟩
  rintro s0 ω' nb (⟨rfl, rfl, hno⟩ | ⟨pm, ms, rfl, rfl, h1, h2⟩)
  · have eb : b2 = false := by
      cases b2 with
      | true => exact absurd (hled.mp rfl) hno
      | false => rfl
    subst eb
    walk_at "km"
    refine ⟨_, _, _, _, rfl, W, ho, ho', fun h => absurd (ht.mp h) hno, fun l hl hne => ?_⟩
    obtain ⟨t1, t2, t3⟩ := told_mem W.v hl
    walk_at "km"
    refine ⟨true, rfl, ?_⟩
    refine ⟨true, rfl, ifT rfl ?_⟩
    walk_at "km"
    refine isi_d true kit_tt ?_
    walk_at "km"
    refine ⟨fun y hy => ho.mem_iff.mpr (t2 y hy), by omega, ?_⟩
    walk_at "km"
    refine ⟨fun y hy => ho'.mem_iff.mpr (t2 y hy), by omega, ?_⟩
    refine ox_nei _ ?_
    refine ⟨(fun _ z => nomatch z), ?_⟩
    rw [decide_eq_false (fun z => hne (Int.ofNat_inj.mp z))]
    exact kp_end (Kp.refl _) q
  · have pot : Pot rs (lead o o') := (pot_iff_run W.v.web ho ho').mpr ⟨ms, h1⟩
    have eb : b2 = true := hled.mpr pot
    subst eb
    walk_at "km"
    refine ⟨_, _, _, _, rfl, W, ho, ho', fun h => ?_, fun l hl hne => absurd (ht.mpr pot l hl) hne⟩
    walk_at "km"
    refine ⟨true, rfl, true, rfl, ifT rfl ?_⟩
    walk_at "km"
    refine ex_go ?_
    walk_at "km"
    refine ⟨rfl, [], [(pm, .ls (ms.map mvD))], [.dt (webD ps rs), .dt (tS o), .dt (tS o'), .bo (.ls (ms.map mvD))], fun s ω' => s = .dt (.bool true) ∧ ω' = [], List.Perm.refl _, .dt (.dt (.dt (.lend (List.mem_cons_self ..) .nil))), ⟨rfl, ps, rs, o, o', ms, rfl, W, ho, ho', h1, h2, rfl, rfl⟩, ?_⟩
    rintro s0 ω' _ ⟨rfl, rfl⟩
    walk_at "km"
    refine ox_isb ?_
    exact ⟨(fun _ z => nomatch z), kp_end (kp_nil _) q⟩
end Km
/-! Text KmW -/
namespace Km
open PySem PySem.Spec PyProof.Rows L2 LamX
local macro_rules
  | `(tactic| walk_at "km1") => `(tactic| first
    | ((with_reducible apply ex_v); (focus rfl); (focus rfl))
    | with_reducible refine ex_int ?_
    | with_reducible refine ex_str ?_
    | with_reducible refine ex_bl ?_
    | with_reducible refine ex_non ?_
    | with_reducible refine ex_op ?_
    | with_reducible refine ex_un ?_
    | with_reducible refine ux_neg ?_
    | with_reducible refine ox_i0I ?_
    | with_reducible refine ox_i0B ?_
    | with_reducible refine ex_tup ?_
    | with_reducible refine ex_lst ?_
    | with_reducible refine ex_slT _ ?_
    | with_reducible refine ex_slL _ ?_
    | with_reducible refine px_none ?_
    | with_reducible refine px_some ?_
    | with_reducible refine ea_nil ?_
    | with_reducible refine ea_cons ?_
    | with_reducible refine ex_isi _ ?_
    | with_reducible refine ex_cb ?_
    | with_reducible refine ex_isN ?_
    | with_reducible refine ex_notN ?_
    | with_reducible refine ex_chain ?_
    | with_reducible refine ex_if ?_
    | with_reducible refine ex_and ?_
    | with_reducible refine ex_or ?_
    | with_reducible refine ex_not ?_
    | with_reducible refine ex_tix _ ?_
    | with_reducible refine ex_goD ?_
    | with_reducible refine ex_goN ?_
    | with_reducible refine ex_goF ?_
    | with_reducible refine ex_dget ?_
    | with_reducible refine ex_din ?_
    | with_reducible refine ex_dnotin ?_
    | with_reducible refine ex_dnew ?_
    | with_reducible refine et_test ?_
    | with_reducible refine et_val ?_
    | with_reducible refine et_and ?_
    | with_reducible refine et_or ?_
    | with_reducible refine et_not ?_
    | with_reducible refine et_yes ?_
    | with_reducible refine rr_seq ?_
    | with_reducible refine rr_asg ?_
    | with_reducible refine rr_ret ?_
    | with_reducible refine rr_retN ?_
    | with_reducible refine rr_drop ?_
    | with_reducible refine rr_if ?_
    | with_reducible refine rr_par ?_
    | with_reducible refine rr_next ?_
    | with_reducible refine rr_break ?_
    | with_reducible refine ix_tup _ ?_
    | with_reducible refine ix_range1 ?_
    | with_reducible refine ix_range2 ?_
    | with_reducible refine ix_down ?_
    | with_reducible refine ix_str ?_
    | with_reducible refine ix_keys ?_
    | with_reducible refine nb_dt ?_
    | with_reducible refine nb_pt ?_
    | with_reducible refine lc_name (by simp) ?_
    | with_reducible refine lc_pair (by simp) (by simp) ?_
    | with_reducible refine lc_new (by simp) (by simp) ?_
    | with_reducible refine for_name ?_
    | with_reducible refine for_pair ?_
    | with_reducible refine for_new ?_
    | with_reducible refine tup0 ?_
    | with_reducible refine tup1 ?_
    | with_reducible refine tup2 ?_
    | with_reducible refine tup3 ?_
    | with_reducible refine arg1 ?_
    | with_reducible refine arg2 ?_
    | with_reducible refine arg3 ?_
    | with_reducible refine arg4 ?_
    | with_reducible refine ⟨_, rfl, ?_⟩
    | with_reducible refine ⟨_, _, rfl, ?_⟩)
local macro_rules
  | `(tactic| walk_at "kms") => `(tactic| try simp (maxSteps := 2000) only [wipeS, List.map_cons, List.map_nil, List.set_cons_zero, List.set_cons_succ, Bool.false_eq_true, Bool.not_true, Bool.not_false, reduceIte])
local macro_rules
  | `(tactic| walk_at "km") => `(tactic| repeat (walk_at "km1"; walk_at "kms"))
local macro_rules
  | `(tactic| walk_at "kp") => `(tactic| repeat (first | exact Kp.refl _ | refine Kp.cons2 ?_ | refine Kp.cons ?_))
local macro_rules
  | `(tactic| walk_at "ls") => `(tactic| repeat (first | exact isLs_hd | exact isLs_bo | refine isLs_tl ?_))

variable {Tb : List (Addr × Str)} {P : Program} {w : World} {K : PySem.W.Frag} {mg : Str → Option Value} {base : Heap} {C : Addr}
/-! _law_web(feed, way, most) -/
def prD (q : Nat × Nat) : PyData := .tuple [.int (q.1 : Nat), .int (q.2 : Nat)]
theorem ok_ring : PyData.strOk ("ring" : Str) = true := by decide +kernel
theorem ok_whole : PyData.strOk ("whole" : Str) = true := by decide +kernel
theorem ok_any : PyData.strOk ("any" : Str) = true := by decide +kernel
structure PairsA (way : Str) (i : Nat) (L : List (Nat × Nat)) : Prop where
  lt : ∀ q ∈ L, q.1 < q.2 ∧ q.2 ≤ i
  nd : L.Nodup
  few : L.length ≤ i
  ring : way = "ring" → ∀ q ∈ L, q.1 + 1 = q.2
structure PairsB (n k : Nat) (L : List (Nat × Nat)) : Prop where
  lt : ∀ q ∈ L, q.1 < q.2 ∧ q.2 < n
  nd : L.Nodup
  few : L.length ≤ k
theorem PairsB.more {n k : Nat} {L : List (Nat × Nat)} (h : PairsB n k L) {a b : Nat} (h1 : a < b) (h2 : b < n) (h3 : (a, b) ∉ L) : PairsB n (k + 1) (L ++ [(a, b)]) := by
  refine ⟨fun q hq => ?_, ?_, by rw [List.length_append]; exact Nat.succ_le_succ h.few⟩
  · rcases List.mem_append.mp hq with z | z
    · exact h.lt q z
    · rw [List.mem_singleton.mp z]
      exact ⟨h1, h2⟩
  · refine List.nodup_append.mpr ⟨h.nd, List.nodup_cons.mpr ⟨fun z => (nomatch z), List.nodup_nil⟩, fun x hx y hy e => ?_⟩
    rw [List.mem_singleton.mp hy] at e
    exact h3 (e ▸ hx)
theorem PairsB.mono {n k k' : Nat} {L : List (Nat × Nat)} (h : PairsB n k L) (e : k ≤ k') : PairsB n k' L := ⟨h.lt, h.nd, Nat.le_trans h.few e⟩
theorem prD_inj {a b : Nat × Nat} (h : prD a = prD b) : a = b := by
  cases a; cases b
  simp only [prD, PyData.tuple.injEq, List.cons.injEq, PyData.int.injEq, and_true] at h
  rw [Int.ofNat_inj.mp h.1, Int.ofNat_inj.mp h.2]
theorem prD_mem {a : Nat × Nat} {L : List (Nat × Nat)} : prD a ∈ L.map prD ↔ a ∈ L := by
  rw [List.mem_map]
  exact ⟨fun ⟨b, hb, e⟩ => prD_inj e ▸ hb, fun h => ⟨a, h, rfl⟩⟩
theorem okd_pr (a : Nat × Nat) : okd 1 (prD a) = true := by simp [prD, okd, okds]
theorem turn_mod {n r1 r2 : Nat} (h1 : r1 < n) (h2 : r2 < n - 1) : (r1 + 1 + r2) % n < n ∧ (r1 + 1 + r2) % n ≠ r1 := by
  refine ⟨Nat.mod_lt _ (by omega), ?_⟩
  rcases Nat.lt_or_ge (r1 + 1 + r2) n with h | h
  · rw [Nat.mod_eq_of_lt h]
    omega
  · rw [Nat.mod_eq_sub_mod h, Nat.mod_eq_of_lt (by omega)]
    omega
theorem fmod_nat {n r1 r2 : Nat} : Int.fmod ((r1 : Int) + 1 + (r2 : Int)) (n : Int) = (((r1 + 1 + r2) % n : Nat) : Int) := by
  rw [Int.fmod_eq_emod_of_nonneg _ (by omega), Int.natCast_emod]
  rfl
theorem min_max {a b : Nat} : PyData.tuple [.int (if (b : Int) < (a : Int) then (b : Int) else (a : Int)), .int (if (b : Int) > (a : Int) then (b : Int) else (a : Int))] = prD (min a b, max a b) := by
  have e1 : (if (b : Int) < (a : Int) then (b : Int) else (a : Int)) = ((min a b : Nat) : Int) := by split <;> omega
  have e2 : (if (b : Int) > (a : Int) then (b : Int) else (a : Int)) = ((max a b : Nat) : Int) := by split <;> omega
  rw [e1, e2]
  rfl
/-! the roads by names -/
def RoadOf (l : List Str) (q : Nat × Nat) (r : Str × Str) : Prop := ∃ a b, l[q.1]? = some a ∧ l[q.2]? = some b ∧ (r = (a, b) ∨ r = (b, a))
theorem at_inj {l : List Str} (nd : l.Nodup) {i j : Nat} {a : Str} (h1 : l[i]? = some a) (h2 : l[j]? = some a) : i = j := (List.getElem?_inj (List.getElem?_eq_some_iff.mp h1).1 nd).mp (h1.trans h2.symm)
theorem RoadOf.inj {l : List Str} (nd : l.Nodup) {q q' : Nat × Nat} {r r' : Str × Str} (hq : q.1 < q.2) (hq' : q'.1 < q'.2) (h : RoadOf l q r) (h' : RoadOf l q' r') (e : r = r' ∨ r = (r'.2, r'.1)) : q = q' := by
  obtain ⟨a, b, h1, h2, h3⟩ := h
  obtain ⟨a', b', h1', h2', h3'⟩ := h'
  have key : (a = a' ∧ b = b') ∨ (a = b' ∧ b = a') := by
    rcases h3 with rfl | rfl <;> rcases h3' with rfl | rfl <;> rcases e with e | e <;> simp at e <;> simp [e]
  rcases key with ⟨rfl, rfl⟩ | ⟨rfl, rfl⟩
  · exact Prod.ext (at_inj nd h1 h1') (at_inj nd h2 h2')
  · have e1 := at_inj nd h1 h2'
    have e2 := at_inj nd h2 h1'
    omega
structure RoadsOk (l : List Str) (M : List (Nat × Nat)) (i : Nat) (R : List (Str × Str)) : Prop where
  few : R.length ≤ i
  of_ : ∀ r ∈ R, ∃ q ∈ M.take i, RoadOf l q r
  one : R.Pairwise fun r q => r ≠ q ∧ r ≠ (q.2, q.1)
theorem RoadsOk.more {l : List Str} {M : List (Nat × Nat)} {i : Nat} {R : List (Str × Str)} (h : RoadsOk l M i R) (nd : l.Nodup) (mnd : M.Nodup) (lt : ∀ q ∈ M, q.1 < q.2) {q : Nat × Nat} (hq : M[i]? = some q) {r : Str × Str} (hr : RoadOf l q r) : RoadsOk l M (i + 1) (R ++ [r]) := by
  have qm := List.mem_of_getElem? hq
  refine ⟨by rw [List.length_append]; exact Nat.succ_le_succ h.few, fun r' hr' => ?_, ?_⟩
  · rw [take_next hq]
    rcases List.mem_append.mp hr' with z | z
    · obtain ⟨q', h1, h2⟩ := h.of_ r' z
      exact ⟨q', List.mem_append_left _ h1, h2⟩
    · rw [List.mem_singleton.mp z]
      exact ⟨q, List.mem_append_right _ (List.mem_singleton.mpr rfl), hr⟩
  · refine List.pairwise_append.mpr ⟨h.one, List.pairwise_singleton .., fun r' hr' r2 hr2 => ?_⟩
    rw [List.mem_singleton.mp hr2]
    obtain ⟨q', h1, h2⟩ := h.of_ r' hr'
    have ne : q' ≠ q := fun e => by
      rw [e] at h1
      obtain ⟨j, hj, ej⟩ := List.getElem_of_mem h1
      rw [List.length_take] at hj
      have e3 : M[j]? = some q := by rw [← ej, List.getElem_take, List.getElem?_eq_getElem]
      have := (List.getElem?_inj (by omega) mnd).mp (e3.trans hq.symm)
      omega
    have lt' := lt q' (List.mem_of_mem_take h1)
    exact ⟨fun e => ne (RoadOf.inj nd lt' (lt q qm) h2 hr (.inl e)), fun e => ne (RoadOf.inj nd lt' (lt q qm) h2 hr (.inr e))⟩
abbrev R_law_web : Prm := feedR fun m δr k => ∃ way : Str, δr = [.dt (.str way), .dt (.int 5)] ∧ PyData.strOk way = true ∧ m ≤ 40000 ∧ ∀ ps rs, WebN ps rs → k (m + 100) (.dt (webD ps rs)) []
theorem ok_law_web (G : Glob Tb base K mg C) : OkF Tb P w K mg base 6 "_law_web" ["_law_feed_here", "_law_way", "_law_most"] R_law_web := by
  refine okF_of 5 G.d_law_web sc_law_web (fun F => F.bindsN fun _ _ _ _ _ _ us hl => match us, hl with | [_, _, _], _ => rfl) (fun f cdv A outer s H E hr => ?_)
  have sc := sc_law_web
  have hv := hv_of hr
  have hu := hu_of hr
  have ok_law_draw_ := ok_law_draw (Tb := Tb) (P := P) (w := w) (base := base) G
  have ok_law_mixed_ := ok_law_mixed (Tb := Tb) (P := P) (w := w) (base := base) G
  have ok_law_names_ := ok_law_names (Tb := Tb) (P := P) (w := w) (base := base) G
  refine ⟨_, (pss_cons (ps_set (i := 3) sc.nd rfl (Or.inl rfl) (pe_ifExp (pt_cmpR (op_eqD hr.units) (pv 1) pe_str (nomark _)) (pe_callB (cr_max2 rfl) (by rfl) G.f_max (by decide +kernel) (pa_cons pe_int (pa_cons (pe_op op_add pe_int (pe_go 2 ok_law_draw_ (hr.mono (by decide)) rfl (pa_cons (pv 0) (pa_cons (pv 2) pa_nil)))) pa_nil))) (pe_op op_add pe_int (pe_go 2 ok_law_draw_ (hr.mono (by decide)) rfl (pa_cons (pv 0) (pa_cons (pv 2) pa_nil))))))
  (pss_cons (ps_par (i := 4) (j := 5) (by rfl) sc.nd rfl rfl (by decide) rfl rfl (pa_cons (pe_lst pa_nil) (pa_cons (pe_go 2 ok_law_draw_ (hr.mono (by decide)) rfl (pa_cons (pv 0) (pa_cons pe_int pa_nil))) pa_nil)) (by rfl))
  (pss_cons (ps_for PassesOwn.never rfl (pi_range2 rfl G.f_range (pa_cons pe_int (pa_cons (pv 3) pa_nil))) (pg_name (i := 6) sc.nd rfl (Or.inl rfl)) (pss_cons (ps_set (i := 7) sc.nd rfl (Or.inl rfl) (pe_ifExp (PW.pt (pw_or (pt_cmpR (op_eqD hr.units) (pv 5) pe_int (nomark _)) (pw_or1 (pt_cmpR (op_eqD hr.units) (pv 1) pe_str (nomark _))))) (pe_op op_sub (pv 6) pe_int) (pe_ifExp (pt_cmpR (op_eqD hr.units) (pv 5) pe_int (nomark _)) pe_int (pe_go 2 ok_law_draw_ (hr.mono (by decide)) rfl (pa_cons (pv 0) (pa_cons (pv 6) pa_nil))))))
  (pss_one (ps_if (PW.pt (pw_or (pt_cmpR (op_neD hr.units) (pv 1) pe_str (nomark _)) (pw_or1 (pt_cmpR op_gt (pe_go 2 ok_law_draw_ (hr.mono (by decide)) rfl (pa_cons (pv 0) (pa_cons pe_int pa_nil))) pe_int (nomark _))))) (pss_one (ps_expr (pe_bm (PySem.F.plainAttrs_list) (PySem.F.slot_list_append) (PySem.F.type_list_append) mt_append (pv 4) (pa_cons (pe_tupF (pa_cons (pv 7) (pa_cons (pv 6) pa_nil))) pa_nil)))) pss_nil))))
  (pss_cons (ps_if (pt_cmpR (op_eqD hr.units) (pv 1) pe_str (nomark _)) (pss_one (ps_expr (pe_bm (PySem.F.plainAttrs_list) (PySem.F.slot_list_append) (PySem.F.type_list_append) mt_append (pv 4) (pa_cons (pe_tupF (pa_cons pe_int (pa_cons (pe_op op_sub (pv 3) pe_int) pa_nil))) pa_nil)))) pss_nil)
  (pss_cons (ps_for PassesOwn.never rfl (pi_range1 rfl G.f_range (pa_cons (pe_ifExp (PW.pt (pw_and (pt_cmpR (op_inTp hv) (pv 1) (pe_tupF (pa_cons pe_str (pa_cons pe_str pa_nil))) (by rfl)) (pw_and1 (pt_cmpR op_gt (pv 3) pe_int (nomark _))))) (pe_go 2 ok_law_draw_ (hr.mono (by decide)) rfl (pa_cons (pv 0) (pa_cons pe_int pa_nil))) pe_int) pa_nil)) (pg_name (i := 8) sc.nd rfl (Or.inl rfl)) (pss_cons (ps_set (i := 9) sc.nd rfl (Or.inl rfl) (pe_go 2 ok_law_draw_ (hr.mono (by decide)) rfl (pa_cons (pv 0) (pa_cons (pv 3) pa_nil))))
  (pss_cons (ps_set (i := 10) sc.nd rfl (Or.inl rfl) (pe_op op_modN (pe_callTy cr_int1 (by rfl) G.f_int (by decide +kernel) (pa_cons (pe_op op_add (pe_op op_add (pv 9) pe_int) (pe_go 2 ok_law_draw_ (hr.mono (by decide)) rfl (pa_cons (pv 0) (pa_cons (pe_op op_sub (pv 3) pe_int) pa_nil)))) pa_nil)) (pv 3)))
  (pss_cons (ps_set (i := 11) sc.nd rfl (Or.inl rfl) (pe_tupF (pa_cons (pe_callB (cr_min2 rfl) (by rfl) G.f_min (by decide +kernel) (pa_cons (pv 9) (pa_cons (pv 10) pa_nil))) (pa_cons (pe_callB (cr_max2 rfl) (by rfl) G.f_max (by decide +kernel) (pa_cons (pv 9) (pa_cons (pv 10) pa_nil))) pa_nil))))
  (pss_one (ps_if (pt_cmpR (op_notInD hv) (pv 11) (pv 4) (by rfl)) (pss_one (ps_expr (pe_bm (PySem.F.plainAttrs_list) (PySem.F.slot_list_append) (PySem.F.type_list_append) mt_append (pv 4) (pa_cons (pv 11) pa_nil)))) pss_nil))))))
  (pss_cons (ps_set (i := 12) sc.nd rfl (Or.inl rfl) (pe_go 2 ok_law_names_ (hr.mono (by decide)) rfl (pa_cons (pv 0) (pa_cons (pv 3) pa_nil))))
  (pss_cons (ps_set (i := 13) sc.nd rfl (Or.inl rfl) (pe_lst pa_nil))
  (pss_cons (ps_for PassesOwn.never rfl (pi_list (pe_go 2 ok_law_mixed_ (hr.mono (by decide)) rfl (pa_cons (pv 0) (pa_cons (pv 4) pa_nil)))) (pg_tup (n := 2) rfl (pgs_cons (pg_name (i := 9) sc.nd rfl (Or.inl rfl)) (pgs_cons (pg_name (i := 10) sc.nd rfl (Or.inl rfl)) pgs_nil))) (pss_one (ps_expr (pe_bm (PySem.F.plainAttrs_list) (PySem.F.slot_list_append) (PySem.F.type_list_append) mt_append (pv 13) (pa_cons (pe_ifExp (pt_cmpR (op_eqD hr.units) (pe_go 2 ok_law_draw_ (hr.mono (by decide)) rfl (pa_cons (pv 0) (pa_cons pe_int pa_nil))) pe_int (nomark _)) (pe_tupF (pa_cons (pe_ix L2.ix_list (pv 12) (pv 9) (fun _ _ => rfl)) (pa_cons (pe_ix L2.ix_list (pv 12) (pv 10) (fun _ _ => rfl)) pa_nil))) (pe_tupF (pa_cons (pe_ix L2.ix_list (pv 12) (pv 10) (fun _ _ => rfl)) (pa_cons (pe_ix L2.ix_list (pv 12) (pv 9) (fun _ _ => rfl)) pa_nil)))) pa_nil)))))
  (pss_one (ps_ret (pe_tupF (pa_cons (pe_callTy call_tupF (by rfl) G.f_tuple (by decide +kernel) (pa_cons (pe_go 2 ok_law_mixed_ (hr.mono (by decide)) rfl (pa_cons (pv 0) (pa_cons (pv 12) pa_nil))) pa_nil)) (pa_cons (pe_callTy call_tupF (by rfl) G.f_tuple (by decide +kernel) (pa_cons (pv 13) pa_nil)) pa_nil))))))))))))), ?_⟩
  clear sc hu
  rintro δ ω Φ ⟨f0, o, m, δr, rfl, rfl, hf, way, rfl, hway, hm, q⟩
  show RR Tb _ [.pt f0, .dt (.str way), .dt (.int 5), .un, .un, .un, .un, .un, .un, .un, .un, .un, .un, .un] [(f0, o)] _
  refine rr_cut (fun δ' ω' => ∃ (n : Nat) (o' : Ob), Feed (m + 1) o' ∧ 1 ≤ n ∧ n ≤ 5 ∧ (way = "ring" → 3 ≤ n) ∧ δ' = [.pt f0, .dt (.str way), .dt (.int 5), .dt (.int (n : Nat)), .un, .un, .un, .un, .un, .un, .un, .un, .un, .un] ∧ ω' = [(f0, o')]) ?_ ?_
  · walk_at "km"
    refine ox_eqs _ hway ok_ring ?_
    refine ⟨_, rfl, ?_⟩
    by_cases hr : way = "ring"
    · refine ifT (decide_eq_true hr) ?_
      walk_at "km"
      refine ⟨f0, o, m, [], [], [.dt (.int (5 : Nat))], [.dt (.int (5 : Nat))], rfl, rfl, rfl, hf, .dt .nil, 5, rfl, by omega, by omega, by omega, fun r hr5 o' ho => ?_⟩
      walk_at "km"
      refine kx_max2 ?_
      refine ⟨max 3 (1 + r), o', ho, by omega, by omega, fun _ => by omega, ?_, rfl⟩
      have e : (if (1 + (r : Int)) > 3 then (1 + (r : Int)) else 3) = ((max 3 (1 + r) : Nat) : Int) := by
        split <;> omega
      rw [e]
    · refine ifF (decide_eq_false hr) ?_
      walk_at "km"
      refine ⟨f0, o, m, [], [], [.dt (.int (5 : Nat))], [.dt (.int (5 : Nat))], rfl, rfl, rfl, hf, .dt .nil, 5, rfl, by omega, by omega, by omega, fun r hr5 o' ho => ?_⟩
      walk_at "km"
      refine ⟨1 + r, o', ho, by omega, by omega, fun z => absurd z hr, ?_, rfl⟩
      rw [Int.natCast_add]
      rfl
  rintro δ' ω' ⟨n, o', hf1, n1, n5, nr, rfl, rfl⟩
  refine rr_cut (fun δ' ω' => ∃ (p : Addr) (sh : Nat) (o' : Ob), Feed (m + 2) o' ∧ sh < 3 ∧ δ' = [.pt f0, .dt (.str way), .dt (.int 5), .dt (.int (n : Nat)), .pt p, .dt (.int (sh : Nat)), .un, .un, .un, .un, .un, .un, .un, .un] ∧ ω' = [(f0, o'), (p, .ls [])]) ?_ ?_
  · walk_at "km"
    intro p
    walk_at "km"
    refine ⟨f0, o', m + 1, [(p, .ls [])], [], [.dt (.int (3 : Nat))], [.dt (.int (3 : Nat))], rfl, rfl, rfl, hf1, .dt .nil, 3, rfl, by omega, by omega, by omega, fun r hr o2 ho => ?_⟩
    walk_at "km"
    exact ⟨p, r, o2, ho, hr, rfl, rfl⟩
  rintro δ' ω' ⟨p, sh, o', hf2, hsh, rfl, rfl⟩
  refine rr_cut (fun δ' ω' => ∃ (L : List (Nat × Nat)) (s6 s7 : Sl) (o' : Ob), Feed (m + 20) o' ∧ PairsA way (n - 1) L ∧ δ' = [.pt f0, .dt (.str way), .dt (.int 5), .dt (.int (n : Nat)), .pt p, .dt (.int (sh : Nat)), s6, s7, .un, .un, .un, .un, .un, .un] ∧ ω' = [(f0, o'), (p, .ls (L.map prD))]) ?_ ?_
  · refine rr_for T (fun i δ' ω' => ∃ (L : List (Nat × Nat)) (s6 s7 : Sl) (o' : Ob), Feed (m + 2 + 2 * i) o' ∧ PairsA way i L ∧ δ' = [.pt f0, .dt (.str way), .dt (.int 5), .dt (.int (n : Nat)), .pt p, .dt (.int (sh : Nat)), s6, s7, .un, .un, .un, .un, .un, .un] ∧ ω' = [(f0, o'), (p, .ls (L.map prD))]) ?_
    walk_at "km"
    refine ⟨by omega, ⟨[], _, _, o', hf2, ⟨by simp, List.nodup_nil, Nat.le_refl _, fun _ => by simp⟩, rfl, rfl⟩, fun _ _ _ _ => True.intro, ?_, ?_⟩
    · rintro i d δ' ω' hd ⟨L, s6, s7, o', hf3, pa, rfl, rfl⟩
      have hi : i < n - 1 := by
        have := (List.getElem?_eq_some_iff.mp hd).1
        rw [rangeD_len] at this
        omega
      rw [rangeD_at (by omega)] at hd
      cases hd
      refine for_name ?_
      walk_at "kms"
      refine rr_cut (fun δ' ω' => ∃ (back : Nat) (o' : Ob), Feed (m + 2 + 2 * i + 1) o' ∧ back ≤ i ∧ (way = "ring" → back = i) ∧ δ' = [.pt f0, .dt (.str way), .dt (.int 5), .dt (.int (n : Nat)), .pt p, .dt (.int (sh : Nat)), .dt (.int (1 + (i : Nat))), .dt (.int (back : Nat)), .un, .un, .un, .un, .un, .un] ∧ ω' = [(f0, o'), (p, .ls (L.map prD))]) ?_ ?_
      · walk_at "km"
        refine ox_eqi _ ?_
        refine ⟨_, rfl, ?_⟩
        have e1 : (1 : Int) + (i : Int) - 1 = ((i : Nat) : Int) := by omega
        by_cases h0 : (sh : Int) = 0
        · refine ifT (decide_eq_true h0) ?_
          walk_at "km"
          rw [e1]
          exact ⟨i, o', hf3.mono (by omega), Nat.le_refl _, fun _ => rfl, rfl, rfl⟩
        refine ifF (decide_eq_false h0) ?_
        walk_at "km"
        refine ox_eqs _ hway ok_ring ?_
        refine ⟨_, rfl, ?_⟩
        by_cases hr : way = "ring"
        · refine ifT (decide_eq_true hr) ?_
          walk_at "km"
          rw [e1]
          exact ⟨i, o', hf3.mono (by omega), Nat.le_refl _, fun _ => rfl, rfl, rfl⟩
        refine ifF (decide_eq_false hr) ?_
        walk_at "km"
        refine ox_eqi _ ?_
        refine ⟨_, rfl, ?_⟩
        by_cases h1 : (sh : Int) = 1
        · refine ifT (decide_eq_true h1) ?_
          walk_at "km"
          exact ⟨0, o', hf3.mono (by omega), Nat.zero_le _, fun z => absurd z hr, rfl, rfl⟩
        refine ifF (decide_eq_false h1) ?_
        walk_at "km"
        refine ⟨f0, o', m + 2 + 2 * i, [], [(p, .ls (L.map prD))], [.dt (.int ((1 + i : Nat) : Int))], [.dt (.int ((1 + i : Nat) : Int))], ?_, rfl, rfl, hf3, .dt .nil, 1 + i, rfl, by omega, by omega, by omega, fun r hr2 o2 ho => ?_⟩
        · rw [Int.natCast_add]
          rfl
        walk_at "km"
        exact ⟨r, o2, ho, by omega, fun z => absurd z hr, rfl, rfl⟩
      rintro δ' ω' ⟨back, o2, hf4, hb, hbr, rfl, rfl⟩
      have pa1 : PairsA way (i + 1) L := ⟨fun q hq => ⟨(pa.lt q hq).1, Nat.le_succ_of_le (pa.lt q hq).2⟩, pa.nd, Nat.le_succ_of_le pa.few, pa.ring⟩
      have pa2 : PairsA way (i + 1) (L ++ [(back, i + 1)]) := by
        refine ⟨fun q hq => ?_, ?_, by rw [List.length_append]; exact Nat.succ_le_succ pa.few, fun hr q hq => ?_⟩
        · rcases List.mem_append.mp hq with h | h
          · exact pa1.lt q h
          · rw [List.mem_singleton.mp h]
            exact ⟨Nat.lt_succ_of_le hb, Nat.le_refl _⟩
        · refine List.nodup_append.mpr ⟨pa.nd, List.nodup_cons.mpr ⟨fun z => (nomatch z), List.nodup_nil⟩, fun a ha b hb2 e => ?_⟩
          rw [List.mem_singleton.mp hb2] at e
          have := (pa.lt a ha).2
          rw [e] at this
          simp at this
          omega
        · rcases List.mem_append.mp hq with h | h
          · exact pa.ring hr q h
          · rw [List.mem_singleton.mp h]
            simp [hbr hr]
      have ea : (L ++ [(back, i + 1)]).map prD = L.map prD ++ [.tuple [.int (back : Nat), .int (1 + (i : Nat))]] := by
        rw [List.map_append]
        simp [prD]
        omega
      walk_at "km"
      refine ox_ned _ 1 (okd_s 1 hway) (okd_s 1 ok_any) (by decide) fun b hb => ?_
      refine ⟨_, rfl, ?_⟩
      cases b with
      | false =>
        refine ifT rfl ?_
        walk_at "km"
        refine ex_append _ 1 ?_
        walk_at "km"
        refine ⟨⟨L.map prD, by simp⟩, ?_⟩
        walk_at "km"
        refine ⟨few_lt (by rw [List.length_map]; have := pa.few; omega), ?_⟩
        rw [← ea]
        exact ⟨_, Kp.refl _, L ++ [(back, i + 1)], _, _, o2, hf4.mono (by omega), pa2, rfl, rfl⟩
      | true =>
        refine ifF rfl ?_
        walk_at "km"
        refine ⟨f0, o2, m + 2 + 2 * i + 1, [], [(p, .ls (L.map prD))], [.dt (.int (5 : Nat))], [.dt (.int (5 : Nat))], rfl, rfl, rfl, hf4, .dt .nil, 5, rfl, by omega, by omega, by omega, fun r hr2 o3 ho => ?_⟩
        walk_at "km"
        by_cases hr0 : (0 : Int) < (r : Int)
        · refine ifT (decide_eq_true hr0) ?_
          walk_at "km"
          refine ex_append _ 1 ?_
          walk_at "km"
          refine ⟨⟨L.map prD, by simp⟩, ?_⟩
          walk_at "km"
          refine ⟨few_lt (by rw [List.length_map]; have := pa.few; omega), ?_⟩
          rw [← ea]
          exact ⟨_, Kp.refl _, L ++ [(back, i + 1)], _, _, o3, ho.mono (by omega), pa2, rfl, rfl⟩
        · refine ifF (decide_eq_false hr0) ?_
          walk_at "km"
          exact ⟨_, Kp.refl _, L, _, _, o3, ho.mono (by omega), pa1, rfl, rfl⟩
    · rintro δ' ω' ⟨L, s6, s7, o', hf3, pa, rfl, rfl⟩
      rw [rangeD_len] at hf3 pa
      have e : ((n : Int) - 1).toNat = n - 1 := by omega
      rw [e] at hf3 pa
      exact ⟨L, s6, s7, o', hf3.mono (by omega), pa, rfl, rfl⟩
  rintro δ' ω' ⟨L, s6, s7, o', hf3, pa, rfl, rfl⟩
  refine rr_cut (fun δ' ω' => ∃ (L : List (Nat × Nat)), PairsB n 5 L ∧ δ' = [.pt f0, .dt (.str way), .dt (.int 5), .dt (.int (n : Nat)), .pt p, .dt (.int (sh : Nat)), s6, s7, .un, .un, .un, .un, .un, .un] ∧ ω' = [(f0, o'), (p, .ls (L.map prD))]) ?_ ?_
  · have pb : PairsB n 5 L := ⟨fun q hq => ⟨(pa.lt q hq).1, by have := (pa.lt q hq).2; omega⟩, pa.nd, by have := pa.few; omega⟩
    walk_at "km"
    refine ox_eqs _ hway ok_ring ?_
    refine ⟨_, rfl, ?_⟩
    by_cases hr : way = "ring"
    · refine ifT (decide_eq_true hr) ?_
      have n3 := nr hr
      have pb2 : PairsB n 5 (L ++ [(0, n - 1)]) := by
        refine (PairsB.more (k := 4) ⟨pb.lt, pb.nd, by have := pa.few; omega⟩ (by omega) (by omega) fun h => ?_)
        have := pa.ring hr _ h
        simp at this
        omega
      have ea : (L ++ [(0, n - 1)]).map prD = L.map prD ++ [.tuple [.int 0, .int ((n : Int) - 1)]] := by
        rw [List.map_append]
        simp [prD]
        omega
      walk_at "km"
      refine ex_append _ 1 ?_
      walk_at "km"
      refine ⟨⟨L.map prD, by simp⟩, ?_⟩
      walk_at "km"
      refine ⟨few_lt (by rw [List.length_map]; have := pa.few; omega), ?_⟩
      rw [← ea]
      exact ⟨L ++ [(0, n - 1)], pb2, by first | rfl | trivial, by first | rfl | trivial⟩
    · refine ifF (decide_eq_false hr) ?_
      walk_at "km"
      exact ⟨L, pb, by first | rfl | trivial, by first | rfl | trivial⟩
  rintro δ' ω' ⟨L, pb, rfl, rfl⟩
  refine rr_cut (fun δ' ω' => ∃ (L : List (Nat × Nat)) (s8 s9 s10 s11 : Sl) (o' : Ob), Feed (m + 40) o' ∧ PairsB n 9 L ∧ δ' = [.pt f0, .dt (.str way), .dt (.int 5), .dt (.int (n : Nat)), .pt p, .dt (.int (sh : Nat)), s6, s7, s8, s9, s10, s11, .un, .un] ∧ ω' = [(f0, o'), (p, .ls (L.map prD))]) ?_ ?_
  · refine rr_for T (fun i δ' ω' => ∃ (L : List (Nat × Nat)) (s8 s9 s10 s11 : Sl) (o' : Ob), Feed (m + 21 + 2 * i) o' ∧ PairsB n (5 + i) L ∧ δ' = [.pt f0, .dt (.str way), .dt (.int 5), .dt (.int (n : Nat)), .pt p, .dt (.int (sh : Nat)), s6, s7, s8, s9, s10, s11, .un, .un] ∧ ω' = [(f0, o'), (p, .ls (L.map prD))]) ?_
    walk_at "km"
    refine ox_in _ 1 (okd_s 1 hway) (by simp [okd, okds, ok_whole, ok_any]) (by decide) fun b hb => ?_
    walk_at "km"
    cases b with
    | false =>
      refine ifF rfl ?_
      walk_at "km"
      refine ⟨by decide, by decide, ⟨L, _, _, _, _, o', hf3.mono (by omega), pb, rfl, rfl⟩, fun _ _ _ _ => True.intro, fun i d δ' ω' hd => ?_, ?_⟩
      · exact absurd (List.getElem?_eq_some_iff.mp hd).1 (by rw [rangeD_len]; simp)
      · rintro δ' ω' ⟨L, s8, s9, s10, s11, o2, hf4, pb2, rfl, rfl⟩
        rw [rangeD_len] at hf4 pb2
        exact ⟨L, s8, s9, s10, s11, o2, hf4.mono (by simp), pb2.mono (by simp), rfl, rfl⟩
    | true =>
      refine ifT rfl ?_
      walk_at "km"
      by_cases h2 : (2 : Int) < (n : Int)
      · refine ifT (decide_eq_true h2) ?_
        walk_at "km"
        refine ⟨f0, o', m + 20, [], [(p, .ls (L.map prD))], [.dt (.int (5 : Nat))], [.dt (.int (5 : Nat))], rfl, rfl, rfl, hf3, .dt .nil, 5, rfl, by omega, by omega, by omega, fun N hN o2 ho => ?_⟩
        walk_at "km"
        refine ⟨by omega, by omega, ⟨L, _, _, _, _, o2, ho, pb, rfl, rfl⟩, fun _ _ _ _ => True.intro, ?_, ?_⟩
        · rintro i d δ' ω' hd ⟨L, s8, s9, s10, s11, o3, hf4, pb2, rfl, rfl⟩
          have hi : i < N := by
            have := (List.getElem?_eq_some_iff.mp hd).1
            rw [rangeD_len] at this
            omega
          rw [rangeD_at (by omega)] at hd
          cases hd
          refine for_name ?_
          walk_at "kms"
          walk_at "km"
          refine ⟨f0, o3, m + 21 + 2 * i, [], [(p, .ls (L.map prD))], [.dt (.int (n : Nat))], [.dt (.int (n : Nat))], rfl, rfl, rfl, hf4, .dt .nil, n, rfl, by omega, by omega, by omega, fun r1 hr1 o4 ho4 => ?_⟩
          walk_at "km"
          refine ⟨f0, o4, m + 21 + 2 * i + 1, [], [(p, .ls (L.map prD))], [.dt (.int ((n - 1 : Nat) : Int))], [.dt (.int ((n - 1 : Nat) : Int))], by rw [show ((n : Int) - 1) = ((n - 1 : Nat) : Int) from by omega], rfl, rfl, ho4, .dt .nil, n - 1, rfl, by omega, by omega, by omega, fun r2 hr2 o5 ho5 => ?_⟩
          obtain ⟨t1, t2⟩ := turn_mod hr1 hr2
          walk_at "km"
          refine kx_intI ?_
          walk_at "km"
          refine ox_iI (by omega) ?_
          rw [fmod_nat]
          generalize (r1 + 1 + r2) % n = u at t1 t2
          walk_at "km"
          refine kx_min2 ?_
          walk_at "km"
          refine kx_max2 ?_
          walk_at "km"
          rw [min_max]
          refine ox_notinl _ 1 (isLs_tl isLs_hd) (okd_pr _) (okds_map fun q _ => okd_pr q) (by decide) fun b hb => ?_
          rw [prD_mem] at hb
          refine ⟨_, rfl, ?_⟩
          cases b with
          | true =>
            refine ifF rfl ?_
            walk_at "km"
            exact ⟨_, Kp.refl _, L, _, _, _, _, o5, ho5.mono (by omega), pb2.mono (by omega), rfl, rfl⟩
          | false =>
            refine ifT rfl ?_
            have new : (min r1 u, max r1 u) ∉ L := fun h => by have := hb.mpr h; cases this
            walk_at "km"
            refine ex_append _ 1 ?_
            walk_at "km"
            refine ⟨⟨L.map prD, by simp⟩, ?_⟩
            walk_at "km"
            refine ⟨few_lt (by rw [List.length_map]; have := pb2.few; omega), ?_⟩
            refine ⟨_, Kp.refl _, L ++ [(min r1 u, max r1 u)], _, _, _, _, o5, ho5.mono (by omega), pb2.more (by omega) (by omega) new, rfl, ?_⟩
            rw [List.map_append]
            rfl
        · rintro δ' ω' ⟨L, s8, s9, s10, s11, o3, hf4, pb2, rfl, rfl⟩
          rw [rangeD_len] at hf4 pb2
          exact ⟨L, s8, s9, s10, s11, o3, hf4.mono (by omega), pb2.mono (by omega), rfl, rfl⟩
      · refine ifF (decide_eq_false h2) ?_
        walk_at "km"
        refine ⟨by decide, by decide, ⟨L, _, _, _, _, o', hf3.mono (by omega), pb, rfl, rfl⟩, fun _ _ _ _ => True.intro, fun i d δ' ω' hd => ?_, ?_⟩
        · exact absurd (List.getElem?_eq_some_iff.mp hd).1 (by rw [rangeD_len]; simp)
        · rintro δ' ω' ⟨L, s8, s9, s10, s11, o2, hf4, pb2, rfl, rfl⟩
          rw [rangeD_len] at hf4 pb2
          exact ⟨L, s8, s9, s10, s11, o2, hf4.mono (by simp), pb2.mono (by simp), rfl, rfl⟩
  rintro δ' ω' ⟨L, s8, s9, s10, s11, o', hf5, pb, rfl, rfl⟩
  refine rr_cut (fun δ' ω' => ∃ (l : List Str) (pn pr : Addr) (o' : Ob), Feed (m + 52) o' ∧ l.Nodup ∧ (∀ z ∈ l, z ∈ theNames) ∧ l.length = n ∧ δ' = [.pt f0, .dt (.str way), .dt (.int 5), .dt (.int (n : Nat)), .pt p, .dt (.int (sh : Nat)), s6, s7, s8, s9, s10, s11, .pt pn, .un] ∧ ω' = [(f0, o'), (pn, .ls (l.map .str)), (p, .ls (L.map prD))]) ?_ ?_
  · walk_at "km"
    refine ⟨f0, o', m + 40, [], [(p, .ls (L.map prD))], [.dt (.int (n : Nat))], [.dt (.int (n : Nat))], rfl, rfl, rfl, hf5, .dt .nil, n, rfl, by omega, by omega, fun l h1 h2 h3 pn o2 ho => ?_⟩
    walk_at "km"
    exact ⟨l, pn, pn, o2, ho, h1, h2, h3, rfl, rfl⟩
  rintro δ' ω' ⟨l, pn, _, o2, hf6, lnd, lnm, ll, rfl, rfl⟩
  walk_at "km"
  intro pr
  have Llen := pb.few
  refine rr_cut (fun δ' ω' => ∃ (R : List (Str × Str)) (M : List (Nat × Nat)) (s9 s10 : Sl) (o' : Ob), Feed (m + 80) o' ∧ M.Perm L ∧ RoadsOk l M M.length R ∧ δ' = [.pt f0, .dt (.str way), .dt (.int 5), .dt (.int (n : Nat)), .pt p, .dt (.int (sh : Nat)), s6, s7, s8, s9, s10, s11, .pt pn, .pt pr] ∧ Kp ω' [(f0, o'), (pr, .ls (R.map rdD)), (pn, .ls (l.map .str))]) ?_ ?_
  · refine rr_forE T ?_
    refine ix_list _ ?_
    walk_at "km"
    refine ⟨f0, o2, m + 52, [(pr, .ls [])], [(pn, .ls (l.map .str)), (p, .ls (L.map prD))], [.pt p], [.bo (.ls (L.map prD))], rfl, rfl, rfl, hf6, .lend (by simp) .nil, L.map prD, .inl rfl, by rw [List.length_map]; omega, by rw [List.length_map]; omega, fun es' hp pm o3 ho => ?_⟩
    obtain ⟨M, hM, rfl⟩ := perm_of_map hp rfl
    have Mlen := hM.length_eq
    rw [List.length_map] at ho
    refine ⟨M.map prD, .inr ⟨pm, rfl, by simp, fun i δ' ω' => ∃ (R : List (Str × Str)) (s9 s10 : Sl) (o' : Ob), Feed (m + 62 + i) o' ∧ RoadsOk l M i R ∧ δ' = [.pt f0, .dt (.str way), .dt (.int 5), .dt (.int (n : Nat)), .pt p, .dt (.int (sh : Nat)), s6, s7, s8, s9, s10, s11, .pt pn, .pt pr] ∧ ω' = [(f0, o'), (pm, .ls (M.map prD)), (pr, .ls (R.map rdD)), (pn, .ls (l.map .str)), (p, .ls (L.map prD))], ?_, ?_, ?_, ?_⟩⟩
    · exact ⟨[], _, _, o3, ho.mono (by omega), ⟨Nat.le_refl _, fun r hr => (nomatch hr), List.Pairwise.nil⟩, rfl, rfl⟩
    · rintro i δ' ω' ⟨R, s9, s10, o', _, _, _, rfl⟩
      simp
    · rintro i d δ' ω' hd ⟨R, s9, s10, o4, hf7, hR, rfl, rfl⟩
      rw [List.getElem?_map] at hd
      cases hr : M[i]? with
      | none => rw [hr] at hd; cases hd
      | some q =>
      rw [hr] at hd
      cases hd
      have hi : i < M.length := (List.getElem?_eq_some_iff.mp hr).1
      have qL : q ∈ L := hM.mem_iff.mp (List.mem_of_getElem? hr)
      have ql := pb.lt q qL
      obtain ⟨a, ha⟩ : ∃ a, l[q.1]? = some a := ⟨_, List.getElem?_eq_getElem (by omega)⟩
      obtain ⟨b, hb⟩ : ∃ b, l[q.2]? = some b := ⟨_, List.getElem?_eq_getElem (by omega)⟩
      have ml : ∀ q ∈ M, q.1 < q.2 := fun q hq => (pb.lt q (hM.mem_iff.mp hq)).1
      have mnd := hM.nodup_iff.mpr pb.nd
      have R1 := hR.more lnd mnd ml hr (r := (a, b)) ⟨a, b, ha, hb, .inl rfl⟩
      have R2 := hR.more lnd mnd ml hr (r := (b, a)) ⟨a, b, ha, hb, .inr rfl⟩
      rw [show prD q = PyData.tuple [.int (q.1 : Nat), .int (q.2 : Nat)] from rfl]
      walk_at "km"
      refine ex_append _ 2 ?_
      walk_at "km"
      refine ⟨⟨R.map rdD, by simp⟩, ?_⟩
      walk_at "km"
      refine ⟨f0, o4, m + 62 + i, [], [(pm, .ls (M.map prD)), (pr, .ls (R.map rdD)), (pn, .ls (l.map .str)), (p, .ls (L.map prD))], [.dt (.int (2 : Nat))], [.dt (.int (2 : Nat))], rfl, rfl, rfl, hf7, .dt .nil, 2, rfl, by omega, by omega, by omega, fun r hr2 o5 ho5 => ?_⟩
      have Rlen := hR.few
      walk_at "km"
      refine ox_eqi _ ?_
      refine ⟨_, rfl, ?_⟩
      by_cases h0 : (r : Int) = 0
      · refine ifT (decide_eq_true h0) ?_
        walk_at "km"
        refine ox_ixL _ (isLs_tl (isLs_tl (isLs_tl isLs_hd))) (d := .str a) (atI_nn (by rw [List.getElem?_map, ha]; rfl)) ?_
        walk_at "km"
        refine ox_ixL _ (isLs_tl (isLs_tl (isLs_tl isLs_hd))) (d := .str b) (atI_nn (by rw [List.getElem?_map, hb]; rfl)) ?_
        walk_at "km"
        refine ⟨few_lt (by rw [List.length_map]; omega), ?_⟩
        refine ⟨_, Kp.refl _, R ++ [(a, b)], _, _, o5, ho5, R1, rfl, ?_⟩
        rw [List.map_append]
        rfl
      · refine ifF (decide_eq_false h0) ?_
        walk_at "km"
        refine ox_ixL _ (isLs_tl (isLs_tl (isLs_tl isLs_hd))) (d := .str b) (atI_nn (by rw [List.getElem?_map, hb]; rfl)) ?_
        walk_at "km"
        refine ox_ixL _ (isLs_tl (isLs_tl (isLs_tl isLs_hd))) (d := .str a) (atI_nn (by rw [List.getElem?_map, ha]; rfl)) ?_
        walk_at "km"
        refine ⟨few_lt (by rw [List.length_map]; omega), ?_⟩
        refine ⟨_, Kp.refl _, R ++ [(b, a)], _, _, o5, ho5, R2, rfl, ?_⟩
        rw [List.map_append]
        rfl
    · rintro δ' ω' ⟨R, s9, s10, o', h1, h2, rfl, rfl⟩
      rw [List.length_map] at h1 h2
      exact ⟨R, M, s9, s10, o', h1.mono (by omega), hM, h2, rfl, Kp.cons2 (Kp.cons (Kp.cons2 (Kp.cons2 (kp_nil _))))⟩
  rintro δ' ω' ⟨R, M, s9, s10, o3, hf7, hM, hR, rfl, hk⟩
  have Mlen := hM.length_eq
  have Rlen := hR.few
  refine rr_kp hk ?_
  walk_at "km"
  refine ⟨f0, o3, m + 80, [], [(pr, .ls (R.map rdD)), (pn, .ls (l.map .str))], [.pt pn], [.bo (.ls (l.map .str))], rfl, rfl, rfl, hf7, .lend (by simp) .nil, l.map .str, .inl rfl, by rw [List.length_map]; omega, by rw [List.length_map]; omega, fun es' hp p2 o4 ho => ?_⟩
  obtain ⟨ps, hps, rfl⟩ := perm_of_map hp rfl
  rw [List.length_map] at ho
  walk_at "km"
  refine kx_tuple _ (isLs_tl isLs_hd) ?_
  walk_at "km"
  refine kx_tuple _ (isLs_tl (isLs_tl isLs_hd)) ?_
  walk_at "km"
  have W : WebN ps R := by
    have mem : ∀ z, z ∈ ps ↔ z ∈ l := fun z => hps.mem_iff
    have pl := hps.length_eq
    refine ⟨⟨⟨hps.nodup_iff.mpr lnd, fun r hr => ?_, hR.one⟩, by omega, by omega, by omega, fun z hz => ?_⟩, fun z hz => lnm z ((mem z).mp hz)⟩
    · obtain ⟨q, hq, a, b, ha, hb, e⟩ := hR.of_ r hr
      have ql := pb.lt q (hM.mem_iff.mp (List.mem_of_mem_take hq))
      have ne : a ≠ b := fun e => by
        rw [e] at ha
        have := at_inj lnd ha hb
        omega
      have ma := (mem a).mpr (List.mem_of_getElem? ha)
      have mb := (mem b).mpr (List.mem_of_getElem? hb)
      rcases e with rfl | rfl
      · exact ⟨ma, mb, ne⟩
      · exact ⟨mb, ma, fun e => ne e.symm⟩
    · exact (names_ok z (lnm z ((mem z).mp hz))).2.2.1
  exact kp_end (Kp.cons2 (kp_nil _)) (q ps R W o4 (ho.mono (by omega)))
end Km
/-! Text KmZ -/
namespace Km
open PySem PySem.Spec PyProof.Rows L2 LamX
local macro_rules
  | `(tactic| walk_at "km1") => `(tactic| first
    | ((with_reducible apply ex_v); (focus rfl); (focus rfl))
    | with_reducible refine ex_int ?_
    | with_reducible refine ex_str ?_
    | with_reducible refine ex_bl ?_
    | with_reducible refine ex_non ?_
    | with_reducible refine ex_op ?_
    | with_reducible refine ex_un ?_
    | with_reducible refine ux_neg ?_
    | with_reducible refine ox_i0I ?_
    | with_reducible refine ox_i0B ?_
    | with_reducible refine ex_tup ?_
    | with_reducible refine ex_lst ?_
    | with_reducible refine ex_slT _ ?_
    | with_reducible refine ex_slL _ ?_
    | with_reducible refine px_none ?_
    | with_reducible refine px_some ?_
    | with_reducible refine ea_nil ?_
    | with_reducible refine ea_cons ?_
    | with_reducible refine ex_isi _ ?_
    | with_reducible refine ex_cb ?_
    | with_reducible refine ex_isN ?_
    | with_reducible refine ex_notN ?_
    | with_reducible refine ex_chain ?_
    | with_reducible refine ex_if ?_
    | with_reducible refine ex_and ?_
    | with_reducible refine ex_or ?_
    | with_reducible refine ex_not ?_
    | with_reducible refine ex_tix _ ?_
    | with_reducible refine ex_goD ?_
    | with_reducible refine ex_goN ?_
    | with_reducible refine ex_goF ?_
    | with_reducible refine ex_dget ?_
    | with_reducible refine ex_din ?_
    | with_reducible refine ex_dnotin ?_
    | with_reducible refine ex_dnew ?_
    | with_reducible refine et_test ?_
    | with_reducible refine et_val ?_
    | with_reducible refine et_and ?_
    | with_reducible refine et_or ?_
    | with_reducible refine et_not ?_
    | with_reducible refine et_yes ?_
    | with_reducible refine rr_seq ?_
    | with_reducible refine rr_asg ?_
    | with_reducible refine rr_ret ?_
    | with_reducible refine rr_retN ?_
    | with_reducible refine rr_drop ?_
    | with_reducible refine rr_if ?_
    | with_reducible refine rr_par ?_
    | with_reducible refine rr_next ?_
    | with_reducible refine rr_break ?_
    | with_reducible refine ix_tup _ ?_
    | with_reducible refine ix_range1 ?_
    | with_reducible refine ix_range2 ?_
    | with_reducible refine ix_down ?_
    | with_reducible refine ix_str ?_
    | with_reducible refine ix_keys ?_
    | with_reducible refine nb_dt ?_
    | with_reducible refine nb_pt ?_
    | with_reducible refine lc_name (by simp) ?_
    | with_reducible refine lc_pair (by simp) (by simp) ?_
    | with_reducible refine lc_new (by simp) (by simp) ?_
    | with_reducible refine for_name ?_
    | with_reducible refine for_pair ?_
    | with_reducible refine for_new ?_
    | with_reducible refine tup0 ?_
    | with_reducible refine tup1 ?_
    | with_reducible refine tup2 ?_
    | with_reducible refine tup3 ?_
    | with_reducible refine arg1 ?_
    | with_reducible refine arg2 ?_
    | with_reducible refine arg3 ?_
    | with_reducible refine arg4 ?_
    | with_reducible refine ⟨_, rfl, ?_⟩
    | with_reducible refine ⟨_, _, rfl, ?_⟩)
local macro_rules
  | `(tactic| walk_at "kms") => `(tactic| try simp (maxSteps := 2000) only [wipeS, List.map_cons, List.map_nil, List.set_cons_zero, List.set_cons_succ, Bool.false_eq_true, Bool.not_true, Bool.not_false, reduceIte])
local macro_rules
  | `(tactic| walk_at "km") => `(tactic| repeat (walk_at "km1"; walk_at "kms"))
local macro_rules
  | `(tactic| walk_at "kp") => `(tactic| repeat (first | exact Kp.refl _ | refine Kp.cons2 ?_ | refine Kp.cons ?_))
local macro_rules
  | `(tactic| walk_at "ls") => `(tactic| repeat (first | exact isLs_hd | exact isLs_bo | refine isLs_tl ?_))

theorem chn_mem {ps : List Str} {rs : List (Str × Str)} (W : Web ps rs) : ∀ {x y : Str} {l : List Str}, chn (adj rs) (x :: y :: l) → ∀ z ∈ x :: y :: l, z ∈ ps
  | x, y, [], h, z, hz => by
    obtain ⟨h1, h2, _⟩ := W.adjE h.1
    rcases List.mem_cons.mp hz with rfl | hz
    · exact h1
    · rw [List.mem_singleton.mp hz]; exact h2
  | x, y, t :: l, h, z, hz => by
    rcases List.mem_cons.mp hz with rfl | hz
    · exact (W.adjE h.1).1
    · exact chn_mem W h.2 z hz
theorem rings_sub {ps : List Str} {rs : List (Str × Str)} (W : Web ps rs) {res : List (List Str)} (R : LawRings ps rs res) : ∀ l ∈ res, ∀ y ∈ l, y ∈ ps := by
  intro l hl y hy
  have h := R.ring l hl
  match l, h.three, h.chain, hy with
  | a :: b :: r, _, hc, hy => exact chn_mem W (l := r ++ [a]) hc y (by
      rcases List.mem_cons.mp hy with rfl | hy
      · exact List.mem_cons_self ..
      · rcases List.mem_cons.mp hy with rfl | hy
        · exact List.mem_cons_of_mem _ (List.mem_cons_self ..)
        · exact List.mem_cons_of_mem _ (List.mem_cons_of_mem _ (List.mem_append_left _ hy)))
theorem ways_ok : ∀ z ∈ (["ring", "whole", "whole", "any", "tree"] : List Str), PyData.strOk z = true := by decide +kernel
variable {Tb : List (Addr × Str)} {P : Program} {w : World} {K : PySem.W.Frag} {mg : Str → Option Value} {base : Heap} {C : Addr}
theorem rr_par3 {i j l : Nat} {tr : L2.TA} {δ : List Sl} {ω : Om} {Q0 : Po} (h : EA Tb tr δ ω fun ss ω' => ∃ s1 s2 s3, ss = [s1, s2, s3] ∧ Q0.nx (((δ.set i s1).set j s2).set l s3) ω') : RR Tb (tPar3 i j l tr) δ ω Q0 := fun B σ H D S k1 _ _ _ =>
  h B σ H _ S fun vs ss ω' H' q e k p => by
    obtain ⟨s1, s2, s3, rfl, q⟩ := q
    match vs, k with
    | [v1, v2, v3], k => exact ⟨v1, v2, v3, rfl, k1 _ ω' _ H' q e ((((S.re e p).set i k.1).set j k.2.1).set l k.2.2.1)⟩
theorem fnF_of {x : Str} {st : Stmt} {ps N : List Str} {R : Prm} (k : Nat) {f : Addr} {fd : FuncData} (F : FunD K x x (defArgs st) (defBody st) (defScope st) [] [] f fd) (S : FnScope N ps (defScope st))
    (body : ∀ (f : Addr) (cdv : Value) (A : Around) (outer : List Env) (s : Shared) (H : Hp) (E : XK), Room k (A.deeper (envOfC x (defScope st) s.heap.objs.size f cdv)) →
      ∃ t, PSs (cxOf CX0 P w K mg base N x (defScope st) f cdv A outer s H E).nox (defBody st) t ∧ ∀ δ ω Φ, R δ ω Φ → RR Tb t (δ ++ List.replicate (N.length - ps.length) .un) ω { nx := fun _ ω' => ∃ ω'', Kp ω' ω'' ∧ Φ (.dt .none) ω'', rt := fun s ω' => ∃ ω'', Kp ω' ω'' ∧ Φ s ω'' }) :
    FnOk P w K mg base CX0 (k + 1) f fd ps (spG Tb ps.length R) := by
  refine F.ok S (fun vs H Q E h => h.1) (fun cdv A outer s H vs Q E hr h => ?_)
  obtain ⟨t, h1, h2⟩ := body f cdv A outer s H E hr
  exact ⟨t, PSs.nox h1, body_ok h2 h⟩
/-! law(script) -/
abbrev R_law (K : PySem.W.Frag) : Prm := fun δ ω Φ => ω = [] ∧ ∃ ns : List Int, δ = [.bo (.sq K ns)] ∧ Φ (.dt (.bool true)) []
theorem run_law (G : Glob Tb base K mg C) {f0 : Addr} {fd : FuncData} (F : FunD K "law" "law" (defArgs s_law) (defBody s_law) (defScope s_law) [] [] f0 fd) : FnOk P w K mg base CX0 10 f0 fd ["_law_script"] (spG Tb 1 (R_law K)) := by
  refine fnF_of 9 F sc_law (fun f cdv A outer s H E hr => ?_)
  have sc := sc_law
  have hv := hv_of hr
  have hu := hu_of hr
  have ok_law_class_ := ok_law_class (Tb := Tb) (P := P) (w := w) (base := base) G
  have ok_law_feed_ := ok_law_feed (Tb := Tb) (P := P) (w := w) (base := base) G
  have ok_law_one_ := ok_law_one (Tb := Tb) (P := P) (w := w) (base := base) G
  have ok_law_order_ := ok_law_order (Tb := Tb) (P := P) (w := w) (base := base) G
  have ok_law_orders_ := ok_law_orders (Tb := Tb) (P := P) (w := w) (base := base) G
  have ok_law_pair_right_ := ok_law_pair_right (Tb := Tb) (P := P) (w := w) (base := base) G
  have ok_law_rings_of_ := ok_law_rings_of (Tb := Tb) (P := P) (w := w) (base := base) G
  have ok_law_web_ := ok_law_web (Tb := Tb) (P := P) (w := w) (base := base) G
  refine ⟨_, (pss_cons (ps_for PassesOwn.never rfl (pi_range1 rfl G.f_range (pa_cons (pe_callB (cr_max2 rfl) (by rfl) G.f_max (by decide +kernel) (pa_cons pe_int (pa_cons (pe_callB (cr_min2 rfl) (by rfl) G.f_min (by decide +kernel) (pa_cons (pe_callB cr_lenQ (by rfl) G.f_len (by decide +kernel) (pa_cons (pv 0) pa_nil)) (pa_cons pe_int pa_nil))) pa_nil))) pa_nil)) (pg_name (i := 1) sc.nd rfl (Or.inl rfl)) (pss_cons (ps_set (i := 2) sc.nd rfl (Or.inl rfl) (pe_go 2 ok_law_feed_ (hr.mono (by decide)) rfl (pa_cons (pv 0) (pa_cons (pv 1) pa_nil))))
  (pss_cons (ps_set (i := 3) sc.nd rfl (Or.inl rfl) (pe_go 3 ok_law_web_ (hr.mono (by decide)) rfl (pa_cons (pv 2) (pa_cons (pe_go 2 ok_law_one_ (hr.mono (by decide)) rfl (pa_cons (pv 2) (pa_cons (pe_lst (pa_cons pe_str (pa_cons pe_str (pa_cons pe_str (pa_cons pe_str (pa_cons pe_str pa_nil)))))) pa_nil))) (pa_cons pe_int pa_nil)))))
  (pss_cons (ps_par3 (i := 4) (j := 5) (l := 6) (by rfl) sc.nd rfl rfl rfl (by decide) (by decide) (by decide) rfl rfl rfl (pa_cons (pe_go 2 ok_law_order_ (hr.mono (by decide)) rfl (pa_cons (pv 2) (pa_cons (pv 3) pa_nil))) (pa_cons (pe_go 2 ok_law_rings_of_ (hr.mono (by decide)) rfl (pa_cons (pv 3) (pa_cons pe_int pa_nil))) (pa_cons (pe_go 1 ok_law_orders_ (hr.mono (by decide)) rfl (pa_cons (pe_ix L2.ix_tup (pv 3) pe_int (fun _ _ => rfl)) pa_nil)) pa_nil))) (by rfl))
  (pss_cons (ps_set (i := 7) sc.nd rfl (Or.inl rfl) (pe_go 2 ok_law_class_ (hr.mono (by decide)) rfl (pa_cons (pv 3) (pa_cons (pv 4) pa_nil))))
  (pss_cons (ps_if (PW.pt (pw_and (pt_cmpR (op_eqD hr.units) (pv 5) (pe_lst pa_nil) (nomark _)) (pw_and1 (pt_cmpR (op_neD hr.units) (pe_callB cr_lenQ (by rfl) G.f_len (by decide +kernel) (pa_cons (pv 7) pa_nil)) (pe_callB cr_lenQ (by rfl) G.f_len (by decide +kernel) (pa_cons (pv 6) pa_nil)) (nomark _))))) (pss_one (ps_ret pe_bl)) pss_nil)
  (pss_one (ps_for PassesOwn.never rfl (pi_list (pv 6)) (pg_name (i := 8) sc.nd rfl (Or.inl rfl)) (pss_one (ps_if (pt_not (pt_val (pe_go 5 ok_law_pair_right_ (hr.mono (by decide)) rfl (pa_cons (pv 3) (pa_cons (pv 4) (pa_cons (pv 8) (pa_cons (pe_cmpR (op_inD hv) (pv 8) (pv 7) (by rfl)) (pa_cons (pv 5) pa_nil)))))))) (pss_one (ps_ret pe_bl)) pss_nil))))))))))
  (pss_one (ps_ret pe_bl))), ?_⟩
  clear sc hu
  rintro δ ω Φ ⟨rfl, ns, rfl, q⟩
  show RR Tb _ [.bo (.sq K ns), .un, .un, .un, .un, .un, .un, .un, .un] [] _
  refine rr_cut (fun δ' ω' => ω' = []) ?_ ?_
  · refine rr_for T (fun i δ' ω' => ∃ s1 s2 s3 s4 s5 s6 s7 s8, δ' = [.bo (.sq K ns), s1, s2, s3, s4, s5, s6, s7, s8] ∧ ω' = []) ?_
    walk_at "km"
    refine kx_lenSq _ ?_
    walk_at "km"
    refine kx_min2 ?_
    walk_at "km"
    refine kx_max2 ?_
    walk_at "km"
    refine ⟨by split <;> (try split) <;> omega, by split <;> (try split) <;> omega, ⟨_, _, _, _, _, _, _, _, rfl, by first | rfl | trivial⟩, fun _ _ _ _ => True.intro, ?_, ?_⟩
    · rintro i d δ' ω' hd ⟨s1, s2, s3, s4, s5, s6, s7, s8, rfl, rfl⟩
      obtain ⟨hi, hd2⟩ := List.getElem?_eq_some_iff.mp hd
      rw [rangeD_len] at hi
      rw [rangeD_at hi] at hd
      cases hd
      refine for_name ?_
      walk_at "kms"
      refine rr_cut (fun δ' ω' => ∃ f o, Feed 0 o ∧ δ' = [.bo (.sq K ns), .dt (.int (0 + (i : Nat))), .pt f, s3, s4, s5, s6, s7, s8] ∧ ω' = [(f, o)]) ?_ ?_
      · walk_at "km"
        refine ex_go ?_
        walk_at "km"
        rw [Int.zero_add]
        refine ⟨rfl, [], [], [.bo (.sq K ns), .dt (.int (i : Nat))], fun s ω' => ∃ f o, Feed 0 o ∧ s = .pt f ∧ ω' = [(f, o)], List.Perm.refl _, .bo (.dt .nil), ⟨rfl, ns, i, rfl, fun p o h => ⟨p, o, h, rfl, rfl⟩⟩, ?_⟩
        rintro s0 ω' _ ⟨f, o, hf, rfl, rfl⟩
        exact ⟨f, o, hf, rfl, rfl⟩
      rintro δ' ω' ⟨f, o, hf, rfl, rfl⟩
      refine rr_cut (fun δ' ω' => ∃ (ps : List Str) (rs : List (Str × Str)) (o : Ob), WebN ps rs ∧ Feed 101 o ∧ δ' = [.bo (.sq K ns), .dt (.int (0 + (i : Nat))), .pt f, .dt (webD ps rs), s4, s5, s6, s7, s8] ∧ Kp ω' [(f, o)]) ?_ ?_
      · walk_at "km"
        refine ⟨(["ring", "whole", "whole", "any", "tree"] : List Str).map .str, rfl, few_line (by decide), fun pw => ?_⟩
        walk_at "km"
        refine ⟨f, o, 0, [(pw, .ls ((["ring", "whole", "whole", "any", "tree"] : List Str).map .str))], [], [.pt pw], [.bo (.ls ((["ring", "whole", "whole", "any", "tree"] : List Str).map .str))], rfl, rfl, rfl, hf, .lend (by simp) .nil, _, rfl, by decide, by decide, by decide, fun e he o2 ho2 => ?_⟩
        obtain ⟨way, hway, rfl⟩ := List.mem_map.mp he
        walk_at "km"
        refine ⟨f, o2, 1, [], [(pw, .ls ((["ring", "whole", "whole", "any", "tree"] : List Str).map .str))], [.dt (.str way), .dt (.int 5)], [.dt (.str way), .dt (.int 5)], rfl, rfl, rfl, ho2, .dt (.dt .nil), way, rfl, ways_ok way hway, by decide, fun ps rs W o3 ho3 => ?_⟩
        exact ⟨ps, rs, o3, W, ho3, rfl, Kp.cons2 (Kp.cons (Kp.refl _))⟩
      rintro δ' ω' ⟨ps, rs, o3, W, ho3, rfl, hk⟩
      refine rr_kp hk ?_
      have p5 := W.v.p5
      refine rr_cut (fun δ' ω' => ∃ (od : List Str) (res : List (List Str)) (pr pe : Addr), od.Perm ps ∧ LawRings ps rs res ∧ δ' = [.bo (.sq K ns), .dt (.int (0 + (i : Nat))), .pt f, .dt (webD ps rs), .dt (tS od), .pt pr, .pt pe, s7, s8] ∧ Kp ω' [(pe, .ls ((ordsN ps.length ps).map tS)), (pr, .ls (res.map tS))]) ?_ ?_
      · refine rr_par3 ?_
        walk_at "km"
        refine ⟨f, o3, 101, [], [], [.dt (webD ps rs)], [.dt (webD ps rs)], rfl, rfl, rfl, ho3, .dt .nil, ps, rs, rfl, p5, by decide, fun od hod o4 ho4 => ?_⟩
        walk_at "km"
        refine ⟨W.v, fun res R pr => ?_⟩
        walk_at "km"
        refine ox_ixT _ (atI_n (j := 0) rfl) ?_
        walk_at "km"
        refine ⟨p5, W.v.law, fun pe => ?_⟩
        walk_at "km"
        exact ⟨_, _, _, rfl, od, res, pr, pe, hod, R, by first | rfl | trivial, Kp.cons2 (Kp.cons2 (kp_nil _))⟩
      rintro δ' ω' ⟨od, res, pr, pe, hod, R, rfl, hk2⟩
      refine rr_kp hk2 ?_
      walk_at "km"
      refine ⟨ps, rs, od, rfl, W.v, hod, fun got C gp g120 pl => ?_⟩
      have rfew := R.few
      have sub := rings_sub W.v.web R
      have hlaw : ∀ l ∈ res, Lawful l := fun l hl => W.v.okd (sub l hl)
      have oN := ordsN_mem ps.length ps rfl
      have glaw : ∀ g ∈ got, Lawful g := fun g hg => W.v.okd fun y hy => (gp g hg).mem_iff.mp hy
      refine rr_cut (fun δ' ω' => ∃ s8, δ' = [.bo (.sq K ns), .dt (.int (0 + (i : Nat))), .pt f, .dt (webD ps rs), .dt (tS od), .pt pr, .pt pe, .pt pl, s8] ∧ Kp ω' [(pl, .ls (got.map tS)), (pe, .ls ((ordsN ps.length ps).map tS)), (pr, .ls (res.map tS))]) ?_ ?_
      · walk_at "km"
        intro p0
        walk_at "km"
        refine ox_eql _ 1 (isLs_tl (isLs_tl (isLs_tl isLs_hd))) isLs_hd (okds_map fun l hl => okd_tS (hlaw l hl)) (by simp [okds]) (by decide) fun b hb => ?_
        refine ⟨_, rfl, ?_⟩
        cases b with
        | false =>
          refine ifF rfl ?_
          walk_at "km"
          exact Kp.cons (Kp.refl _)
        | true =>
          refine ifT rfl ?_
          have h0 : res = [] := List.map_eq_nil_iff.mp (hb.mp rfl)
          have hlen := class_all W.v.web hod C R h0
          walk_at "km"
          refine kx_lenL _ (isLs_tl isLs_hd) ?_
          walk_at "km"
          refine kx_lenL _ (isLs_tl (isLs_tl isLs_hd)) ?_
          refine ox_nei _ ?_
          refine ⟨_, rfl, ?_⟩
          rw [List.length_map, List.length_map, hlen]
          refine ifF (by simp) ?_
          walk_at "km"
          exact Kp.cons (Kp.refl _)
      rintro δ' ω' ⟨s8, rfl, hk3⟩
      refine rr_kp hk3 ?_
      refine rr_forE T ?_
      refine ix_list _ ?_
      walk_at "km"
      refine ⟨(ordsN ps.length ps).map tS, .inr ⟨pe, rfl, by simp, fun i2 δ' ω' => ∃ s8, δ' = [.bo (.sq K ns), .dt (.int (0 + (i : Nat))), .pt f, .dt (webD ps rs), .dt (tS od), .pt pr, .pt pe, .pt pl, s8] ∧ ω' = [(pl, .ls (got.map tS)), (pe, .ls ((ordsN ps.length ps).map tS)), (pr, .ls (res.map tS))], ⟨s8, rfl, rfl⟩, ?_, ?_, ?_⟩⟩
      · rintro i2 δ' ω' ⟨_, _, rfl⟩
        simp
      · rintro i2 d δ' ω' hd ⟨s8, rfl, rfl⟩
        rw [List.getElem?_map] at hd
        cases hr : (ordsN ps.length ps)[i2]? with
        | none => rw [hr] at hd; cases hd
        | some ot =>
        rw [hr] at hd
        cases hd
        have hot := (oN ot).mp (List.mem_of_getElem? hr)
        have olaw : Lawful ot := W.v.okd fun y hy => hot.mem_iff.mp hy
        walk_at "km"
        refine ex_go ?_
        walk_at "km"
        refine ox_inl _ 1 isLs_hd (okd_tS olaw) (okds_map fun g hg => okd_tS (glaw g hg)) (by decide) fun b hb => ?_
        have hb2 : b = true ↔ Pot rs (lead od ot) := by
          rw [hb, ← C.iff W.v.web hod hot]
          constructor
          · intro h
            obtain ⟨g, hg, e⟩ := List.mem_map.mp h
            rw [← tS_inj.mp e]
            exact hg
          · exact fun h => List.mem_map.mpr ⟨ot, h, rfl⟩
        walk_at "km"
        refine ⟨rfl, [], _, [.dt (webD ps rs), .dt (tS od), .dt (tS ot), .dt (.bool b), .bo (.ls (res.map tS))], fun s ω' => s = .dt (.bool true) ∧ ω' = [], List.Perm.refl _, .dt (.dt (.dt (.dt (.lend (by simp) .nil)))), ⟨rfl, ps, rs, od, ot, b, res, rfl, W, hod, hot, R, sub, hb2, rfl, rfl⟩, ?_⟩
        rintro s0 ω' _ ⟨rfl, rfl⟩
        refine ⟨true, rfl, ifF rfl ?_⟩
        walk_at "km"
        exact ⟨_, Kp.refl _, _, rfl, rfl⟩
      · rintro δ' ω' ⟨s8, rfl, rfl⟩
        exact ⟨[], kp_nil _, _, _, _, _, _, _, _, _, rfl, rfl⟩
    · rintro δ' ω' ⟨s1, s2, s3, s4, s5, s6, s7, s8, rfl, rfl⟩
      rfl
  rintro δ' ω' rfl
  walk_at "km"
  exact kp_end (Kp.refl _) q
end Km
/-! Text KmGlob -/
set_option maxHeartbeats 0
/-! .. is what the walk asks. -/
namespace Km
open PySem PySem.Spec PyProof.Rows L2 LamX
def lamTab (K : PySem.W.Frag) : List (Addr × Str) := [((He.cT K ("told_from_least", none)).2, (("told_from_least" : Str) ++ ".<locals>.") ++ "<lambda>")]
theorem stands_of {K : PySem.W.Frag} {h : Heap} {mg : Str → Option Value} (X : K.In h) (G : h.Ns mainGlobals mg) (c : He.SaysD fa fn K) {d : He.DefD} (hd : d ∈ fn) {x : Str} {st : Stmt} (e : d = ⟨(x, none), x, x, defArgs st, defBody st, defScope st, [], []⟩) (hx : He.Fa.glo x ∈ fa) : Stands K mg x st := by
  subst e
  obtain ⟨fd, F⟩ := c.defs hd
  exact ⟨_, fd, F, He.glo_ok X G (c.facts hx)⟩
theorem standsM_of {K : PySem.W.Frag} (c : He.SaysD fa fn K) {d : He.DefD} (hd : d ∈ fn) {m q : Str} {st : Stmt} (e : d = ⟨("Mover", some m), m, q, defArgs st, defBody st, defScope st, [], []⟩) (hx : He.Fa.meth "Mover" m ∈ fa) : StandsM K (He.ga K "Mover") m q st := by
  subst e
  obtain ⟨fd, F⟩ := c.defs hd
  exact ⟨_, fd, F, He.meth_ok (c.facts hx)⟩
theorem standsL_of {K : PySem.W.Frag} {h base : Heap} {mg : Str → Option Value} (X : K.In h) (G : h.Ns mainGlobals mg) (c : He.SaysD fa fn K) (TB : TabB base mg (He.cT K ("told_from_least", none)).1 (He.cT K ("told_from_least", none)).2) {d : He.DefD} (hd : d ∈ fn)
    (e : d = ⟨("told_from_least", none), "told_from_least", "told_from_least", defArgs s_told_from_least, defBody s_told_from_least, defScope s_told_from_least, [], []⟩) (hx : He.Fa.glo "told_from_least" ∈ fa) : StandsL (lamTab K) base K mg "told_from_least" s_told_from_least := by
  subst e
  obtain ⟨fd, F⟩ := c.defs hd
  obtain ⟨oc, od, dV, kV, doc, pm, an, cdv, ct, osl, e1, lk, hcd, hD, hK⟩ := F.ex
  obtain ⟨c0, e2⟩ := He.codeIn_ref hcd
  have e3 : He.codeOf K ("told_from_least", none) = c0 := He.codeOf_eq (p := ("told_from_least", none)) lk (by rw [e1]; exact e2)
  have e4 : (He.cT K ("told_from_least", none)).1 = c0 := e3
  refine ⟨⟨_, c0, (He.cT K ("told_from_least", none)).2, fd, oc, od, dV, kV, doc, pm, an, ct, osl, by rw [e1, e2], lk, by rw [← e2]; exact hcd, F.kp, F, He.glo_ok X G (c.facts hx), e4 ▸ TB, rfl⟩⟩
theorem init_of {K : PySem.W.Frag} (c : He.SaysD fa fn K) {d : He.DefD} (hd : d ∈ fn) {st : Stmt} (e : d = ⟨("Mover", some "__init__"), "__init__", "Mover.__init__", defArgs st, defBody st, defScope st, [], []⟩) (hx : He.Fa.mkr "Mover" ∈ fa) :
    ∃ f fd, FunD K "__init__" "Mover.__init__" (defArgs st) (defBody st) (defScope st) [] [] f fd ∧ Mk K (He.ga K "Mover") f := by
  subst e
  obtain ⟨fd, F⟩ := c.defs hd
  exact ⟨_, fd, F, He.mkr_ok (c.facts hx)⟩
theorem int_of {K : PySem.W.Frag} {h : Heap} {mg : Str → Option Value} (X : K.In h) (G : h.Ns mainGlobals mg) (c : He.SaysD fa fn K) {x : Str} {i : Int} (hx : He.Fa.int x i ∈ fa) : ∃ u, mg x = some u ∧ RelV (.int i) u := by
  obtain ⟨t, e⟩ := He.int_ok X G (c.facts hx)
  exact ⟨_, e, t, rfl⟩
theorem str_of {K : PySem.W.Frag} {h : Heap} {mg : Str → Option Value} (X : K.In h) (G : h.Ns mainGlobals mg) (c : He.SaysD fa fn K) {x z : Str} (hx : He.Fa.str x z ∈ fa) : ∃ u, mg x = some u ∧ RelV (.str z) u := by
  obtain ⟨t, e⟩ := He.str_ok X G (c.facts hx)
  exact ⟨_, e, t, rfl⟩
theorem glob_of {K : PySem.W.Frag} {h base : Heap} {mg : Str → Option Value} (X : K.In h) (G : h.Ns mainGlobals mg) (c : He.SaysD fa fn K) (TB : TabB base mg (He.cT K ("told_from_least", none)).1 (He.cT K ("told_from_least", none)).2) : Glob (lamTab K) base K mg (He.ga K "Mover") where
  d_arrows_of := stands_of X G c (d := d_arrows_of) (List.mem_of_getElem? (i := 0) rfl) rfl (List.mem_of_getElem? (i := 0) rfl)
  d_are_apart := stands_of X G c (d := d_are_apart) (List.mem_of_getElem? (i := 1) rfl) rfl (List.mem_of_getElem? (i := 1) rfl)
  d_exchanged := stands_of X G c (d := d_exchanged) (List.mem_of_getElem? (i := 2) rfl) rfl (List.mem_of_getElem? (i := 2) rfl)
  d_path_between := stands_of X G c (d := d_path_between) (List.mem_of_getElem? (i := 3) rfl) rfl (List.mem_of_getElem? (i := 3) rfl)
  d_is_integer := stands_of X G c (d := d_is_integer) (List.mem_of_getElem? (i := 4) rfl) rfl (List.mem_of_getElem? (i := 4) rfl)
  d_is_name := stands_of X G c (d := d_is_name) (List.mem_of_getElem? (i := 5) rfl) rfl (List.mem_of_getElem? (i := 5) rfl)
  d_is_row_of := stands_of X G c (d := d_is_row_of) (List.mem_of_getElem? (i := 6) rfl) rfl (List.mem_of_getElem? (i := 6) rfl)
  d_are_unlike := stands_of X G c (d := d_are_unlike) (List.mem_of_getElem? (i := 7) rfl) rfl (List.mem_of_getElem? (i := 7) rfl)
  d_are_places := stands_of X G c (d := d_are_places) (List.mem_of_getElem? (i := 8) rfl) rfl (List.mem_of_getElem? (i := 8) rfl)
  d_is_road := stands_of X G c (d := d_is_road) (List.mem_of_getElem? (i := 9) rfl) rfl (List.mem_of_getElem? (i := 9) rfl)
  d_is_web_form := stands_of X G c (d := d_is_web_form) (List.mem_of_getElem? (i := 10) rfl) rfl (List.mem_of_getElem? (i := 10) rfl)
  d_need_web := stands_of X G c (d := d_need_web) (List.mem_of_getElem? (i := 11) rfl) rfl (List.mem_of_getElem? (i := 11) rfl)
  d_is_order := stands_of X G c (d := d_is_order) (List.mem_of_getElem? (i := 12) rfl) rfl (List.mem_of_getElem? (i := 12) rfl)
  d_need_order := stands_of X G c (d := d_need_order) (List.mem_of_getElem? (i := 13) rfl) rfl (List.mem_of_getElem? (i := 13) rfl)
  d_have_road := stands_of X G c (d := d_have_road) (List.mem_of_getElem? (i := 14) rfl) rfl (List.mem_of_getElem? (i := 14) rfl)
  d_neighbours_of := stands_of X G c (d := d_neighbours_of) (List.mem_of_getElem? (i := 15) rfl) rfl (List.mem_of_getElem? (i := 15) rfl)
  d_turned := stands_of X G c (d := d_turned) (List.mem_of_getElem? (i := 16) rfl) rfl (List.mem_of_getElem? (i := 16) rfl)
  d_steps_forward := stands_of X G c (d := d_steps_forward) (List.mem_of_getElem? (i := 17) rfl) rfl (List.mem_of_getElem? (i := 17) rfl)
  d_way_within := stands_of X G c (d := d_way_within) (List.mem_of_getElem? (i := 18) rfl) rfl (List.mem_of_getElem? (i := 18) rfl)
  d_told_from_least := standsL_of X G c TB (d := d_told_from_least) (List.mem_of_getElem? (i := 19) rfl) rfl (List.mem_of_getElem? (i := 19) rfl)
  d_told_rings := stands_of X G c (d := d_told_rings) (List.mem_of_getElem? (i := 20) rfl) rfl (List.mem_of_getElem? (i := 20) rfl)
  d_ring_apart := stands_of X G c (d := d_ring_apart) (List.mem_of_getElem? (i := 21) rfl) rfl (List.mem_of_getElem? (i := 21) rfl)
  d_lead_of := stands_of X G c (d := d_lead_of) (List.mem_of_getElem? (i := 22) rfl) rfl (List.mem_of_getElem? (i := 22) rfl)
  d_turns_wanted := stands_of X G c (d := d_turns_wanted) (List.mem_of_getElem? (i := 23) rfl) rfl (List.mem_of_getElem? (i := 23) rfl)
  d_Mover_init := init_of c (d := d_Mover_init) (List.mem_of_getElem? (i := 24) rfl) rfl (List.mem_of_getElem? (i := 74) rfl)
  d_Mover_swap := standsM_of c (d := d_Mover_swap) (List.mem_of_getElem? (i := 25) rfl) rfl (List.mem_of_getElem? (i := 75) rfl)
  d_Mover_turn := standsM_of c (d := d_Mover_turn) (List.mem_of_getElem? (i := 26) rfl) rfl (List.mem_of_getElem? (i := 76) rfl)
  d_Mover_turn_place := standsM_of c (d := d_Mover_turn_place) (List.mem_of_getElem? (i := 27) rfl) rfl (List.mem_of_getElem? (i := 77) rfl)
  d_Mover_has_none_ahead := standsM_of c (d := d_Mover_has_none_ahead) (List.mem_of_getElem? (i := 28) rfl) rfl (List.mem_of_getElem? (i := 78) rfl)
  d_Mover_follow := standsM_of c (d := d_Mover_follow) (List.mem_of_getElem? (i := 29) rfl) rfl (List.mem_of_getElem? (i := 79) rfl)
  d_moves_between := stands_of X G c (d := d_moves_between) (List.mem_of_getElem? (i := 30) rfl) rfl (List.mem_of_getElem? (i := 24) rfl)
  d_is_move := stands_of X G c (d := d_is_move) (List.mem_of_getElem? (i := 31) rfl) rfl (List.mem_of_getElem? (i := 25) rfl)
  d_behind_move := stands_of X G c (d := d_behind_move) (List.mem_of_getElem? (i := 32) rfl) rfl (List.mem_of_getElem? (i := 26) rfl)
  d_orders_behind := stands_of X G c (d := d_orders_behind) (List.mem_of_getElem? (i := 33) rfl) rfl (List.mem_of_getElem? (i := 27) rfl)
  d_need_two_orders := stands_of X G c (d := d_need_two_orders) (List.mem_of_getElem? (i := 34) rfl) rfl (List.mem_of_getElem? (i := 28) rfl)
  d_moves_to := stands_of X G c (d := d_moves_to) (List.mem_of_getElem? (i := 35) rfl) rfl (List.mem_of_getElem? (i := 29) rfl)
  d_moves_hold := stands_of X G c (d := d_moves_hold) (List.mem_of_getElem? (i := 36) rfl) rfl (List.mem_of_getElem? (i := 30) rfl)
  d_ring_between := stands_of X G c (d := d_ring_between) (List.mem_of_getElem? (i := 37) rfl) rfl (List.mem_of_getElem? (i := 31) rfl)
  d_ring_counts := stands_of X G c (d := d_ring_counts) (List.mem_of_getElem? (i := 38) rfl) rfl (List.mem_of_getElem? (i := 32) rfl)
  d_law_feed := stands_of X G c (d := d_law_feed) (List.mem_of_getElem? (i := 39) rfl) rfl (List.mem_of_getElem? (i := 33) rfl)
  d_law_draw := stands_of X G c (d := d_law_draw) (List.mem_of_getElem? (i := 40) rfl) rfl (List.mem_of_getElem? (i := 34) rfl)
  d_law_one := stands_of X G c (d := d_law_one) (List.mem_of_getElem? (i := 41) rfl) rfl (List.mem_of_getElem? (i := 35) rfl)
  d_law_mixed := stands_of X G c (d := d_law_mixed) (List.mem_of_getElem? (i := 42) rfl) rfl (List.mem_of_getElem? (i := 36) rfl)
  d_law_names := stands_of X G c (d := d_law_names) (List.mem_of_getElem? (i := 43) rfl) rfl (List.mem_of_getElem? (i := 37) rfl)
  d_law_web := stands_of X G c (d := d_law_web) (List.mem_of_getElem? (i := 44) rfl) rfl (List.mem_of_getElem? (i := 38) rfl)
  d_law_neighbours := stands_of X G c (d := d_law_neighbours) (List.mem_of_getElem? (i := 45) rfl) rfl (List.mem_of_getElem? (i := 39) rfl)
  d_law_order := stands_of X G c (d := d_law_order) (List.mem_of_getElem? (i := 46) rfl) rfl (List.mem_of_getElem? (i := 40) rfl)
  d_law_rings_of := stands_of X G c (d := d_law_rings_of) (List.mem_of_getElem? (i := 47) rfl) rfl (List.mem_of_getElem? (i := 41) rfl)
  d_law_forward := stands_of X G c (d := d_law_forward) (List.mem_of_getElem? (i := 48) rfl) rfl (List.mem_of_getElem? (i := 42) rfl)
  d_law_orders := stands_of X G c (d := d_law_orders) (List.mem_of_getElem? (i := 49) rfl) rfl (List.mem_of_getElem? (i := 43) rfl)
  d_law_class := stands_of X G c (d := d_law_class) (List.mem_of_getElem? (i := 50) rfl) rfl (List.mem_of_getElem? (i := 44) rfl)
  d_law_pair_right := stands_of X G c (d := d_law_pair_right) (List.mem_of_getElem? (i := 51) rfl) rfl (List.mem_of_getElem? (i := 45) rfl)
  d_law := stands_of X G c (d := d_law) (List.mem_of_getElem? (i := 52) rfl) rfl (List.mem_of_getElem? (i := 46) rfl)
  f_all := He.free_ok X G (c.facts (f := .free "all") (List.mem_of_getElem? (i := 56) rfl))
  f_any := He.free_ok X G (c.facts (f := .free "any") (List.mem_of_getElem? (i := 57) rfl))
  f_bool := He.free_ok X G (c.facts (f := .free "bool") (List.mem_of_getElem? (i := 53) rfl))
  f_enumerate := He.free_ok X G (c.facts (f := .free "enumerate") (List.mem_of_getElem? (i := 49) rfl))
  f_int := He.free_ok X G (c.facts (f := .free "int") (List.mem_of_getElem? (i := 52) rfl))
  f_isinstance := He.free_ok X G (c.facts (f := .free "isinstance") (List.mem_of_getElem? (i := 51) rfl))
  f_len := He.free_ok X G (c.facts (f := .free "len") (List.mem_of_getElem? (i := 55) rfl))
  f_list := He.free_ok X G (c.facts (f := .free "list") (List.mem_of_getElem? (i := 62) rfl))
  f_max := He.free_ok X G (c.facts (f := .free "max") (List.mem_of_getElem? (i := 61) rfl))
  f_min := He.free_ok X G (c.facts (f := .free "min") (List.mem_of_getElem? (i := 60) rfl))
  f_range := He.free_ok X G (c.facts (f := .free "range") (List.mem_of_getElem? (i := 50) rfl))
  f_set := He.free_ok X G (c.facts (f := .free "set") (List.mem_of_getElem? (i := 58) rfl))
  f_sorted := He.free_ok X G (c.facts (f := .free "sorted") (List.mem_of_getElem? (i := 59) rfl))
  f_str := He.free_ok X G (c.facts (f := .free "str") (List.mem_of_getElem? (i := 54) rfl))
  f_sum := He.free_ok X G (c.facts (f := .free "sum") (List.mem_of_getElem? (i := 63) rfl))
  f_tuple := He.free_ok X G (c.facts (f := .free "tuple") (List.mem_of_getElem? (i := 48) rfl))
  f_zip := He.free_ok X G (c.facts (f := .free "zip") (List.mem_of_getElem? (i := 64) rfl))
  g_MOST_SIGNS := int_of X G c (List.mem_of_getElem? (i := 65) rfl)
  g_MOST_PLACES := int_of X G c (List.mem_of_getElem? (i := 66) rfl)
  g_MOST_ROADS := int_of X G c (List.mem_of_getElem? (i := 67) rfl)
  g_LETTERS := str_of X G c (List.mem_of_getElem? (i := 68) rfl)
  g_DIGITS := str_of X G c (List.mem_of_getElem? (i := 69) rfl)
  cM := He.glo_ok X G (c.facts (f := .glo "Mover") (List.mem_of_getElem? (i := 47) rfl))
  cls := He.cls_ok (c.facts (f := .cls "Mover") (List.mem_of_getElem? (i := 70) rfl))
  na_web := He.noat_ok (c.facts (f := .noat "Mover" "web") (List.mem_of_getElem? (i := 71) rfl))
  na_held := He.noat_ok (c.facts (f := .noat "Mover" "held") (List.mem_of_getElem? (i := 72) rfl))
  na_moves := He.noat_ok (c.facts (f := .noat "Mover" "moves") (List.mem_of_getElem? (i := 73) rfl))
theorem law_start {K : PySem.W.Frag} {H : Hp} {a : Addr} {ns : List Int} (hT : H (He.cT K ("told_from_least", none)).2 = some (.tbl #[])) (hS : SqL K H a (ns.map V.int)) : spG (lamTab K) 1 (R_law K) [.ref a] H (fun v _ => v = .bl true) fun _ _ _ => False := by
  refine ⟨rfl, H, [.bo (.sq K ns)], [], fun s _ => s = .dt (.bool true), ⟨⟨a, rfl, .inr ⟨K, ns, rfl, hS⟩⟩, True.intro⟩, ⟨Ext.refl H, fun p hp => ?_, fun p hp => (nomatch hp), List.nodup_nil⟩, ⟨rfl, ns, rfl, rfl⟩, fun v s ω' H' q e r p => ?_⟩
  · rw [List.mem_singleton.mp hp]
    exact TabS.nil hT
  · subst q
    exact T.blv r
theorem facts {w : World} {K : PySem.W.Frag} {h : Heap} {mg : Str → Option Value} {fa0 : Addr} (X : K.In h) (G : h.Ns mainGlobals mg) (hfa : mg ("law" : Str) = some (.ref fa0)) (c : He.SaysX fa fn [] tf exT w h K) : LawAtS theRow w K CX0 10 63 "_law_script" mg fa0 h := by
  have cd := c.t.d
  obtain ⟨fd, F⟩ := cd.defs (d := d_law) (List.mem_of_getElem? (i := 52) rfl)
  have e := hfa.symm.trans (He.glo_ok X G (cd.facts (f := .glo "law") (List.mem_of_getElem? (i := 46) rfl)))
  cases e
  have b := FunD.bindsA (ps := ["_law_script"]) F fun _ _ _ _ _ _ us hl => match us, hl with | [_], _ => rfl
  have one : ∀ p ∈ [He.cT K ("told_from_least", none)], p = He.cT K ("told_from_least", none) := fun p hp => List.mem_singleton.mp hp
  have ht : (("told_from_least", none) : He.Defn) ∈ tf := List.mem_singleton.mpr rfl
  refine ⟨fd, [He.cT K ("told_from_least", none)], spG (lamTab K) 1 (R_law K), fun p hp => ?_, fun p hp => ?_, fun p hp => ?_, fun s u => b s [u] rfl, fun H a ns hl _ hT hS => law_start (hT _ (List.mem_singleton.mpr rfl)) hS, fun base KB GB TB => ?_⟩
  · rw [one p hp]
    exact c.empty _ ht
  · rw [one p hp]
    exact c.out _ ht
  · rw [one p hp]
    exact PySem.W.codeHd_of_K X (c.hd _ ht)
  · exact run_law (glob_of X G cd (TB _ (List.mem_singleton.mpr rfl))) F
end Km
/-! Text KmEnd -/
set_option maxHeartbeats 0
open PySem PySem.W PySem.Calls PyProof.Rows
theorem PySem.Challenge.cw_eachinturn_k42_whole_moves_exactly_if_ri_holds : PySem.Challenge.rw_eachinturn_k42_whole_moves_exactly_if_ri.Holds := by
  w_on; o_law
  refine HandSHeadRun.head_any (r := OpenLaw.row Km.theRow) (q := view (OpenLaw.row Km.theRow).prog [62]) (H := Km.hk) (ob := Km.ob) (M := 3000) (loose := Km.loose) (d := HandSHeadRun.topDef (OpenLaw.row Km.theRow).prog 62) (kwd := []) Km.ob_eq
    (by kernel_rfl) (fun s => by kernel_rfl) Km.head_run (by kernel_rfl) (by kernel_rfl) (by kernel_rfl) (by rfl) (by first | assumption | decide +kernel) (by decide +kernel) ⟨rfl, rfl, rfl, rfl, rfl, by decide +kernel⟩ ?hw ?hc
  case hw => w_witness2
  case hc =>
    refine LamX.walk_ofTsE (l := Km.theRow) (n := 63) (k := 10) (x := "_law_script") (CX := fun _ => C8.CX0) rfl (by decide) (by kernel_rfl) ⟨rfl, by decide, by decide⟩ ?F (fun _ _ _ _ _ z => z)
    intro w mg fa h Y G hmg0
    obtain ⟨K, KX, c⟩ := Y
    have hmg : mg ("law" : PySem.Str) = some (.ref fa) := by
      have e : (HandSHeadRun.topDef (OpenLaw.row Km.theRow).prog 62).name = ("law" : PySem.Str) := by kernel_rfl
      rw [← e]
      exact hmg0
    exact ⟨K, KX, Km.facts KX G hmg c⟩
