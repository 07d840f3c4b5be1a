import PyProof.Rows.All
import Wide.All
import OpenK.AllK
import Wide.FinOn
import PySem.Challenge.RW_allseen_k27_arrows_of_orders_and_first_a
import HandS.ForMost
import HandS.Evl
import HandS.TupAny
import HandS.Wide
import HandS.IsInst
import HandS.Deep
import HandS.Zip
import HandS.DictComp
import HandS.Conv
import HandS.Style
import HandS.TupSets
import KE.KDictKeyed
import KE.KDictDisplayH
import KE.SortData
import HandS.EndBits
import HandS.RaiseMore
import HandS.TupLen
import HandS.WordsDict
import PyProof.ReprRoads
import PyProof.TupleOfSeq
import HandS.SetFor
import KE.GoesEnum
import KE.GoesMore
import HandS.Words
import PyProof.Rows.TupDisplay
import HandS.Strs
import KE.DataFind
import HandS.SetKeys
section
set_option Elab.async false
set_option linter.all false
set_option maxRecDepth 100000
set_option maxHeartbeats 1000000
/-! Z1: data that stand in the abstract heap; states of slots over data. -/
namespace Z
open PySem L2

abbrev D := PyData
/-- what a def's world is made of: the written part, the program, the world -/
structure Fr where
  k : PySem.W.Frag
  P : Program
  w : World
abbrev _root_.L2.Cx.wd (X : Cx) : Fr := ⟨X.K, X.prog, X.w⟩

/-- a tuple of plain make (no dict of its own): as it stands, or written by the top -/
def TqT (K : PySem.W.Frag) (H : Hp) (a : Addr) (xs : List V) : Prop :=
  (∃ o, H a = some (.frz o (.tup xs)) ∧ o.dict = none) ∨
    ∃ (o : Obj) (its : Array Value) (n : Nat), K.lookup a = some o ∧ o.cls = .type "tuple" ∧ o.dict = none ∧ o.data = .seq its n ∧ its.size ≤ sizeLine ∧ Vals xs its.toList
theorem TqT.sq {K : PySem.W.Frag} {H : Hp} {a : Addr} {xs : List V} (h : TqT K H a xs) : SqT K H a xs := by
  rcases h with ⟨o, h, _⟩ | ⟨o, its, n, h1, h2, _, h3, h4, h5⟩
  · exact .inl (.inr ⟨o, h⟩)
  · exact .inr ⟨o, its, n, h1, h2, h3, h4, h5⟩
theorem TqT.mono {K : PySem.W.Frag} {H H' : Hp} {a : Addr} {xs : List V} (e : Same H H') (h : TqT K H a xs) : TqT K H' a xs := by
  rcases h with ⟨o, h, hd⟩ | h
  · exact .inl ⟨o, e _ _ h, hd⟩
  · exact .inr h
/-- in the heap: of the class tuple, without a dict -/
theorem tqT_at {X : Cx} {pins : List (Addr × Obj)} {σ : St} {H : Hp} {s : Shared} (I : Inv X pins σ H s) {a : Addr} {xs : List V} (h : TqT X.K H a xs) : ∃ o, s.heap.get? a = some o ∧ o.cls = .type "tuple" ∧ o.dict = none := by
  rcases h with ⟨o, h, hd⟩ | ⟨o, its, n, h1, h2, hd, _⟩
  · obtain ⟨h1, _, _, _, o', e, hc, _⟩ := I.hok _ _ h
    rw [h1] at e; cases e
    exact ⟨o, h1, hc, hd⟩
  · exact ⟨o, I.kIn _ _ h1, h2, hd⟩
/-- a new tuple laid -/
theorem _root_.L2.Inv.ltup {X : Cx} {pins : List (Addr × Obj)} {σ : St} {H : Hp} {s : Shared} {h' : Heap} {a : Addr} {xs : List V} {its : List Value} {ob : Obj} {n t' : Nat} (I : Inv X pins σ H s) (k : ∀ b u, s.heap.get? b = some u → h'.get? b = some u) (hp : s.heap.objs.size ≤ a)
    (hg : h'.get? a = some ob) (hc : ob.cls = .type "tuple") (hd : ob.data = .seq its.toArray n) (hv : Vals xs its) (hz : xs.length ≤ sizeLine) : Inv X pins σ (upd H a (.frz ob (.tup xs))) { s with heap := h', toks := t' } :=
  I.laid k hp ⟨hg, hz, its, hv, ob, hg, hc, n, hd⟩
mutual
/-- data in the heap: as L2.Dp, a list tracked (or known), tuples of plain make -/
inductive Dq (K : PySem.W.Frag) (H : Hp) : V → D → Prop
  | non : Dq K H .non .none
  | bl (b : Bool) : Dq K H (.bl b) (.bool b)
  | int (i : Int) : Dq K H (.int i) (.int i)
  | str (x : Str) : Dq K H (.str x) (.str x)
  | lst {a : Addr} {xs : List V} {ds : List D} : Rd H a (.lst xs) → DqAll K H xs ds → Dq K H (.ref a) (.list ds)
  | tup {a : Addr} {xs : List V} {ds : List D} : TqT K H a xs → DqAll K H xs ds → Dq K H (.ref a) (.tuple ds)
inductive DqAll (K : PySem.W.Frag) (H : Hp) : List V → List D → Prop
  | nil : DqAll K H [] []
  | cons {v : V} {vs : List V} {d : D} {ds : List D} : Dq K H v d → DqAll K H vs ds → DqAll K H (v :: vs) (d :: ds)
end
mutual
theorem Dq.dp {K : PySem.W.Frag} {H : Hp} : ∀ {d : D} {v : V}, Dq K H v d → Dp K H v d
  | .none, _, .non => .non
  | .bool b, _, .bl _ => .bl b
  | .int i, _, .int _ => .int i
  | .str x, _, .str _ => .str x
  | .list ds, _, .lst h hs => .lst (.inl h) (DqAll.dp hs)
  | .tuple ds, _, .tup h hs => .tup h.sq (DqAll.dp hs)
theorem DqAll.dp {K : PySem.W.Frag} {H : Hp} : ∀ {ds : List D} {vs : List V}, DqAll K H vs ds → DpAll K H vs ds
  | [], _, .nil => .nil
  | _ :: _, _, .cons h hs => .cons h.dp (DqAll.dp hs)
end
theorem sqT_mono {K : Fr} {H H' : Hp} {a : Addr} {xs : List V} (e : Same H H') (h : SqT K.k H a xs) : SqT K.k H' a xs := Evl.ex_t e h

mutual
theorem dp_mono {K : Fr} {H H' : Hp} (e : Same H H') : ∀ {d : D} {v : V}, Dq K.k H v d → Dq K.k H' v d
  | .none, _, .non => .non
  | .bool b, _, .bl _ => .bl b
  | .int i, _, .int _ => .int i
  | .str x, _, .str _ => .str x
  | .list ds, _, .lst h hs => .lst (Evl.ex_rd e h) (dpAll_mono e hs)
  | .tuple ds, _, .tup h hs => .tup (h.mono e) (dpAll_mono e hs)
theorem dpAll_mono {K : Fr} {H H' : Hp} (e : Same H H') : ∀ {ds : List D} {vs : List V}, DqAll K.k H vs ds → DqAll K.k H' vs ds
  | [], _, .nil => .nil
  | d :: ds, _, .cons h hs => .cons (dp_mono e h) (dpAll_mono e hs)
end

theorem dpAll_len {K : Fr} {H : Hp} : ∀ {ds : List D} {vs : List V}, DqAll K.k H vs ds → vs.length = ds.length
  | [], _, .nil => rfl
  | _ :: _, _, .cons _ hs => by simp [dpAll_len hs]
theorem dpAll_get {K : Fr} {H : Hp} : ∀ {ds : List D} {vs : List V} {i : Nat} {v : V}, DqAll K.k H vs ds → vs[i]? = some v → ∃ d, ds[i]? = some d ∧ Dq K.k H v d
  | [], _, _, _, .nil, e => by simp at e
  | d :: ds, _, 0, v, .cons h hs, e => by simp at e; subst e; exact ⟨d, rfl, h⟩
  | d :: ds, _, i + 1, v, .cons h hs, e => by
    obtain ⟨d', e1, h1⟩ := dpAll_get (i := i) hs (by simpa using e)
    exact ⟨d', by simpa using e1, h1⟩
theorem dpAll_get' {K : Fr} {H : Hp} : ∀ {ds : List D} {vs : List V} {i : Nat} {d : D}, DqAll K.k H vs ds → ds[i]? = some d → ∃ v, vs[i]? = some v ∧ Dq K.k H v d
  | [], _, _, _, .nil, e => by simp at e
  | d :: ds, _, 0, d', .cons (v := v) h hs, e => by simp at e; subst e; exact ⟨v, rfl, h⟩
  | d :: ds, _, i + 1, d', .cons h hs, e => by
    obtain ⟨v', e1, h1⟩ := dpAll_get' (i := i) hs (by simpa using e)
    exact ⟨v', by simpa using e1, h1⟩
theorem dpAll_append {K : Fr} {H : Hp} : ∀ {ds es : List D} {vs us : List V}, DqAll K.k H vs ds → DqAll K.k H us es → DqAll K.k H (vs ++ us) (ds ++ es)
  | [], _, _, _, .nil, h => h
  | _ :: _, _, _, _, .cons h hs, h' => .cons h (dpAll_append hs h')
theorem dpAll_set {K : Fr} {H : Hp} {v : V} {d : D} (h : Dq K.k H v d) : ∀ {ds : List D} {vs : List V} (i : Nat), DqAll K.k H vs ds → DqAll K.k H (vs.set i v) (ds.set i d)
  | [], _, _, .nil => .nil
  | _ :: _, _, 0, .cons _ hs => .cons h hs
  | _ :: _, _, i + 1, .cons h1 hs => .cons h1 (dpAll_set h i hs)
theorem dpAll_take {K : Fr} {H : Hp} : ∀ {ds : List D} {vs : List V} (i : Nat), DqAll K.k H vs ds → DqAll K.k H (vs.take i) (ds.take i)
  | _, _, 0, _ => by simpa using DqAll.nil
  | [], _, i + 1, .nil => .nil
  | _ :: _, _, i + 1, .cons h hs => .cons h (dpAll_take i hs)
theorem dpAll_drop {K : Fr} {H : Hp} : ∀ {ds : List D} {vs : List V} (i : Nat), DqAll K.k H vs ds → DqAll K.k H (vs.drop i) (ds.drop i)
  | _, _, 0, h => by simpa using h
  | [], _, i + 1, .nil => .nil
  | _ :: _, _, i + 1, .cons h hs => dpAll_drop i hs
theorem dpAll_erase {K : Fr} {H : Hp} : ∀ {ds : List D} {vs : List V} (i : Nat), DqAll K.k H vs ds → DqAll K.k H (vs.eraseIdx i) (ds.eraseIdx i)
  | [], _, _, .nil => .nil
  | _ :: _, _, 0, .cons h hs => hs
  | _ :: _, _, i + 1, .cons h hs => .cons h (dpAll_erase i hs)
theorem dpAll_reverse {K : Fr} {H : Hp} : ∀ {ds : List D} {vs : List V}, DqAll K.k H vs ds → DqAll K.k H vs.reverse ds.reverse
  | [], _, .nil => .nil
  | _ :: _, _, .cons h hs => by simpa using dpAll_append (dpAll_reverse hs) (.cons h .nil)
theorem dpAll_dropLast {K : Fr} {H : Hp} {ds : List D} {vs : List V} (h : DqAll K.k H vs ds) : DqAll K.k H vs.dropLast ds.dropLast := by
  rw [List.dropLast_eq_take, List.dropLast_eq_take, dpAll_len h]
  exact dpAll_take _ h
theorem dpAll_of {K : Fr} {H : Hp} : ∀ {ds : List D} {vs : List V}, vs.length = ds.length → (∀ (i : Nat) v d, vs[i]? = some v → ds[i]? = some d → Dq K.k H v d) → DqAll K.k H vs ds
  | [], [], _, _ => .nil
  | d :: ds, v :: vs, hl, h => .cons (h 0 v d rfl rfl) (dpAll_of (by simpa using hl) fun i v' d' e e' => h (i + 1) v' d' (by simpa using e) (by simpa using e'))
  | [], _ :: _, hl, _ => by simp at hl
  | _ :: _, [], hl, _ => by simp at hl

/-! ### keys, containers -/
def keyD : D → Option Key
  | .int i => some (.inl i)
  | .str x => some (.inr x)
  | _ => none
mutual
/-- the key that a thing is, up to == -/
def nk : D → Option NestedKey
  | .none => some NestedKey.none
  | .bool b => some (.num (if b = true then 1 else 0))
  | .int i => some (.num i)
  | .str x => some (.text x)
  | .tuple ds => match nks ds with
    | some ks => some (.tup ks)
    | none => none
  | .list _ => none
  | .dict _ => none
def nks : List D → Option (List NestedKey)
  | [] => some []
  | d :: ds => match nk d, nks ds with
    | some k, some ks => some (k :: ks)
    | _, _ => none
end
def isTup : D → Bool
  | .tuple _ => true
  | _ => false
def keyN : Key → NestedKey
  | .inl i => .num i
  | .inr x => .text x
theorem nk_of_keyD {d : D} {k : Key} (h : keyD d = some k) : nk d = some (keyN k) ∧ isTup d = false := by
  cases d with
  | int i => simp only [keyD] at h; cases h; exact ⟨by simp [nk, keyN], rfl⟩
  | str x => simp only [keyD] at h; cases h; exact ⟨by simp [nk, keyN], rfl⟩
  | none => simp [keyD] at h
  | bool b => simp [keyD] at h
  | list b => simp [keyD] at h
  | tuple b => simp [keyD] at h
  | dict b => simp [keyD] at h

/-- a dict whose keys are tuples: where each key's tuple stands, its value -/
abbrev NRow := NestedKey × Addr × V
def nEnt (K : Fr) (x : NRow) (e : DictEntry) : Prop := e.hash = x.1.hash K.w ∧ e.key = Value.ref x.2.1 ∧ RelV x.2.2 e.val
def hN (K : Fr) (a : Addr) (xs : List NRow) : HO := .ext fun h => xs.length ≤ sizeLine ∧ (a == sysModules) = false ∧ (xs.map (·.1)).Nodup ∧ ∃ o es ep, h.get? a = some o ∧ o.ExactDict ∧ o.data = .dict es ep ∧ Paired (nEnt K) xs es.toList

abbrev KvR (K : Fr) (G : Hp) : List (Key × V) → List (D × D) → Prop := Paired fun p q => keyD q.1 = some p.1 ∧ Dq K.k G p.2 q.2
abbrev NvR (K : Fr) (G : Hp) : List NRow → List (D × D) → Prop := Paired fun p q => nk q.1 = some p.1 ∧ isTup q.1 = true ∧ p.1.depth ≤ 8 ∧ Dq K.k G (.ref p.2.1) q.1 ∧ Dq K.k G p.2.2 q.2

/-- what a container at an address holds, its parts told in G -/
inductive Con (K : Fr) (G : Hp) (a : Addr) : HO → D → Prop
  | lst {xs : List V} {ds : List D} : DqAll K.k G xs ds → Con K G a (.lst xs) (.list ds)
  | dK {kv : List (Key × V)} {kvs : List (D × D)} : KvR K G kv kvs → Con K G a (.dK kv) (.dict kvs)
  | dN {xs : List NRow} {kvs : List (D × D)} : kvs ≠ [] → NvR K G xs kvs → Con K G a (hN K a xs) (.dict kvs)
theorem con_mono {K : Fr} {G G' : Hp} (e : Same G G') {a : Addr} {o : HO} {d : D} (h : Con K G a o d) : Con K G' a o d := by
  cases h with
  | lst h => exact .lst (dpAll_mono e h)
  | dK h => exact .dK (Paired.mapP h fun _ _ z => ⟨z.1, dp_mono e z.2⟩)
  | dN hne h => exact .dN hne (Paired.mapP h fun _ _ z => ⟨z.1, z.2.1, z.2.2.1, dp_mono e z.2.2.2.1, dp_mono e z.2.2.2.2⟩)

/-- a shared value: nobody changes it any more -/
inductive Rp (K : Fr) (G : Hp) : V → D → Prop
  | dat {v : V} {d : D} : Dq K.k G v d → Rp K G v d
  | con {a : Addr} {o : HO} {d : D} : G a = some o → Con K G a o d → Rp K G (.ref a) d
theorem rp_mono {K : Fr} {G G' : Hp} (e : Same G G') {v : V} {d : D} (h : Rp K G v d) : Rp K G' v d := by
  cases h with
  | dat h => exact .dat (dp_mono e h)
  | con h1 h2 => exact .con (e _ _ h1) (con_mono e h2)
def isDict : D → Bool
  | .dict _ => true
  | _ => false
theorem Rp.dq {K : Fr} {G : Hp} {v : V} {d : D} (h : Rp K G v d) (hd : isDict d = false) : Dq K.k G v d := by
  cases h with
  | dat h => exact h
  | con h1 h2 =>
    cases h2 with
    | lst h => exact .lst (Or.inl h1) h
    | dK h => cases hd
    | dN _ h => cases hd

/-! ### slots -/
inductive Slot where
  | no
  | sh (d : D)
  /-- an own list or dict: may be changed -/
  | ow (d : D)
  /-- a parameter's list or dict, changed for the caller -/
  | mp (d : D)
def Slot.own : Slot → Bool
  | .ow _ => true
  | .mp _ => true
  | _ => false
def Slot.dat : Slot → Option D
  | .no => none
  | .sh d => some d
  | .ow d => some d
  | .mp d => some d
abbrev Rho := List Slot

/-- what stands fast through a body -/
structure Cn where
  H0 : Hp
  G0 : Hp
  M : List (Nat × Addr)
  T : List (Addr × HO)

structure Fm (C : Cn) (G H : Hp) : Prop where
  gh : Same G H
  g0 : Same C.G0 G
  keep : ∀ b o, C.H0 b = some o → b ∉ C.M.map (·.2) → H b = some o
  new : ∀ b o, G b = some o → C.G0 b = some o ∨ C.H0 b = none
  mst : ∀ (i : Nat) (a : Addr), (i, a) ∈ C.M → ∃ o, H a = some o ∧ G a = none ∧ C.H0 a ≠ none

def SOk (K : Fr) (C : Cn) (G H : Hp) (i : Nat) (ov : Option V) : Slot → Prop
  | .no => True
  | .sh d => ∃ v, ov = some v ∧ Rp K G v d
  | .ow d => ∃ a o, ov = some (V.ref a) ∧ H a = some o ∧ G a = none ∧ Con K G a o d ∧ C.H0 a = none
  | .mp d => ∃ a o, ov = some (V.ref a) ∧ H a = some o ∧ G a = none ∧ Con K G a o d ∧ (i, a) ∈ C.M

/-- slot i holds the object at a as its own -/
def Owns (σ : St) (ρ : Rho) (i : Nat) (a : Addr) : Prop := ∃ s : Slot, ρ[i]? = some s ∧ s.own = true ∧ σ[i]? = some (some (V.ref a))

structure Sta (K : Fr) (C : Cn) (σ : St) (ρ : Rho) (G H : Hp) : Prop where
  fm : Fm C G H
  len : σ.length = ρ.length
  ok : ∀ (i : Nat) (s : Slot), ρ[i]? = some s → SOk K C G H i (σ[i]?.join) s
  inj : ∀ (i j : Nat) (a : Addr), Owns σ ρ i a → Owns σ ρ j a → i = j
  tmp : ∀ p ∈ C.T, H p.1 = some p.2 ∧ G p.1 = none ∧ C.H0 p.1 = none ∧ ∀ (i : Nat), ¬ Owns σ ρ i p.1

/-- the heap grows: new objects alone; some of them shared -/
structure Ext (G H G' H' : Hp) : Prop where
  g : Same G G'
  gh : Same G' H'
  h : Same H H'
  new : ∀ b o, G' b = some o → G b = some o ∨ H b = none
theorem Ext.refl {G H : Hp} (h : Same G H) : Ext G H G H := ⟨Same.refl G, h, Same.refl H, fun _ _ e => .inl e⟩
theorem Ext.trans {G H G1 H1 G2 H2 : Hp} (a : Ext G H G1 H1) (b : Ext G1 H1 G2 H2) : Ext G H G2 H2 :=
  ⟨a.g.trans b.g, b.gh, a.h.trans b.h, fun c o e => by
    rcases b.new c o e with z | z
    · exact a.new c o z
    · exact .inr (a.h.free z)⟩
/-- what stood unshared stays so -/
theorem Ext.none {G H G' H' : Hp} (x : Ext G H G' H') {a : Addr} {o : HO} (e : H a = some o) (n : G a = none) : G' a = none := by
  cases q : G' a with
  | none => rfl
  | some u =>
    rcases x.new a u q with z | z
    · rw [n] at z; cases z
    · rw [e] at z; cases z
theorem joined {ov : Option (Option V)} {v : V} (h : ov.join = some v) : ov = some (some v) := by
  cases ov with
  | none => cases h
  | some u => cases u with
    | none => cases h
    | some w => exact congrArg some h
theorem Sta.own_at {K : Fr} {C : Cn} {σ : St} {ρ : Rho} {G H : Hp} (S : Sta K C σ ρ G H) {i : Nat} {s : Slot} {a : Addr} (e : ρ[i]? = some s) (o : s.own = true) (h : σ[i]? = some (some (V.ref a))) :
    ∃ ob d, H a = some ob ∧ G a = none ∧ Con K G a ob d ∧ s.dat = some d := by
  have q := S.ok i s e
  cases s with
  | no => cases o
  | sh d => cases o
  | ow d =>
    obtain ⟨b, ob, e1, e2, e3, e4, _⟩ := q
    rw [h] at e1; cases e1
    exact ⟨ob, d, e2, e3, e4, rfl⟩
  | mp d =>
    obtain ⟨b, ob, e1, e2, e3, e4, _⟩ := q
    rw [h] at e1; cases e1
    exact ⟨ob, d, e2, e3, e4, rfl⟩
theorem Sta.ext {K : Fr} {C : Cn} {σ : St} {ρ : Rho} {G H G' H' : Hp} (S : Sta K C σ ρ G H) (x : Ext G H G' H') : Sta K C σ ρ G' H' := by
  refine ⟨⟨x.gh, S.fm.g0.trans x.g, fun b o e n => x.h b o (S.fm.keep b o e n), fun b o e => ?_, fun i a m => ?_⟩, S.len, fun i s e => ?_, S.inj, fun p hp => ?_⟩
  · rcases x.new b o e with z | z
    · exact S.fm.new b o z
    · cases q : C.H0 b with
      | none => exact .inr rfl
      | some u =>
        by_cases hm : b ∈ C.M.map (·.2)
        · obtain ⟨⟨i, b'⟩, hm1, rfl⟩ := List.mem_map.mp hm
          obtain ⟨o', h1, _⟩ := S.fm.mst i b' hm1
          rw [z] at h1; cases h1
        · rw [S.fm.keep b u q hm] at z; cases z
  · obtain ⟨o, h1, h2, h3⟩ := S.fm.mst i a m
    exact ⟨o, x.h _ _ h1, x.none h1 h2, h3⟩
  · have q := S.ok i s e
    cases s with
    | no => trivial
    | sh d => exact let ⟨v, h1, h2⟩ := q; ⟨v, h1, rp_mono x.g h2⟩
    | ow d => exact let ⟨a, o, h1, h2, h3, h4, h5⟩ := q; ⟨a, o, h1, x.h _ _ h2, x.none h2 h3, con_mono x.g h4, h5⟩
    | mp d => exact let ⟨a, o, h1, h2, h3, h4, h5⟩ := q; ⟨a, o, h1, x.h _ _ h2, x.none h2 h3, con_mono x.g h4, h5⟩
  · obtain ⟨h1, h2, h3, h4⟩ := S.tmp p hp
    exact ⟨x.h _ _ h1, x.none h1 h2, h3, h4⟩

/-! ### results -/
inductive Res where
  | sh (d : D)
  /-- a container just made: nobody else's -/
  | fr (d : D)
  /-- what slot i holds, read in place -/
  | bw (i : Nat)
def ROk (K : Fr) (C : Cn) (σ : St) (ρ : Rho) (G H : Hp) (v : V) : Res → Prop
  | .sh d => Rp K G v d
  | .fr d => ∃ a o, v = V.ref a ∧ H a = some o ∧ G a = none ∧ Con K G a o d ∧ C.H0 a = none ∧ (∀ i, ¬ Owns σ ρ i a) ∧ ∀ p ∈ C.T, p.1 ≠ a
  | .bw i => σ[i]? = some (some v)
def look (ρ : Rho) : Res → Option D
  | .sh d => some d
  | .fr d => some d
  | .bw i => (ρ[i]?).bind Slot.dat

/-- what may be read: a shared value, or a container that stands -/
def Rd1 (K : Fr) (G H : Hp) (v : V) (d : D) : Prop := Rp K G v d ∨ ∃ a o, v = V.ref a ∧ H a = some o ∧ Con K G a o d
theorem Rd1.dq {K : Fr} {G H : Hp} {v : V} {d : D} (g : Same G H) (h : Rd1 K G H v d) (hd : isDict d = false) : Dq K.k H v d := by
  rcases h with h | ⟨a, o, rfl, h1, h2⟩
  · exact dp_mono g (h.dq hd)
  · cases h2 with
    | lst h => exact .lst (Or.inl h1) (dpAll_mono g h)
    | dK h => cases hd
    | dN _ h => cases hd
theorem ROk.read {K : Fr} {C : Cn} {σ : St} {ρ : Rho} {G H : Hp} {v : V} {r : Res} {d : D} (S : Sta K C σ ρ G H) (h : ROk K C σ ρ G H v r) (l : look ρ r = some d) : Rd1 K G H v d := by
  cases r with
  | sh d' => cases l; exact .inl h
  | fr d' =>
    cases l
    obtain ⟨a, o, h1, h2, h3, h4, _⟩ := h
    exact .inr ⟨a, o, h1, h2, h4⟩
  | bw i =>
    have h' : σ[i]? = some (some v) := h
    have l' : (ρ[i]?).bind Slot.dat = some d := l
    cases e : ρ[i]? with
    | none => rw [e] at l'; cases l'
    | some s =>
      rw [e] at l'
      have q := S.ok i s e
      rw [h'] at q
      cases s with
      | no => cases l'
      | sh d' =>
        cases l'
        obtain ⟨w, h1, h2⟩ := q
        cases h1
        exact .inl h2
      | ow d' =>
        cases l'
        obtain ⟨a, o, h1, h2, h3, h4, _⟩ := q
        cases h1
        exact .inr ⟨a, o, rfl, h2, h4⟩
      | mp d' =>
        cases l'
        obtain ⟨a, o, h1, h2, h3, h4, _⟩ := q
        cases h1
        exact .inr ⟨a, o, rfl, h2, h4⟩
/-- a result is held while other things are evaluated -/
theorem ROk.hold {K : Fr} {C : Cn} {σ : St} {ρ : Rho} {G H : Hp} {v : V} {r : Res} (S : Sta K C σ ρ G H) (h : ROk K C σ ρ G H v r) :
    ∃ C', Sta K C' σ ρ G H ∧ ∀ ρ' G' H', Sta K C' σ ρ' G' H' → Same G G' → Sta K C σ ρ' G' H' ∧ ROk K C σ ρ' G' H' v r ∧
      ∀ u r', ROk K C' σ ρ' G' H' u r' → ROk K C σ ρ' G' H' u r' := by
  cases r with
  | sh d => exact ⟨C, S, fun ρ' G' H' S' g => ⟨S', rp_mono g h, fun _ _ z => z⟩⟩
  | bw i => exact ⟨C, S, fun ρ' G' H' S' g => ⟨S', h, fun _ _ z => z⟩⟩
  | fr d =>
    obtain ⟨a, o, rfl, h2, h3, h4, h5, h6, h7⟩ := h
    refine ⟨{ C with T := (a, o) :: C.T }, ⟨⟨S.fm.gh, S.fm.g0, S.fm.keep, S.fm.new, S.fm.mst⟩, S.len, S.ok, S.inj, fun p hp => ?_⟩, fun ρ' G' H' S' g => ?_⟩
    · rcases List.mem_cons.mp hp with e | hp
      · subst e; exact ⟨h2, h3, h5, h6⟩
      · exact S.tmp p hp
    · have S2 : Sta K C σ ρ' G' H' := ⟨⟨S'.fm.gh, S'.fm.g0, S'.fm.keep, S'.fm.new, S'.fm.mst⟩, S'.len, S'.ok, S'.inj, fun p hp => S'.tmp p (List.mem_cons_of_mem _ hp)⟩
      obtain ⟨t1, t2, t3, t4⟩ := S'.tmp (a, o) List.mem_cons_self
      refine ⟨S2, ⟨a, o, rfl, t1, t2, con_mono g h4, h5, t4, h7⟩, fun u r' z => ?_⟩
      cases r' with
      | sh d => exact z
      | bw i => exact z
      | fr d =>
        obtain ⟨b, o', z1, z2, z3, z4, z5, z6, z7⟩ := z
        exact ⟨b, o', z1, z2, z3, z4, z5, z6, fun p hp => z7 p (List.mem_cons_of_mem _ hp)⟩

/-- sharing what was one's own -/
theorem Sta.share {K : Fr} {C : Cn} {σ : St} {ρ : Rho} {G H : Hp} (S : Sta K C σ ρ G H) {a : Addr} {o : HO} (h1 : H a = some o) (h2 : G a = none) (h3 : C.H0 a = none) (h4 : ∀ i, ¬ Owns σ ρ i a) (h5 : ∀ p ∈ C.T, p.1 ≠ a) :
    Sta K C σ ρ (upd G a o) H ∧ Same G (upd G a o) := by
  have sg : Same G (upd G a o) := fun b u e => by rw [upd_ne (ne_of_none e h2)]; exact e
  refine ⟨⟨⟨fun b u e => ?_, S.fm.g0.trans sg, S.fm.keep, fun b u e => ?_, fun i b m => ?_⟩, S.len, fun i s e => ?_, S.inj, fun p hp => ?_⟩, sg⟩
  · by_cases hb : b = a
    · subst hb; rw [upd_same] at e; cases e; exact h1
    · rw [upd_ne hb] at e; exact S.fm.gh b u e
  · by_cases hb : b = a
    · subst hb; exact .inr h3
    · rw [upd_ne hb] at e; exact S.fm.new b u e
  · obtain ⟨u, z1, z2, z3⟩ := S.fm.mst i b m
    refine ⟨u, z1, ?_, z3⟩
    rw [upd_ne (fun e => by rw [e] at z3; exact z3 h3)]; exact z2
  · have q := S.ok i s e
    have nb : ∀ b, σ[i]?.join = some (V.ref b) → s.own = true → b ≠ a := fun b hb ho e' => h4 i ⟨s, e, ho, by rw [← e']; exact joined hb⟩
    cases s with
    | no => trivial
    | sh d => exact let ⟨v, z1, z2⟩ := q; ⟨v, z1, rp_mono sg z2⟩
    | ow d => exact let ⟨b, u, z1, z2, z3, z4, z5⟩ := q; ⟨b, u, z1, z2, by rw [upd_ne (nb b z1 rfl)]; exact z3, con_mono sg z4, z5⟩
    | mp d => exact let ⟨b, u, z1, z2, z3, z4, z5⟩ := q; ⟨b, u, z1, z2, by rw [upd_ne (nb b z1 rfl)]; exact z3, con_mono sg z4, z5⟩
  · obtain ⟨z1, z2, z3, z4⟩ := S.tmp p hp
    exact ⟨z1, by rw [upd_ne (h5 p hp)]; exact z2, z3, z4⟩

/-- a slot's own thing becomes shared -/
theorem Sta.dem {K : Fr} {C : Cn} {σ : St} {ρ : Rho} {G H : Hp} (S : Sta K C σ ρ G H) {i : Nat} {d : D} (e : ρ[i]? = some (.ow d)) :
    ∃ G' a, σ[i]? = some (some (V.ref a)) ∧ Same G G' ∧ Rp K G' (V.ref a) d ∧ Sta K C σ (ρ.set i (.sh d)) G' H := by
  obtain ⟨a, o, h1, h2, h3, h4, h5⟩ := S.ok i _ e
  have hs := joined h1
  have hi : i < ρ.length := (List.getElem?_eq_some_iff.mp e).1
  have own_of : ∀ j b, Owns σ (ρ.set i (.no)) j b → j ≠ i ∧ Owns σ ρ j b := fun j b ⟨s, z1, z2, z3⟩ => by
    by_cases hj : i = j
    · subst hj
      rw [List.getElem?_set_self hi] at z1
      cases z1; cases z2
    · rw [List.getElem?_set_ne hj] at z1
      exact ⟨fun e => hj e.symm, s, z1, z2, z3⟩
  -- first the slot is forgotten
  have S1 : Sta K C σ (ρ.set i .no) G H := by
    refine ⟨S.fm, by simpa using S.len, fun j s ej => ?_, fun j k b o1 o2 => S.inj j k b (own_of j b o1).2 (own_of k b o2).2, fun p hp => ?_⟩
    · by_cases hj : i = j
      · subst hj
        rw [List.getElem?_set_self hi] at ej
        cases ej; trivial
      · rw [List.getElem?_set_ne hj] at ej
        exact S.ok j s ej
    · obtain ⟨z1, z2, z3, z4⟩ := S.tmp p hp
      exact ⟨z1, z2, z3, fun j hj => z4 j (own_of j _ hj).2⟩
  have S2 := S1.share h2 h3 h5 (fun j hj => (own_of j a hj).1 (S.inj j i a (own_of j a hj).2 ⟨_, e, rfl, hs⟩)) fun p hp ea => by
    obtain ⟨z1, z2, z3, z4⟩ := S.tmp p hp
    exact z4 i ⟨_, e, rfl, by rw [ea]; exact hs⟩
  obtain ⟨S2, sg⟩ := S2
  have rp : Rp K (upd G a o) (V.ref a) d := .con upd_same (con_mono sg h4)
  refine ⟨_, a, hs, sg, rp, S2.fm, by simpa using S.len, fun j s ej => ?_, fun j k b o1 o2 => ?_, fun p hp => ?_⟩
  · by_cases hj : i = j
    · subst hj
      rw [List.getElem?_set_self hi] at ej
      cases ej
      exact ⟨_, h1, rp⟩
    · rw [List.getElem?_set_ne hj] at ej
      exact S2.ok j s (by rw [List.getElem?_set_ne hj]; exact ej)
  · have f : ∀ j, Owns σ (ρ.set i (.sh d)) j b → Owns σ (ρ.set i .no) j b := fun j ⟨s, z1, z2, z3⟩ => by
      by_cases hj : i = j
      · subst hj
        rw [List.getElem?_set_self hi] at z1
        cases z1; cases z2
      · rw [List.getElem?_set_ne hj] at z1
        exact ⟨s, by rw [List.getElem?_set_ne hj]; exact z1, z2, z3⟩
    exact S2.inj j k b (f j o1) (f k o2)
  · obtain ⟨z1, z2, z3, z4⟩ := S2.tmp p hp
    refine ⟨z1, z2, z3, fun j ⟨s, y1, y2, y3⟩ => ?_⟩
    by_cases hj : i = j
    · subst hj
      rw [List.getElem?_set_self hi] at y1
      cases y1; cases y2
    · rw [List.getElem?_set_ne hj] at y1
      exact z4 j ⟨s, by rw [List.getElem?_set_ne hj]; exact y1, y2, y3⟩
/-- what escapes is shared from then on -/
def demote (ρ : Rho) : Res → Option (D × Rho)
  | .sh d => some (d, ρ)
  | .fr d => some (d, ρ)
  | .bw i => match ρ[i]? with
    | some (.sh d) => some (d, ρ)
    | some (.ow d) => some (d, ρ.set i (.sh d))
    | _ => none
theorem Sta.demote {K : Fr} {C : Cn} {σ : St} {ρ ρ' : Rho} {G H : Hp} {v : V} {r : Res} {d : D} (S : Sta K C σ ρ G H) (h : ROk K C σ ρ G H v r) (e : demote ρ r = some (d, ρ')) :
    ∃ G', Sta K C σ ρ' G' H ∧ Same G G' ∧ Rp K G' v d := by
  cases r with
  | sh d' => cases e; exact ⟨G, S, Same.refl G, h⟩
  | fr d' =>
    cases e
    obtain ⟨a, o, rfl, h2, h3, h4, h5, h6, h7⟩ := h
    obtain ⟨S2, sg⟩ := S.share h2 h3 h5 h6 h7
    exact ⟨_, S2, sg, .con upd_same (con_mono sg h4)⟩
  | bw i =>
    have h' : σ[i]? = some (some v) := h
    unfold Z.demote at e
    dsimp only at e
    cases q : ρ[i]? with
    | none => rw [q] at e; cases e
    | some s =>
      rw [q] at e
      cases s with
      | no => cases e
      | mp d' => cases e
      | sh d' =>
        cases e
        obtain ⟨w, z1, z2⟩ := S.ok i _ q
        rw [h'] at z1; cases z1
        exact ⟨G, S, Same.refl G, z2⟩
      | ow d' =>
        cases e
        obtain ⟨G', a, z1, z2, z3, z4⟩ := S.dem q
        rw [h'] at z1; cases z1
        exact ⟨G', z4, z2, z3⟩
end Z
end

section
set_option Elab.async false
set_option linter.all false
set_option maxRecDepth 100000
set_option maxHeartbeats 1000000
/-! Z2: what expressions, tests, statements mean over data; the rules that join them. -/
namespace Z
open PySem L2

theorem _root_.L2.PE.imp {X : Cx} {e : Expr} {t t' : TE} (h : PE X e t) (i : ∀ σ H Q, t' σ H Q → t σ H Q) : PE X e t' := ⟨fun pins s σ H Q I q => h.run pins s σ H Q I (i σ H Q q)⟩
theorem _root_.L2.PT.imp {X : Cx} {e : Expr} {t t' : TT} (h : PT X e t) (i : ∀ σ H Q, t' σ H Q → t σ H Q) : PT X e t' := ⟨fun pins s σ H Q I q => h.run pins s σ H Q I (i σ H Q q)⟩
theorem _root_.L2.PW.imp {X : Cx} {e : Expr} {t t' : TT} (h : PW X e t) (i : ∀ σ H Q, t' σ H Q → t σ H Q) : PW X e t' := ⟨fun wh pins s σ H Q I q => h.run wh pins s σ H Q I (i σ H Q q)⟩
theorem _root_.L2.PA.imp {X : Cx} {e : List Expr} {t t' : TA} (h : PA X e t) (i : ∀ σ H Q, t' σ H Q → t σ H Q) : PA X e t' := ⟨fun pos pins s σ H Q I q => h.run pos pins s σ H Q I (i σ H Q q)⟩
theorem _root_.L2.PS.imp {X : Cx} {e : Stmt} {t t' : TS} (h : PS X e t) (i : ∀ D σ H, t' D σ H → t D σ H) : PS X e t' := ⟨fun pins s σ H D I q => h.run pins s σ H D I (i D σ H q)⟩
theorem _root_.L2.PSs.imp {X : Cx} {e : List Stmt} {t t' : TS} (h : PSs X e t) (i : ∀ D σ H, t' D σ H → t D σ H) : PSs X e t' := ⟨fun pins s σ H D I q => h.run pins s σ H D I (i D σ H q)⟩
theorem _root_.L2.PG.imp {X : Cx} {e : Expr} {t t' : TG} (h : PG X e t) (i : ∀ v σ H Q, t' v σ H Q → t v σ H Q) : PG X e t' := ⟨fun pins s σ H x u Q I r q => h.run pins s σ H x u Q I r (i x σ H Q q)⟩
theorem _root_.L2.PI.imp {X : Cx} {tg e : Expr} {t t' : TI} (h : PI X tg e t) (i : ∀ σ H R, t' σ H R → t σ H R) : PI X tg e t' := ⟨fun pins s σ H R I q => h.run pins s σ H R I (i σ H R q)⟩

/-! ### meanings -/
abbrev M (α : Type) := Rho → Option (α × Rho)
def bnd {α β : Type} (m : M α) (f : α → M β) : M β := fun ρ => match m ρ with
  | some (a, ρ') => f a ρ'
  | none => none
def lft {α : Type} (o : Option α) : M α := fun ρ => match o with
  | some a => some (a, ρ)
  | none => none
theorem bnd_some {α β : Type} {m : M α} {f : α → M β} {ρ : Rho} {z : β × Rho} (h : bnd m f ρ = some z) : ∃ a ρ', m ρ = some (a, ρ') ∧ f a ρ' = some z := by
  unfold bnd at h
  cases q : m ρ with
  | none => rw [q] at h; cases h
  | some p => obtain ⟨a, ρ'⟩ := p; rw [q] at h; exact ⟨a, ρ', rfl, h⟩
theorem lft_some {α : Type} {o : Option α} {ρ : Rho} {z : α × Rho} (h : lft o ρ = some z) : o = some z.1 ∧ z.2 = ρ := by
  unfold lft at h
  cases o with
  | none => cases h
  | some a => cases h; exact ⟨rfl, rfl⟩
theorem bnd_ok {α β : Type} {m : M α} {f : α → M β} {ρ ρ' : Rho} {a : α} (h : m ρ = some (a, ρ')) : bnd m f ρ = f a ρ' := by unfold bnd; rw [h]

/-- what an operation gives: a value, or a container just made -/
inductive Rs where
  | val (d : D)
  | new (d : D)
def Rs.res : Rs → Res
  | .val d => .sh d
  | .new d => .fr d
def Rs.dat : Rs → D
  | .val d => d
  | .new d => d
def RsOk (K : Fr) (G' H' H : Hp) (v : V) : Rs → Prop
  | .val d => Rp K G' v d
  | .new d => ∃ a o, v = V.ref a ∧ H' a = some o ∧ G' a = none ∧ H a = none ∧ Con K G' a o d

def tE (K : Fr) (m : M Res) : TE := fun σ H Q => ∃ C ρ G r ρ', Sta K C σ ρ G H ∧ m ρ = some (r, ρ') ∧ ∀ v G' H', Sta K C σ ρ' G' H' → Same G G' → ROk K C σ ρ' G' H' v r → Q v H'
def tT (K : Fr) (m : M Bool) : TT := fun σ H Q => ∃ C ρ G b ρ', Sta K C σ ρ G H ∧ m ρ = some (b, ρ') ∧ ∀ G' H', Sta K C σ ρ' G' H' → Same G G' → Q b H'
abbrev RpAll (K : Fr) (G : Hp) : List V → List D → Prop := Paired (Rp K G)
theorem rpAll_mono {K : Fr} {G G' : Hp} (e : Same G G') {vs : List V} {ds : List D} (h : RpAll K G vs ds) : RpAll K G' vs ds := Paired.mapP h fun _ _ z => rp_mono e z
def tL (K : Fr) (m : M (List D)) : TA := fun σ H Q => ∃ C ρ G ds ρ', Sta K C σ ρ G H ∧ m ρ = some (ds, ρ') ∧ ∀ vs G' H', Sta K C σ ρ' G' H' → Same G G' → RpAll K G' vs ds → Q vs H'

def DE (X : Cx) (e : Expr) (m : M Res) : Prop := PE X e (tE X.wd m)
def DT (X : Cx) (e : Expr) (m : M Bool) : Prop := PT X e (tT X.wd m)
def DL (X : Cx) (es : List Expr) (m : M (List D)) : Prop := PA X es (tL X.wd m)

theorem rok_of_rs {K : Fr} {C : Cn} {σ : St} {ρ : Rho} {G H G' H' : Hp} {v : V} {r : Rs} (S : Sta K C σ ρ G H) (x : Ext G H G' H') (h : RsOk K G' H' H v r) : ROk K C σ ρ G' H' v r.res := by
  cases r with
  | val d => exact h
  | new d =>
    obtain ⟨a, o, rfl, h1, h2, h3, h4⟩ := h
    have h0 : ∀ u, C.H0 a = some u → False := fun u e => by
      by_cases hm : a ∈ C.M.map (·.2)
      · obtain ⟨⟨i, b⟩, hm1, rfl⟩ := List.mem_map.mp hm
        obtain ⟨o', z, _⟩ := S.fm.mst i b hm1
        rw [h3] at z; cases z
      · rw [S.fm.keep a u e hm] at h3; cases h3
    refine ⟨a, o, rfl, h1, h2, h4, ?_, fun i ⟨s, z1, z2, z3⟩ => ?_, fun p hp e => ?_⟩
    · cases q : C.H0 a with
      | none => rfl
      | some u => exact (h0 u q).elim
    · obtain ⟨ob, d', y, _⟩ := S.own_at z1 z2 z3
      rw [h3] at y; cases y
    · have z := (S.tmp p hp).1
      rw [e, h3] at z; cases z

/-! ### expressions -/
def mC (d : D) : M Res := fun ρ => some (.sh d, ρ)
def mV (i : Nat) : M Res := fun ρ => match ρ[i]? with
  | some (.sh d) => some (.sh d, ρ)
  | some (.ow _) => some (.bw i, ρ)
  | some (.mp _) => some (.bw i, ρ)
  | _ => none
variable {X : Cx}
theorem de_const {e : Expr} {v : V} {d : D} (h : PE X e (tC v)) (hd : ∀ G, Dq X.K G v d) : DE X e (mC d) := h.imp fun σ H Q ⟨C, ρ, G, r, ρ', S, e, k⟩ => by
  cases e
  exact k v G H S (Same.refl G) (.dat (hd G))
theorem de_var {e : Expr} {i : Nat} (h : PE X e (tVar i)) : DE X e (mV i) := h.imp fun σ H Q ⟨C, ρ, G, r, ρ', S, e, k⟩ => by
  unfold mV at e
  cases q : ρ[i]? with
  | none => rw [q] at e; cases e
  | some s =>
    rw [q] at e
    have w := S.ok i s q
    cases s with
    | no => cases e
    | sh d =>
      cases e
      obtain ⟨v, h1, h2⟩ := w
      exact ⟨v, joined h1, k v G H S (Same.refl G) h2⟩
    | ow d =>
      cases e
      obtain ⟨a, o, h1, h2⟩ := w
      exact ⟨_, joined h1, k _ G H S (Same.refl G) (joined h1)⟩
    | mp d =>
      cases e
      obtain ⟨a, o, h1, h2⟩ := w
      exact ⟨_, joined h1, k _ G H S (Same.refl G) (joined h1)⟩

/-- an operation by values keeps to its data function -/
def OpG (K : Fr) (r : R2) (g : D → D → Option Rs) : Prop := ∀ x y G H d e rs (Q : VK), Same G H → Rd1 K G H x d → Rd1 K G H y e → g d e = some rs → (∀ v G' H', Ext G H G' H' → RsOk K G' H' H v rs → Q v H') → r x y H Q
def UnG (K : Fr) (r : V → Hp → VK → Prop) (g : D → Option Rs) : Prop := ∀ x G H d rs (Q : VK), Same G H → Rd1 K G H x d → g d = some rs → (∀ v G' H', Ext G H G' H' → RsOk K G' H' H v rs → Q v H') → r x H Q
def orG {α β γ : Type} (g g' : α → β → Option γ) (d : α) (e : β) : Option γ := match g d e with
  | some z => some z
  | none => g' d e
theorem OpG.or {K : Fr} {r r' : R2} {g g' : D → D → Option Rs} (h : OpG K r g) (h' : OpG K r' g') : OpG K (fun x y H Q => r x y H Q ∨ r' x y H Q) (orG g g') := by
  intro x y G H d e rs Q s rx ry hg k
  unfold orG at hg
  cases q : g d e with
  | some z => rw [q] at hg; cases hg; exact .inl (h x y G H d e _ Q s rx ry q k)
  | none => rw [q] at hg; exact .inr (h' x y G H d e rs Q s rx ry hg k)

/-- two things read, then an operation -/
def mOp (g : D → D → Option Rs) (ma mb : M Res) : M Res := bnd ma fun ra => bnd mb fun rb ρ => match look ρ ra, look ρ rb with
  | some d, some e => match g d e with
    | some r => some (r.res, ρ)
    | none => none
  | _, _ => none
theorem tOp_of {K : Fr} {r : R2} {g : D → D → Option Rs} (hg : OpG K r g) {ma mb : M Res} : ∀ σ H Q, tE K (mOp g ma mb) σ H Q → tOp r (tE K ma) (tE K mb) σ H Q := by
  rintro σ H Q ⟨C, ρ, G, rr, ρ', S, e, k⟩
  obtain ⟨ra, ρ1, e1, e⟩ := bnd_some e
  obtain ⟨rb, ρ2, e2, e⟩ := bnd_some e
  refine ⟨C, ρ, G, ra, ρ1, S, e1, fun v G1 H1 S1 g1 r1 => ?_⟩
  obtain ⟨C', S1', hold⟩ := r1.hold S1
  refine ⟨C', ρ1, G1, rb, ρ2, S1', e2, fun u G2 H2 S2' g2 r2' => ?_⟩
  obtain ⟨S2, r1', back⟩ := hold ρ2 G2 H2 S2' g2
  have r2 := back u rb r2'
  cases q1 : look ρ2 ra with
  | none => simp only [q1] at e; cases e
  | some d =>
    cases q2 : look ρ2 rb with
    | none => simp only [q1, q2] at e; cases e
    | some d2 =>
      simp only [q1, q2] at e
      cases q3 : g d d2 with
      | none => rw [q3] at e; cases e
      | some rs =>
        rw [q3] at e; cases e
        exact hg v u G2 H2 d d2 rs Q S2.fm.gh (r1'.read S2 q1) (r2.read S2 q2) q3 fun w G' H' x ok => k w G' H' (S2.ext x) ((g1.trans g2).trans x.g) (rok_of_rs S2 x ok)
def mUn (g : D → Option Rs) (ma : M Res) : M Res := bnd ma fun ra ρ => match look ρ ra with
  | some d => match g d with
    | some r => some (r.res, ρ)
    | none => none
  | none => none
theorem tUn_of {K : Fr} {r : V → Hp → VK → Prop} {g : D → Option Rs} (hg : UnG K r g) {ma : M Res} : ∀ σ H Q, tE K (mUn g ma) σ H Q → tUn r (tE K ma) σ H Q := by
  rintro σ H Q ⟨C, ρ, G, rr, ρ', S, e, k⟩
  obtain ⟨ra, ρ1, e1, e⟩ := bnd_some e
  refine ⟨C, ρ, G, ra, ρ1, S, e1, fun v G1 H1 S1 g1 r1 => ?_⟩
  cases q1 : look ρ1 ra with
  | none => simp only [q1] at e; cases e
  | some d =>
    simp only [q1] at e
    cases q3 : g d with
    | none => rw [q3] at e; cases e
    | some rs =>
      rw [q3] at e; cases e
      exact hg v G1 H1 d rs Q S1.fm.gh (r1.read S1 q1) q3 fun w G' H' x ok => k w G' H' (S1.ext x) (g1.trans x.g) (rok_of_rs S1 x ok)

/-- argument lists: each thing is shared -/
def mNil : M (List D) := fun ρ => some ([], ρ)
def mShare (m : M Res) : M D := bnd m fun r ρ => demote ρ r
def mCons (m : M Res) (ms : M (List D)) : M (List D) := bnd (mShare m) fun d => bnd ms fun ds ρ => some (d :: ds, ρ)
theorem dl_nil : DL X [] mNil := pa_nil.imp fun σ H Q ⟨C, ρ, G, ds, ρ', S, e, k⟩ => by
  cases e
  exact k [] G H S (Same.refl G) .nil
theorem tCons_of {K : Fr} {m : M Res} {ms : M (List D)} : ∀ σ H Q, tL K (mCons m ms) σ H Q → tCons (tE K m) (tL K ms) σ H Q := by
  rintro σ H Q ⟨C, ρ, G, ds, ρ', S, e, k⟩
  obtain ⟨d, ρ1, e1, e⟩ := bnd_some e
  obtain ⟨ds', ρ2, e2, e⟩ := bnd_some e
  cases e
  obtain ⟨r, ρ0, e0, e1⟩ := bnd_some e1
  refine ⟨C, ρ, G, r, ρ0, S, e0, fun v G1 H1 S1 g1 r1 => ?_⟩
  obtain ⟨G2, S2, g2, rp⟩ := S1.demote r1 e1
  exact ⟨C, ρ1, G2, ds', _, S2, e2, fun vs G3 H3 S3 g3 rps => k (v :: vs) G3 H3 S3 ((g1.trans g2).trans g3) (.cons (rp_mono g3 rp) rps)⟩
theorem dl_cons {e : Expr} {es : List Expr} {m : M Res} {ms : M (List D)} (h : DE X e m) (hs : DL X es ms) (hst : starEach (e :: es) X.env = (false, eval e X.env) :: starEach es X.env) : DL X (e :: es) (mCons m ms) :=
  (pa_cons h hs hst).imp tCons_of
def noDicts (ds : List D) : Bool := ds.all fun d => !isDict d
theorem rpAll_dp {K : Fr} {G : Hp} : ∀ {vs : List V} {ds : List D}, RpAll K G vs ds → noDicts ds = true → DqAll K.k G vs ds
  | _, _, .nil, _ => .nil
  | _, _, .cons h hs, n => by
    simp only [noDicts, List.all_cons, Bool.and_eq_true, Bool.not_eq_true'] at n
    exact .cons (h.dq n.1) (rpAll_dp hs n.2)
theorem paired_len {α β : Type} {F : α → β → Prop} : ∀ {l : List α} {l' : List β}, Paired F l l' → l.length = l'.length
  | _, _, .nil => rfl
  | _, _, .cons _ t => by simp [paired_len t]

theorem ext_new {G H : Hp} {p : Addr} {o : HO} (s : Same G H) (n : H p = none) : Ext G H (upd G p o) (upd H p o) := by
  have gn : G p = none := s.free n
  refine ⟨fun b u e => by rw [upd_ne (ne_of_none e gn)]; exact e, fun b u e => ?_, fun b u e => by rw [upd_ne (ne_of_none e n)]; exact e, fun b u e => ?_⟩
  · by_cases hb : b = p
    · subst hb; rw [upd_same] at e ⊢; exact e
    · rw [upd_ne hb] at e ⊢; exact s b u e
  · by_cases hb : b = p
    · subst hb; exact .inr n
    · rw [upd_ne hb] at e; exact .inl e
theorem ext_own {G H : Hp} {p : Addr} {o : HO} (s : Same G H) (n : H p = none) : Ext G H G (upd H p o) := by
  refine ⟨Same.refl G, fun b u e => by rw [upd_ne (ne_of_none e (s.free n))]; exact s b u e, fun b u e => by rw [upd_ne (ne_of_none e n)]; exact e, fun b u e => .inl e⟩

/-- a display of a tuple, of a list -/
def big : Nat := 100000
def mTup (ms : M (List D)) : M Res := bnd ms fun ds ρ => if noDicts ds && decide (ds.length ≤ big) then some (.sh (.tuple ds), ρ) else none
def mLst (ms : M (List D)) : M Res := bnd ms fun ds ρ => if noDicts ds && decide (ds.length ≤ big) then some (.fr (.list ds), ρ) else none
theorem big_line : big ≤ sizeLine := by decide
theorem if_some {α : Type} {c : Bool} {a : Option α} {z : α} (h : (if c then a else none) = some z) : c = true ∧ a = some z := by
  cases c with
  | true => exact ⟨rfl, h⟩
  | false => cases h
theorem new_tup {K : Fr} {G H : Hp} {vs : List V} {ds : List D} {p : Addr} {ob : Obj} (s : Same G H) (n : H p = none) (hd : ob.dict = none) (h : DqAll K.k G vs ds) : Ext G H (upd G p (.frz ob (.tup vs))) (upd H p (.frz ob (.tup vs))) ∧ Rp K (upd G p (.frz ob (.tup vs))) (V.ref p) (.tuple ds) := by
  have x := ext_new (o := HO.frz ob (.tup vs)) s n
  exact ⟨x, .dat (.tup (.inl ⟨ob, upd_same, hd⟩) (dpAll_mono x.g h))⟩
/-- a tuple laid: of plain make -/
def tTupZ (t : TA) : TE := fun σ H Q => t σ H fun xs H1 => xs.length ≤ sizeLine ∧ ∀ p ob, H1 p = none → ob.dict = none → Q (.ref p) (upd H1 p (.frz ob (.tup xs)))
theorem pe_tupZ {es : List Expr} {t : TA} {k : Nat} {pos : Pos} (h : PA X es t) : PE X (.Tuple es k pos) (tTupZ t) := by
  refine ⟨fun pins s σ H Q I hq => wpAny_Tuple_spliced (thn (h.run pos pins s σ H _ I hq) fun us s1 ⟨xs, H1, I1, r, z, q⟩ => ⟨by rw [← r.length]; exact z, ?_⟩)⟩
  exact ⟨.ref s1.heap.objs.size, _, I1.ltup (t' := s1.toks) (fun b u e => Heap.get?_push_of_some _ e) (Nat.le_refl _) (Heap.get?_push_size _ rfl) rfl rfl r z, rfl, q _ _ (I1.hok.fresh (Nat.le_refl _)) rfl⟩
theorem new_lst {K : Fr} {G H : Hp} {vs : List V} {ds : List D} {p : Addr} (s : Same G H) (n : H p = none) (h : DqAll K.k G vs ds) : Ext G H G (upd H p (.lst vs)) ∧ RsOk K G (upd H p (.lst vs)) H (V.ref p) (.new (.list ds)) :=
  ⟨ext_own s n, p, _, rfl, upd_same, s.free n, n, .lst h⟩
theorem de_tup {es : List Expr} {ms : M (List D)} {k : Nat} {pos : Pos} (h : DL X es ms) : DE X (.Tuple es k pos) (mTup ms) := (pe_tupZ h).imp (by
  rintro σ H Q ⟨C, ρ, G, r, ρ', S, e, k⟩
  obtain ⟨ds, ρ1, e1, e⟩ := bnd_some e
  obtain ⟨c, e⟩ := if_some e
  cases e
  rw [Bool.and_eq_true, decide_eq_true_eq] at c
  refine ⟨C, ρ, G, ds, _, S, e1, fun vs G1 H1 S1 g1 rp => ⟨by rw [paired_len rp]; exact Nat.le_trans c.2 big_line, fun p ob n hob => ?_⟩⟩
  obtain ⟨x, z⟩ := new_tup S1.fm.gh n hob (rpAll_dp rp c.1)
  exact k _ _ _ (S1.ext x) (g1.trans x.g) z)
theorem de_lst {es : List Expr} {ms : M (List D)} {pos : Pos} (h : DL X es ms) : DE X (.List es pos) (mLst ms) := (pe_lst h).imp (by
  rintro σ H Q ⟨C, ρ, G, r, ρ', S, e, k⟩
  obtain ⟨ds, ρ1, e1, e⟩ := bnd_some e
  obtain ⟨c, e⟩ := if_some e
  cases e
  rw [Bool.and_eq_true, decide_eq_true_eq] at c
  refine ⟨C, ρ, G, ds, _, S, e1, fun vs G1 H1 S1 g1 rp => ⟨by rw [paired_len rp]; exact Nat.le_trans c.2 big_line, fun p n => ?_⟩⟩
  obtain ⟨x, z⟩ := new_lst S1.fm.gh n (rpAll_dp rp c.1)
  exact k _ _ _ (S1.ext x) (g1.trans x.g) (rok_of_rs S1 x z))

/-! ### tests -/
def mTest (m : M Res) : M Bool := bnd m fun r ρ => match look ρ r with
  | some (.bool b) => some (b, ρ)
  | _ => none
theorem rp_bool {K : Fr} {G H : Hp} {v : V} {b : Bool} (h : Rd1 K G H v (.bool b)) : v = .bl b := by
  rcases h with h | ⟨a, o, _, _, h⟩
  · cases h with
    | dat h => cases h; rfl
    | con h1 h2 => cases h2
  · cases h
theorem rp_int {K : Fr} {G H : Hp} {v : V} {i : Int} (h : Rd1 K G H v (.int i)) : v = .int i := by
  rcases h with h | ⟨a, o, _, _, h⟩
  · cases h with
    | dat h => cases h; rfl
    | con h1 h2 => cases h2
  · cases h
theorem rp_str {K : Fr} {G H : Hp} {v : V} {x : Str} (h : Rd1 K G H v (.str x)) : v = .str x := by
  rcases h with h | ⟨a, o, _, _, h⟩
  · cases h with
    | dat h => cases h; rfl
    | con h1 h2 => cases h2
  · cases h
theorem rp_none {K : Fr} {G H : Hp} {v : V} (h : Rd1 K G H v .none) : v = .non := by
  rcases h with h | ⟨a, o, _, _, h⟩
  · cases h with
    | dat h => cases h; rfl
    | con h1 h2 => cases h2
  · cases h
theorem rp_tupT {K : Fr} {G H : Hp} {v : V} {ds : List D} (h : Rd1 K G H v (.tuple ds)) : ∃ a xs, v = .ref a ∧ TqT K.k G a xs ∧ DqAll K.k G xs ds := by
  rcases h with h | ⟨a, o, _, _, h⟩
  · cases h with
    | dat h => cases h with
      | tup h1 h2 => exact ⟨_, _, rfl, h1, h2⟩
    | con h1 h2 => cases h2
  · cases h
theorem rp_tup {K : Fr} {G H : Hp} {v : V} {ds : List D} (h : Rd1 K G H v (.tuple ds)) : ∃ a xs, v = .ref a ∧ SqT K.k G a xs ∧ DqAll K.k G xs ds := let ⟨a, xs, e, h1, h2⟩ := rp_tupT h; ⟨a, xs, e, h1.sq, h2⟩
theorem rp_lst {K : Fr} {G H : Hp} {v : V} {ds : List D} (s : Same G H) (h : Rd1 K G H v (.list ds)) : ∃ a xs, v = .ref a ∧ Rd H a (.lst xs) ∧ DqAll K.k G xs ds := by
  rcases h with h | ⟨a, o, rfl, h1, h⟩
  · cases h with
    | dat h => cases h with
      | lst h1 h2 => exact ⟨_, _, rfl, Evl.ex_rd s h1, h2⟩
    | con h1 h2 => cases h2 with
      | lst h => exact ⟨_, _, rfl, Or.inl (s _ _ h1), h⟩
  · cases h with
    | lst h => exact ⟨a, _, rfl, Or.inl h1, h⟩
theorem tB_of {K : Fr} {m : M Res} : ∀ σ H Q, tT K (mTest m) σ H Q → tB (tE K m) σ H Q := by
  rintro σ H Q ⟨C, ρ, G, b, ρ', S, e, k⟩
  obtain ⟨r, ρ1, e1, e⟩ := bnd_some e
  refine ⟨C, ρ, G, r, ρ1, S, e1, fun v G1 H1 S1 g1 r1 => ?_⟩
  cases q : look ρ1 r with
  | none => simp only [q] at e; cases e
  | some d =>
    simp only [q] at e
    cases d <;> simp only at e <;> try cases e
    exact ⟨_, rp_bool (r1.read S1 q), k G1 H1 S1 g1⟩
def mAndT (a b : M Bool) : M Bool := bnd a fun x => if x then b else fun ρ => some (false, ρ)
def mOrT (a b : M Bool) : M Bool := bnd a fun x => if x then fun ρ => some (true, ρ) else b
def mNotT (a : M Bool) : M Bool := bnd a fun x ρ => some (!x, ρ)
theorem tAnd_of {K : Fr} {a b : M Bool} : ∀ σ H Q, tT K (mAndT a b) σ H Q → tAnd (tT K a) (tT K b) σ H Q := by
  rintro σ H Q ⟨C, ρ, G, r, ρ', S, e, k⟩
  obtain ⟨x, ρ1, e1, e⟩ := bnd_some e
  refine ⟨C, ρ, G, x, ρ1, S, e1, fun G1 H1 S1 g1 => ?_⟩
  cases x with
  | true => exact ⟨C, ρ1, G1, r, ρ', S1, e, fun G2 H2 S2 g2 => k G2 H2 S2 (g1.trans g2)⟩
  | false =>
    cases e
    exact k G1 H1 S1 g1
theorem tOr_of {K : Fr} {a b : M Bool} : ∀ σ H Q, tT K (mOrT a b) σ H Q → tOr (tT K a) (tT K b) σ H Q := by
  rintro σ H Q ⟨C, ρ, G, r, ρ', S, e, k⟩
  obtain ⟨x, ρ1, e1, e⟩ := bnd_some e
  refine ⟨C, ρ, G, x, ρ1, S, e1, fun G1 H1 S1 g1 => ?_⟩
  cases x with
  | false => exact ⟨C, ρ1, G1, r, ρ', S1, e, fun G2 H2 S2 g2 => k G2 H2 S2 (g1.trans g2)⟩
  | true =>
    cases e
    exact k G1 H1 S1 g1
theorem tNot_of {K : Fr} {a : M Bool} : ∀ σ H Q, tT K (mNotT a) σ H Q → tNot (tT K a) σ H Q := by
  rintro σ H Q ⟨C, ρ, G, r, ρ', S, e, k⟩
  obtain ⟨x, ρ1, e1, e⟩ := bnd_some e
  cases e
  exact ⟨C, ρ, G, x, _, S, e1, fun G1 H1 S1 g1 => k G1 H1 S1 g1⟩
/-- as values (truths all but the last) -/
def mAndV (a b : M Res) : M Res := bnd (mTest a) fun x => if x then b else fun ρ => some (.sh (.bool false), ρ)
def mOrV (a b : M Res) : M Res := bnd (mTest a) fun x => if x then fun ρ => some (.sh (.bool true), ρ) else b
def mNotV (a : M Res) : M Res := bnd (mTest a) fun x ρ => some (.sh (.bool (!x)), ρ)
theorem tVB {K : Fr} {a : M Res} {f : Bool → M Res} {σ : St} {H : Hp} {Q : VK} (h : tE K (bnd (mTest a) f) σ H Q) :
    tE K a σ H fun x H1 => ∃ c, x = .bl c ∧ tE K (f c) σ H1 Q := by
  obtain ⟨C, ρ, G, r, ρ', S, e, k⟩ := h
  obtain ⟨x, ρ1, e1, e⟩ := bnd_some e
  obtain ⟨ra, ρ0, e0, e1⟩ := bnd_some e1
  refine ⟨C, ρ, G, ra, ρ0, S, e0, fun v G1 H1 S1 g1 r1 => ?_⟩
  cases q : look ρ0 ra with
  | none => simp only [q] at e1; cases e1
  | some d =>
    simp only [q] at e1
    cases d <;> simp only at e1 <;> try cases e1
    exact ⟨_, rp_bool (r1.read S1 q), C, _, G1, r, ρ', S1, e, fun v G2 H2 S2 g2 => k v G2 H2 S2 (g1.trans g2)⟩
theorem tE_pure {K : Fr} {d : D} {v : V} {σ : St} {H : Hp} {Q : VK} (hv : ∀ G, Dq K.k G v d) (h : tE K (fun ρ => some (.sh d, ρ)) σ H Q) : Q v H := by
  obtain ⟨C, ρ, G, r, ρ', S, e, k⟩ := h
  cases e
  exact k v G H S (Same.refl G) (.dat (hv G))
theorem tAndV_of {K : Fr} {a b : M Res} : ∀ σ H Q, tE K (mAndV a b) σ H Q → tAndV (tE K a) (tE K b) σ H Q := by
  intro σ H Q h
  obtain ⟨C, ρ, G, r, ρ', S, e, k⟩ := tVB h
  refine ⟨C, ρ, G, r, ρ', S, e, fun v G1 H1 S1 g1 r1 => ?_⟩
  obtain ⟨c, rfl, z⟩ := k v G1 H1 S1 g1 r1
  refine ⟨c, rfl, ?_⟩
  cases c with
  | true => exact z
  | false => exact tE_pure (fun G => .bl false) z
theorem tOrV_of {K : Fr} {a b : M Res} : ∀ σ H Q, tE K (mOrV a b) σ H Q → tOrV (tE K a) (tE K b) σ H Q := by
  intro σ H Q h
  obtain ⟨C, ρ, G, r, ρ', S, e, k⟩ := tVB h
  refine ⟨C, ρ, G, r, ρ', S, e, fun v G1 H1 S1 g1 r1 => ?_⟩
  obtain ⟨c, rfl, z⟩ := k v G1 H1 S1 g1 r1
  refine ⟨c, rfl, ?_⟩
  cases c with
  | false => exact z
  | true => exact tE_pure (fun G => .bl true) z
theorem tNotV_of {K : Fr} {a : M Res} : ∀ σ H Q, tE K (mNotV a) σ H Q → tNotV (tE K a) σ H Q := by
  intro σ H Q h
  obtain ⟨C, ρ, G, r, ρ', S, e, k⟩ := tVB h
  refine ⟨C, ρ, G, r, ρ', S, e, fun v G1 H1 S1 g1 r1 => ?_⟩
  obtain ⟨c, rfl, z⟩ := k v G1 H1 S1 g1 r1
  exact ⟨c, rfl, tE_pure (fun G => .bl _) z⟩
def mIf (t : M Bool) (a b : M Res) : M Res := bnd t fun x => if x then a else b
theorem tIf_of {K : Fr} {t : M Bool} {a b : M Res} : ∀ σ H Q, tE K (mIf t a b) σ H Q → tIf (tT K t) (tE K a) (tE K b) σ H Q := by
  rintro σ H Q ⟨C, ρ, G, r, ρ', S, e, k⟩
  obtain ⟨x, ρ1, e1, e⟩ := bnd_some e
  refine ⟨C, ρ, G, x, ρ1, S, e1, fun G1 H1 S1 g1 => ?_⟩
  cases x with
  | true => exact ⟨C, ρ1, G1, r, ρ', S1, e, fun v G2 H2 S2 g2 => k v G2 H2 S2 (g1.trans g2)⟩
  | false => exact ⟨C, ρ1, G1, r, ρ', S1, e, fun v G2 H2 S2 g2 => k v G2 H2 S2 (g1.trans g2)⟩
end Z
end

section
set_option Elab.async false
set_option linter.all false
set_option maxRecDepth 100000
set_option maxHeartbeats 1000000
/-! Z3: targets, statements, loops, comprehensions over data. -/
namespace Z
open PySem L2

/-! ### storing into slots -/
def putS (i : Nat) (s : Slot) (ρ : Rho) : Option Rho := match ρ[i]? with
  | some (.mp _) => none
  | some _ => some (ρ.set i s)
  | none => none
def putF (i : Nat) : Res → Rho → Option Rho
  | .sh d, ρ => putS i (.sh d) ρ
  | .fr d, ρ => putS i (.ow d) ρ
  | .bw _, _ => none
theorem putS_some {i : Nat} {s : Slot} {ρ ρ' : Rho} (h : putS i s ρ = some ρ') : i < ρ.length ∧ ρ' = ρ.set i s := by
  unfold putS at h
  cases q : ρ[i]? with
  | none => rw [q] at h; cases h
  | some t =>
    rw [q] at h
    refine ⟨(List.getElem?_eq_some_iff.mp q).1, ?_⟩
    cases t <;> simp only at h <;> first | (cases h; rfl) | cases h
theorem Sta.setS {K : Fr} {C : Cn} {σ : St} {ρ : Rho} {G H : Hp} {i : Nat} {s : Slot} {ov : Option V} (S : Sta K C σ ρ G H) (hi : i < ρ.length) (hs : SOk K C G H i ov s)
    (ho : ∀ a, s.own = true → ov = some (V.ref a) → (∀ j, ¬ Owns σ ρ j a) ∧ ∀ p ∈ C.T, p.1 ≠ a) : Sta K C (σ.set i ov) (ρ.set i s) G H := by
  have hiσ : i < σ.length := by rw [S.len]; exact hi
  have other : ∀ j a, Owns (σ.set i ov) (ρ.set i s) j a → (j = i ∧ s.own = true ∧ ov = some (V.ref a)) ∨ (j ≠ i ∧ Owns σ ρ j a) := fun j a ⟨t, z1, z2, z3⟩ => by
    by_cases hj : i = j
    · subst hj
      rw [List.getElem?_set_self hi] at z1
      rw [List.getElem?_set_self hiσ] at z3
      cases z1
      exact .inl ⟨rfl, z2, Option.some.inj z3⟩
    · rw [List.getElem?_set_ne hj] at z1 z3
      exact .inr ⟨fun e => hj e.symm, t, z1, z2, z3⟩
  refine ⟨S.fm, by simpa using S.len, fun j t ej => ?_, fun j k a o1 o2 => ?_, fun p hp => ?_⟩
  · by_cases hj : i = j
    · subst hj
      rw [List.getElem?_set_self hi] at ej
      rw [List.getElem?_set_self hiσ]
      cases ej
      exact hs
    · rw [List.getElem?_set_ne hj] at ej ⊢
      exact S.ok j t ej
  · rcases other j a o1 with ⟨e1, y1, y2⟩ | ⟨n1, w1⟩ <;> rcases other k a o2 with ⟨e2, y3, y4⟩ | ⟨n2, w2⟩
    · rw [e1, e2]
    · exact ((ho a y1 y2).1 k w2).elim
    · exact ((ho a y3 y4).1 j w1).elim
    · exact S.inj j k a w1 w2
  · obtain ⟨z1, z2, z3, z4⟩ := S.tmp p hp
    refine ⟨z1, z2, z3, fun j o => ?_⟩
    rcases other j p.1 o with ⟨_, y1, y2⟩ | ⟨_, w⟩
    · exact (ho p.1 y1 y2).2 p hp rfl
    · exact z4 j w
theorem Sta.putF {K : Fr} {C : Cn} {σ : St} {ρ ρ' : Rho} {G H : Hp} {i : Nat} {r : Res} {v : V} (S : Sta K C σ ρ G H) (h : ROk K C σ ρ G H v r) (e : putF i r ρ = some ρ') : Sta K C (σ.set i (some v)) ρ' G H := by
  cases r with
  | bw j => cases e
  | sh d =>
    obtain ⟨hi, rfl⟩ := putS_some e
    exact S.setS hi ⟨v, rfl, h⟩ fun a o => by cases o
  | fr d =>
    obtain ⟨hi, rfl⟩ := putS_some e
    obtain ⟨a, o, rfl, h2, h3, h4, h5, h6, h7⟩ := h
    exact S.setS hi ⟨a, o, rfl, h2, h3, h4, h5⟩ fun b _ eb => by cases eb; exact ⟨h6, h7⟩
/-- what is read in place is shared -/
def mFix (m : M Res) : M Res := bnd m fun r ρ => match r with
  | .bw i => match demote ρ (.bw i) with
    | some (d, ρ') => some (.sh d, ρ')
    | none => none
  | r => some (r, ρ)
theorem tFix {K : Fr} {m : M Res} {σ : St} {H : Hp} {Q : VK} (h : tE K (mFix m) σ H Q) : tE K m σ H Q := by
  obtain ⟨C, ρ, G, r, ρ', S, e, k⟩ := h
  obtain ⟨r0, ρ0, e0, e⟩ := bnd_some e
  refine ⟨C, ρ, G, r0, ρ0, S, e0, fun v G1 H1 S1 g1 r1 => ?_⟩
  cases r0 with
  | sh d => cases e; exact k v G1 H1 S1 g1 r1
  | fr d => cases e; exact k v G1 H1 S1 g1 r1
  | bw i =>
    dsimp only at e
    cases q : demote ρ0 (.bw i) with
    | none => rw [q] at e; cases e
    | some p =>
      obtain ⟨d, ρ2⟩ := p
      rw [q] at e; cases e
      obtain ⟨G2, S2, g2, rp⟩ := S1.demote r1 q
      exact k v G2 H1 S2 (g1.trans g2) rp

/-! ### targets -/
def But (js : List Nat) (σ σ' : St) : Prop := σ'.length = σ.length ∧ ∀ j, j ∉ js → σ'[j]? = σ[j]?
def gA (K : Fr) (js : List Nat) (f : D → Rho → Option Rho) : TG := fun v σ H Q => ∃ C ρ G d ρ', Sta K C σ ρ G H ∧ Rp K G v d ∧ f d ρ = some ρ' ∧
  ∀ σ', Sta K C σ' ρ' G H → But js σ σ' → Q σ' H
variable {X : Cx}
def DG (X : Cx) (tg : Expr) (js : List Nat) (f : D → Rho → Option Rho) : Prop := PG X tg (gA X.wd js f)
def fName (i : Nat) (d : D) (ρ : Rho) : Option Rho := putS i (.sh d) ρ
theorem dg_name {tg : Expr} {i : Nat} (h : PG X tg (gName i)) : DG X tg [i] (fName i) := h.imp fun v σ H Q ⟨C, ρ, G, d, ρ', S, rp, e, k⟩ => by
  exact k _ (S.putF (r := .sh d) rp e) ⟨by simp, fun j hj => by rw [List.getElem?_set_ne]; exact fun e => hj (by simp [e])⟩
def gAs (K : Fr) (js : List Nat) (f : List D → Rho → Option Rho) : TGs := fun vs σ H Q => ∃ C ρ G ds ρ', Sta K C σ ρ G H ∧ RpAll K G vs ds ∧ f ds ρ = some ρ' ∧
  ∀ σ', Sta K C σ' ρ' G H → But js σ σ' → Q σ' H
def DGs (X : Cx) (tgs : List Expr) (js : List Nat) (f : List D → Rho → Option Rho) : Prop := PGs X tgs (gAs X.wd js f)
theorem _root_.L2.PGs.imp {X : Cx} {e : List Expr} {t t' : TGs} (h : PGs X e t) (i : ∀ v σ H Q, t' v σ H Q → t v σ H Q) : PGs X e t' := ⟨fun pins s σ H x u Q I r q => h.run pins s σ H x u Q I r (i x σ H Q q)⟩
def fNil : List D → Rho → Option Rho
  | [], ρ => some ρ
  | _ :: _, _ => none
def fCons (f : D → Rho → Option Rho) (g : List D → Rho → Option Rho) : List D → Rho → Option Rho
  | d :: ds, ρ => match f d ρ with
    | some ρ' => g ds ρ'
    | none => none
  | [], _ => none
theorem dgs_nil : DGs X [] [] fNil := pgs_nil.imp fun vs σ H Q ⟨C, ρ, G, ds, ρ', S, rp, e, k⟩ => by
  cases rp with
  | nil => cases e; exact ⟨rfl, k σ S ⟨rfl, fun _ _ => rfl⟩⟩
  | cons _ _ => cases e
theorem gCons_of {K : Fr} {js ks : List Nat} {f : D → Rho → Option Rho} {g : List D → Rho → Option Rho} : ∀ vs σ H Q, gAs K (js ++ ks) (fCons f g) vs σ H Q → gCons (gA K js f) (gAs K ks g) vs σ H Q := by
  rintro vs σ H Q ⟨C, ρ, G, ds, ρ', S, rp, e, k⟩
  cases rp with
  | nil => cases e
  | cons h hs =>
    rename_i v d vs ds
    unfold fCons at e
    dsimp only at e
    cases q : f d ρ with
    | none => rw [q] at e; cases e
    | some ρ1 =>
      rw [q] at e
      refine ⟨v, vs, rfl, C, ρ, G, d, ρ1, S, h, q, fun σ1 S1 c1 => ?_⟩
      exact ⟨C, ρ1, G, ds, ρ', S1, hs, e, fun σ2 S2 c2 => k σ2 S2 ⟨c2.1.trans c1.1, fun j hj => by
        simp only [List.mem_append, not_or] at hj
        rw [c2.2 j hj.2, c1.2 j hj.1]⟩⟩
def fTup (n : Nat) (f : List D → Rho → Option Rho) : D → Rho → Option Rho
  | .tuple ds, ρ => if ds.length = n then f ds ρ else none
  | _, _ => none
theorem rpAll_of_dp {K : Fr} {G : Hp} : ∀ {vs : List V} {ds : List D}, DqAll K.k G vs ds → RpAll K G vs ds
  | _, [], .nil => .nil
  | _, _ :: _, .cons h hs => .cons (.dat h) (rpAll_of_dp hs)
theorem gTup_of {K : Fr} {n : Nat} {js : List Nat} {f : List D → Rho → Option Rho} : ∀ v σ H Q, gA K js (fTup n f) v σ H Q → gTup K.k n (gAs K js f) v σ H Q := by
  rintro v σ H Q ⟨C, ρ, G, d, ρ', S, rp, e, k⟩
  cases d with
  | tuple ds =>
    unfold fTup at e
    dsimp only at e
    by_cases hn : ds.length = n
    · rw [if_pos hn] at e
      obtain ⟨a, xs, rfl, h1, h2⟩ := rp_tup (H := H) (.inl rp)
      exact ⟨a, xs, rfl, sqT_mono S.fm.gh h1, by rw [dpAll_len h2]; exact hn, C, ρ, G, ds, ρ', S, rpAll_of_dp h2, e, k⟩
    · rw [if_neg hn] at e; cases e
  | _ => cases e

/-! ### statements -/
inductive SO where
  | nx (ρ : Rho)
  | rt (r : Rs) (ρ : Rho)
  | bk (ρ : Rho)
  | ct (ρ : Rho)
abbrev SM := Rho → Option SO
def PostS (K : Fr) (C : Cn) (G : Hp) (D : Ends) : SO → Prop
  | .nx ρ' => ∀ σ' G' H', Sta K C σ' ρ' G' H' → Same G G' → D.nx σ' H'
  | .rt r ρ' => ∀ v σ' G' H', Sta K C σ' ρ' G' H' → Same G G' → RsOk K G' H' C.H0 v r → D.rt v H'
  | .bk ρ' => ∀ σ' G' H', Sta K C σ' ρ' G' H' → Same G G' → D.bk σ' H'
  | .ct ρ' => ∀ σ' G' H', Sta K C σ' ρ' G' H' → Same G G' → D.ct σ' H'
theorem PostS.mono {K : Fr} {C : Cn} {G G1 : Hp} {D : Ends} (g : Same G G1) {o : SO} (h : PostS K C G D o) : PostS K C G1 D o := by
  cases o with
  | nx ρ => exact fun σ' G' H' S z => h σ' G' H' S (g.trans z)
  | rt r ρ => exact fun v σ' G' H' S z => h v σ' G' H' S (g.trans z)
  | bk ρ => exact fun σ' G' H' S z => h σ' G' H' S (g.trans z)
  | ct ρ => exact fun σ' G' H' S z => h σ' G' H' S (g.trans z)
def tSt (K : Fr) (m : SM) : TS := fun D σ H => ∃ C ρ G o, Sta K C σ ρ G H ∧ m ρ = some o ∧ PostS K C G D o
def DS (X : Cx) (st : Stmt) (m : SM) : Prop := PS X st (tSt X.wd m)
def DSs (X : Cx) (st : List Stmt) (m : SM) : Prop := PSs X st (tSt X.wd m)

def mSkip : SM := fun ρ => some (.nx ρ)
def mSeq (a b : SM) : SM := fun ρ => match a ρ with
  | some (.nx ρ') => b ρ'
  | o => o
theorem next_of {K : Fr} : ∀ D σ H, tSt K mSkip D σ H → tNext D σ H := by
  rintro D σ H ⟨C, ρ, G, o, S, e, k⟩
  cases e
  exact k σ G H S (Same.refl G)
theorem dss_nil : DSs X [] mSkip := pss_nil.imp next_of
theorem seq_of {K : Fr} {a b : SM} : ∀ D σ H, tSt K (mSeq a b) D σ H → tSeq (tSt K a) (tSt K b) D σ H := by
  rintro D σ H ⟨C, ρ, G, o, S, e, k⟩
  unfold mSeq at e
  cases q : a ρ with
  | none => rw [q] at e; cases e
  | some o1 =>
    rw [q] at e
    refine ⟨C, ρ, G, o1, S, q, ?_⟩
    cases o1 with
    | nx ρ1 => exact fun σ' G' H' S' g => ⟨C, ρ1, G', o, S', e, k.mono g⟩
    | rt r ρ1 => cases e; exact k
    | bk ρ1 => cases e; exact k
    | ct ρ1 => cases e; exact k
theorem dss_cons {st : Stmt} {rest : List Stmt} {a b : SM} (h : DS X st a) (h' : DSs X rest b) : DSs X (st :: rest) (mSeq a b) := (pss_cons h h').imp seq_of
def mIfS (t : M Bool) (a b : SM) : SM := fun ρ => match t ρ with
  | some (true, ρ') => a ρ'
  | some (false, ρ') => b ρ'
  | none => none
theorem ds_if {c : Expr} {a b : List Stmt} {pos : Pos} {t : M Bool} {ma mb : SM} (hc : DT X c t) (ha : DSs X a ma) (hb : DSs X b mb) : DS X (.If c a b pos) (mIfS t ma mb) := (ps_if hc ha hb).imp (by
  rintro D σ H ⟨C, ρ, G, o, S, e, k⟩
  unfold mIfS at e
  cases q : t ρ with
  | none => rw [q] at e; cases e
  | some p =>
    obtain ⟨x, ρ1⟩ := p
    rw [q] at e
    refine ⟨C, ρ, G, x, ρ1, S, q, fun G1 H1 S1 g1 => ?_⟩
    cases x with
    | true => exact ⟨C, ρ1, G1, o, S1, e, k.mono g1⟩
    | false => exact ⟨C, ρ1, G1, o, S1, e, k.mono g1⟩)
/-- return e -/
def mRet (m : M Res) : SM := fun ρ => match m ρ with
  | some (.sh d, ρ') => some (.rt (.val d) ρ')
  | some (.fr d, ρ') => some (.rt (.new d) ρ')
  | some (.bw i, ρ') => match ρ'[i]? with
    | some (.sh d) => some (.rt (.val d) ρ')
    | some (.ow d) => some (.rt (.new d) ρ')
    | _ => none
  | none => none
theorem ds_ret {e : Expr} {pos : Pos} {m : M Res} (h : DE X e m) : DS X (.Return (some e) pos) (mRet m) := (ps_ret h).imp (by
  rintro D σ H ⟨C, ρ, G, o, S, e, k⟩
  unfold mRet at e
  cases q : m ρ with
  | none => rw [q] at e; cases e
  | some p =>
    obtain ⟨r, ρ1⟩ := p
    rw [q] at e
    refine ⟨C, ρ, G, r, ρ1, S, q, fun v G1 H1 S1 g1 r1 => ?_⟩
    cases r with
    | sh d => cases e; exact k v σ G1 H1 S1 g1 r1
    | fr d =>
      cases e
      obtain ⟨a, ob, rfl, h2, h3, h4, h5, _⟩ := r1
      exact k _ σ G1 H1 S1 g1 ⟨a, ob, rfl, h2, h3, h5, h4⟩
    | bw i =>
      have r1' : σ[i]? = some (some v) := r1
      dsimp only at e
      cases w : ρ1[i]? with
      | none => rw [w] at e; cases e
      | some s =>
        rw [w] at e
        have z := S1.ok i s w
        rw [r1'] at z
        cases s with
        | no => cases e
        | mp d => cases e
        | sh d =>
          cases e
          obtain ⟨u, z1, z2⟩ := z
          cases z1
          exact k v σ G1 H1 S1 g1 z2
        | ow d =>
          cases e
          obtain ⟨a, ob, z1, z2, z3, z4, z5⟩ := z
          cases z1
          exact k _ σ G1 H1 S1 g1 ⟨a, ob, rfl, z2, z3, z5, z4⟩)
def mRetN : SM := fun ρ => some (.rt (.val .none) ρ)
theorem ds_retN {pos : Pos} : DS X (.Return none pos) mRetN := ps_retN.imp (by
  rintro D σ H ⟨C, ρ, G, o, S, e, k⟩
  cases e
  exact k _ σ G H S (Same.refl G) (.dat .non))
def mDrop (m : M Res) : SM := fun ρ => match m ρ with
  | some (_, ρ') => some (.nx ρ')
  | none => none
theorem ds_expr {e : Expr} {pos : Pos} {m : M Res} (h : DE X e m) (hs : swapsWith e none pos.line X.env = pure false) : DS X (.Expr e pos) (mDrop m) := (ps_expr h hs).imp (by
  rintro D σ H ⟨C, ρ, G, o, S, e, k⟩
  unfold mDrop at e
  cases q : m ρ with
  | none => rw [q] at e; cases e
  | some p =>
    obtain ⟨r, ρ1⟩ := p
    rw [q] at e; cases e
    exact ⟨C, ρ, G, r, ρ1, S, q, fun v G1 H1 S1 g1 r1 => k σ G1 H1 S1 g1⟩)
/-- name = e -/
def mAsg (i : Nat) (m : M Res) : SM := fun ρ => match mFix m ρ with
  | some (r, ρ') => match putF i r ρ' with
    | some ρ2 => some (.nx ρ2)
    | none => none
  | none => none
theorem asg_of {K : Fr} {i : Nat} {m : M Res} : ∀ D σ H, tSt K (mAsg i m) D σ H → tAsg (tE K m) (gName i) D σ H := by
  rintro D σ H ⟨C, ρ, G, o, S, e, k⟩
  unfold mAsg at e
  cases q : mFix m ρ with
  | none => rw [q] at e; cases e
  | some p =>
    obtain ⟨r, ρ1⟩ := p
    rw [q] at e
    dsimp only at e
    cases w : putF i r ρ1 with
    | none => rw [w] at e; cases e
    | some ρ2 =>
      rw [w] at e; cases e
      exact tFix ⟨C, ρ, G, r, ρ1, S, q, fun v G1 H1 S1 g1 r1 => k _ G1 H1 (S1.putF r1 w) g1⟩
/-- target = e, the thing shared -/
def mAsgT (f : D → Rho → Option Rho) (m : M Res) : SM := fun ρ => match mShare m ρ with
  | some (d, ρ') => match f d ρ' with
    | some ρ2 => some (.nx ρ2)
    | none => none
  | none => none
theorem asgT_of {K : Fr} {js : List Nat} {f : D → Rho → Option Rho} {m : M Res} : ∀ D σ H, tSt K (mAsgT f m) D σ H → tAsg (tE K m) (gA K js f) D σ H := by
  rintro D σ H ⟨C, ρ, G, o, S, e, k⟩
  unfold mAsgT at e
  cases q : mShare m ρ with
  | none => rw [q] at e; cases e
  | some p =>
    obtain ⟨d, ρ1⟩ := p
    rw [q] at e
    dsimp only at e
    cases w : f d ρ1 with
    | none => rw [w] at e; cases e
    | some ρ2 =>
      rw [w] at e; cases e
      obtain ⟨r, ρ0, e0, e1⟩ := bnd_some q
      refine ⟨C, ρ, G, r, ρ0, S, e0, fun v G1 H1 S1 g1 r1 => ?_⟩
      obtain ⟨G2, S2, g2, rp⟩ := S1.demote r1 e1
      exact ⟨C, ρ1, G2, d, ρ2, S2, rp, w, fun σ' S' _ => k σ' G2 H1 S' (g1.trans g2)⟩
/-- a, b = x, y by plain names: each keeps what it gets -/
def mPar2 (i j : Nat) (ma mb : M Res) : SM := fun ρ => match (bnd (mFix ma) fun ra => bnd (mFix mb) fun rb ρ => some ((ra, rb), ρ)) ρ with
  | some ((ra, rb), ρ') => match putF j rb ρ' with
    | some ρ2 => match putF i ra ρ2 with
      | some ρ3 => some (.nx ρ3)
      | none => none
    | none => none
  | none => none
theorem ROk.putOther {K : Fr} {C : Cn} {σ : St} {ρ ρ' : Rho} {G H : Hp} {v u : V} {ra rb : Res} {j : Nat} {C' : Cn} (hC : ∃ P, C' = { C with T := P ++ C.T }) (ha : ∀ p d, ra = .fr d → (∃ o, v = V.ref p ∧ (p, o) ∈ C'.T))
    (S : Sta K C' σ ρ G H) (h : ROk K C σ ρ G H v ra) (hb : ROk K C' σ ρ G H u rb) (e : Z.putF j rb ρ = some ρ') (hn : ∀ i, ra ≠ .bw i) : ROk K C (σ.set j (some u)) ρ' G H v ra := by
  have S2 := S.putF hb e
  cases ra with
  | sh d => exact h
  | bw i => exact (hn i rfl).elim
  | fr d =>
    obtain ⟨a, o, rfl, h2, h3, h4, h5, h6, h7⟩ := h
    obtain ⟨o', _, hm⟩ := ha a d rfl
    exact ⟨a, o, rfl, h2, h3, h4, h5, (S2.tmp _ hm).2.2.2, h7⟩
theorem mFix_nb {m : M Res} {ρ ρ' : Rho} {r : Res} (h : mFix m ρ = some (r, ρ')) : ∀ i, r ≠ .bw i := by
  obtain ⟨r0, ρ0, e0, e⟩ := bnd_some h
  cases r0 with
  | sh d => cases e; exact fun i z => by cases z
  | fr d => cases e; exact fun i z => by cases z
  | bw k =>
    dsimp only at e
    cases q : demote ρ0 (.bw k) with
    | none => rw [q] at e; cases e
    | some p => rw [q] at e; cases e; exact fun i z => by cases z
/-- a result that is not read in place, held while other things are done, slots stored too -/
theorem ROk.hold2 {K : Fr} {C : Cn} {σ : St} {ρ : Rho} {G H : Hp} {v : V} {r : Res} (S : Sta K C σ ρ G H) (h : ROk K C σ ρ G H v r) (nb : ∀ i, r ≠ .bw i) :
    ∃ C', Sta K C' σ ρ G H ∧ ∀ σ' ρ' G' H', Sta K C' σ' ρ' G' H' → Same G G' → Sta K C σ' ρ' G' H' ∧ ROk K C σ' ρ' G' H' v r := by
  cases r with
  | sh d => exact ⟨C, S, fun σ' ρ' G' H' S' g => ⟨S', rp_mono g h⟩⟩
  | bw i => exact (nb i rfl).elim
  | fr d =>
    obtain ⟨a, o, rfl, h2, h3, h4, h5, h6, h7⟩ := h
    refine ⟨{ C with T := (a, o) :: C.T }, ⟨⟨S.fm.gh, S.fm.g0, S.fm.keep, S.fm.new, S.fm.mst⟩, S.len, S.ok, S.inj, fun p hp => ?_⟩, fun σ' ρ' G' H' S' g => ?_⟩
    · rcases List.mem_cons.mp hp with e | hp
      · subst e; exact ⟨h2, h3, h5, h6⟩
      · exact S.tmp p hp
    · have S2 : Sta K C σ' ρ' G' H' := ⟨⟨S'.fm.gh, S'.fm.g0, S'.fm.keep, S'.fm.new, S'.fm.mst⟩, S'.len, S'.ok, S'.inj, fun p hp => S'.tmp p (List.mem_cons_of_mem _ hp)⟩
      obtain ⟨t1, t2, t3, t4⟩ := S'.tmp (a, o) List.mem_cons_self
      exact ⟨S2, a, o, rfl, t1, t2, con_mono g h4, h5, t4, h7⟩
theorem par_of {K : Fr} {i j : Nat} (hij : i ≠ j) {ma mb : M Res} : ∀ D σ H, tSt K (mPar2 i j ma mb) D σ H → tPar i j (tCons (tE K ma) (tCons (tE K mb) tNil)) D σ H := by
  rintro D σ H ⟨C, ρ, G, o, S, e, k⟩
  unfold mPar2 at e
  cases q : (bnd (mFix ma) fun ra => bnd (mFix mb) fun rb ρ => some ((ra, rb), ρ)) ρ with
  | none => rw [q] at e; cases e
  | some p =>
    obtain ⟨⟨ra, rb⟩, ρ'⟩ := p
    rw [q] at e
    dsimp only at e
    obtain ⟨ra', ρ1, e1, q⟩ := bnd_some q
    obtain ⟨rb', ρ2, e2, q⟩ := bnd_some q
    cases q
    cases w : putF j rb ρ' with
    | none => rw [w] at e; cases e
    | some ρ3 =>
      rw [w] at e
      dsimp only at e
      cases w2 : putF i ra ρ3 with
      | none => rw [w2] at e; cases e
      | some ρ4 =>
        rw [w2] at e; cases e
        refine tFix ⟨C, ρ, G, ra, ρ1, S, e1, fun v G1 H1 S1 g1 r1 => ?_⟩
        obtain ⟨C', S1', hold⟩ := r1.hold2 S1 (mFix_nb e1)
        refine tFix ⟨C', ρ1, G1, rb, ρ', S1', e2, fun u G2 H2 S2 g2 r2 => ?_⟩
        obtain ⟨S3, r3⟩ := hold _ _ _ _ (S2.putF r2 w) g2
        have S4 := S3.putF r3 w2
        refine ⟨v, u, rfl, ?_⟩
        rw [← List.set_comm _ _ hij.symm]
        exact k _ G2 H2 S4 (g1.trans g2)
def mPar3 (i j l : Nat) (ma mb mc : M Res) : SM := fun ρ => match (bnd (mFix ma) fun ra => bnd (mFix mb) fun rb => bnd (mFix mc) fun rc ρ => some ((ra, rb, rc), ρ)) ρ with
  | some ((ra, rb, rc), ρ') => match putF l rc ρ' with
    | some ρ2 => match putF j rb ρ2 with
      | some ρ3 => match putF i ra ρ3 with
        | some ρ4 => some (.nx ρ4)
        | none => none
      | none => none
    | none => none
  | none => none
theorem par3_of {K : Fr} {i j l : Nat} (hij : i ≠ j) (hil : i ≠ l) (hjl : j ≠ l) {ma mb mc : M Res} : ∀ D σ H, tSt K (mPar3 i j l ma mb mc) D σ H → tPar3 i j l (tCons (tE K ma) (tCons (tE K mb) (tCons (tE K mc) tNil))) D σ H := by
  rintro D σ H ⟨C, ρ, G, o, S, e, k⟩
  unfold mPar3 at e
  cases q : (bnd (mFix ma) fun ra => bnd (mFix mb) fun rb => bnd (mFix mc) fun rc ρ => some ((ra, rb, rc), ρ)) ρ with
  | none => rw [q] at e; cases e
  | some p =>
    obtain ⟨⟨ra, rb, rc⟩, ρ'⟩ := p
    rw [q] at e
    dsimp only at e
    obtain ⟨ra', ρ1, e1, q⟩ := bnd_some q
    obtain ⟨rb', ρ2, e2, q⟩ := bnd_some q
    obtain ⟨rc', ρ2', e3, q⟩ := bnd_some q
    cases q
    cases w : putF l rc ρ' with
    | none => rw [w] at e; cases e
    | some ρ3 =>
      rw [w] at e
      dsimp only at e
      cases w2 : putF j rb ρ3 with
      | none => rw [w2] at e; cases e
      | some ρ4 =>
        rw [w2] at e
        dsimp only at e
        cases w3 : putF i ra ρ4 with
        | none => rw [w3] at e; cases e
        | some ρ5 =>
          rw [w3] at e; cases e
          refine tFix ⟨C, ρ, G, ra, ρ1, S, e1, fun v G1 H1 S1 g1 r1 => ?_⟩
          obtain ⟨C', S1', hold⟩ := r1.hold2 S1 (mFix_nb e1)
          refine tFix ⟨C', ρ1, G1, rb, ρ2, S1', e2, fun u G2 H2 S2 g2 r2 => ?_⟩
          obtain ⟨C'', S2', hold'⟩ := r2.hold2 S2 (mFix_nb e2)
          refine tFix ⟨C'', ρ2, G2, rc, ρ', S2', e3, fun z G3 H3 S3 g3 r3 => ?_⟩
          obtain ⟨S4, r4⟩ := hold' _ _ _ _ (S3.putF r3 w) g3
          obtain ⟨S5, r5⟩ := hold _ _ _ _ (S4.putF r4 w2) (g2.trans g3)
          have S6 := S5.putF r5 w3
          refine ⟨v, u, z, rfl, ?_⟩
          rw [List.set_comm (some z) (some u) hjl.symm, List.set_comm (some z) (some v) hil.symm, List.set_comm (some u) (some v) hij.symm] at S6
          exact k _ G3 H3 S6 ((g1.trans g2).trans g3)
/-- name op= e -/
def mAug (i : Nat) (g : D → D → Option Rs) (m : M Res) : SM := fun ρ => match ρ[i]? with
  | some (.sh d) => match m ρ with
    | some (r, ρ') => match look ρ' r with
      | some e => match g d e with
        | some rs => match putF i rs.res ρ' with
          | some ρ2 => some (.nx ρ2)
          | none => none
        | none => none
      | none => none
    | none => none
  | _ => none
theorem aug_of {K : Fr} {i : Nat} {r : R2} {g : D → D → Option Rs} (hg : OpG K r g) {m : M Res} : ∀ D σ H, tSt K (mAug i g m) D σ H → tAug i (tE K m) r D σ H := by
  rintro D σ H ⟨C, ρ, G, o, S, e, k⟩
  unfold mAug at e
  cases q : ρ[i]? with
  | none => rw [q] at e; cases e
  | some s =>
    rw [q] at e
    have z := S.ok i s q
    cases s with
    | no => cases e
    | ow d => cases e
    | mp d => cases e
    | sh d =>
      dsimp only at e
      obtain ⟨x, z1, z2⟩ := z
      cases w : m ρ with
      | none => rw [w] at e; cases e
      | some p =>
        obtain ⟨rr, ρ1⟩ := p
        rw [w] at e
        dsimp only at e
        cases w1 : look ρ1 rr with
        | none => rw [w1] at e; cases e
        | some d2 =>
          rw [w1] at e
          dsimp only at e
          cases w2 : g d d2 with
          | none => rw [w2] at e; cases e
          | some rs =>
            rw [w2] at e
            dsimp only at e
            cases w3 : putF i rs.res ρ1 with
            | none => rw [w3] at e; cases e
            | some ρ2 =>
              rw [w3] at e; cases e
              refine ⟨x, joined z1, C, ρ, G, rr, ρ1, S, w, fun y G1 H1 S1 g1 r1 => ?_⟩
              exact hg x y G1 H1 d d2 rs _ S1.fm.gh (.inl (rp_mono g1 z2)) (r1.read S1 w1) w2 fun u G2 H2 xx ok => k _ G2 H2 ((S1.ext xx).putF (rok_of_rs S1 xx ok) w3) (g1.trans xx.g)

/-! ### while -/
def mWh (t : M Bool) (b : SM) : Nat → SM
  | 0, _ => none
  | n + 1, ρ => match t ρ with
    | some (true, ρ1) => match b ρ1 with
      | some (.nx ρ2) => mWh t b n ρ2
      | some (.ct ρ2) => mWh t b n ρ2
      | some (.bk ρ2) => some (.nx ρ2)
      | some (.rt r ρ2) => some (.rt r ρ2)
      | none => none
    | some (false, ρ1) => some (.nx ρ1)
    | none => none
theorem while_of {K : Fr} {t : M Bool} {b : SM} {n : Nat} : ∀ D σ H, tSt K (mWh t b n) D σ H → tWhile (tT K t) (tSt K b) D σ H := by
  rintro D σ H ⟨C, ρ, G, o, S, e, k⟩
  refine ⟨fun m σ' H' => ∃ ρ' G', Sta K C σ' ρ' G' H' ∧ mWh t b m ρ' = some o ∧ Same G G', ⟨n, ρ, G, S, e, Same.refl G⟩, ?_⟩
  rintro m σ1 H1 ⟨ρ1, G1, S1, e1, g1⟩
  cases m with
  | zero => cases e1
  | succ m =>
    unfold mWh at e1
    cases q : t ρ1 with
    | none => rw [q] at e1; cases e1
    | some p =>
      obtain ⟨x, ρ2⟩ := p
      rw [q] at e1
      refine ⟨C, ρ1, G1, x, ρ2, S1, q, fun G2 H2 S2 g2 => ?_⟩
      cases x with
      | false =>
        cases e1
        exact k σ1 G2 H2 S2 (g1.trans g2)
      | true =>
        dsimp only at e1
        refine ⟨fun σ' H' => ∃ ρ' G', Sta K C σ' ρ' G' H' ∧ mWh t b m ρ' = some o ∧ Same G G', fun σ' H' h => ⟨m, Nat.lt_succ_self m, h⟩, ?_⟩
        cases w : b ρ2 with
        | none => rw [w] at e1; cases e1
        | some o1 =>
          rw [w] at e1
          refine ⟨C, ρ2, G2, o1, S2, w, ?_⟩
          have gg := g1.trans g2
          cases o1 with
          | nx ρ3 => exact fun σ' G' H' S' g' => ⟨ρ3, G', S', e1, gg.trans g'⟩
          | ct ρ3 => exact fun σ' G' H' S' g' => ⟨ρ3, G', S', e1, gg.trans g'⟩
          | bk ρ3 => cases e1; exact fun σ' G' H' S' g' => k σ' G' H' S' (gg.trans g')
          | rt r ρ3 => cases e1; exact fun v σ' G' H' S' g' z => k v σ' G' H' S' (gg.trans g') z

/-! ### what is walked -/
def Walks (K : Fr) (T : List (Addr × HO)) (G : Hp) (ds : List D) (J : It) : Prop := ∀ G1 H1, Same G G1 → Same G1 H1 → (∀ p ∈ T, H1 p.1 = some p.2) →
  (∀ (i : Nat) d, ds[i]? = some d → J.go i H1 ∧ ∀ x H2, J.yld i H1 x H2 → ∃ G2, Ext G1 H1 G2 H2 ∧ Rp K G2 x d) ∧ ∀ i, ds.length ≤ i → J.stop i H1
def tI (K : Fr) (m : M (List D)) : TI := fun σ H R => ∃ C ρ G ds ρ', Sta K C σ ρ G H ∧ m ρ = some (ds, ρ') ∧ ∀ J G' H', Sta K C σ ρ' G' H' → Same G G' → Walks K C.T G' ds J → R J H'
def DI (X : Cx) (tg e : Expr) (m : M (List D)) : Prop := PI X tg e (tI X.wd m)
def forL (f : D → Rho → Option Rho) (b : SM) : List D → SM
  | [], ρ => some (.nx ρ)
  | d :: ds, ρ => match f d ρ with
    | some ρ1 => match b ρ1 with
      | some (.nx ρ2) => forL f b ds ρ2
      | some (.ct ρ2) => forL f b ds ρ2
      | some (.bk ρ2) => some (.nx ρ2)
      | some (.rt r ρ2) => some (.rt r ρ2)
      | none => none
    | none => none
def mFor (mi : M (List D)) (f : D → Rho → Option Rho) (b : SM) : SM := fun ρ => match mi ρ with
  | some (ds, ρ1) => forL f b ds ρ1
  | none => none
theorem for_of {K : Fr} {mi : M (List D)} {js : List Nat} {f : D → Rho → Option Rho} {b : SM} : ∀ D σ H, tSt K (mFor mi f b) D σ H → tFor (tI K mi) (gA K js f) (tSt K b) D σ H := by
  rintro D σ H ⟨C, ρ, G, o, S, e, k⟩
  unfold mFor at e
  cases q : mi ρ with
  | none => rw [q] at e; cases e
  | some p =>
    obtain ⟨ds, ρ1⟩ := p
    rw [q] at e
    dsimp only at e
    refine ⟨C, ρ, G, ds, ρ1, S, q, fun J G1 H1 S1 g1 W => ?_⟩
    refine ⟨fun i m σ' H' => m = ds.length - i ∧ i ≤ ds.length ∧ ∃ ρ' G', Sta K C σ' ρ' G' H' ∧ Same G1 G' ∧ forL f b (ds.drop i) ρ' = some o, ⟨_, rfl, Nat.zero_le _, ρ1, G1, S1, Same.refl _, e⟩, ?_⟩
    rintro i m σ2 H2 ⟨rfl, hi, ρ2, G2, S2, g2, e2⟩
    obtain ⟨w1, w2⟩ := W G2 H2 g2 S2.fm.gh (fun p hp => (S2.tmp p hp).1)
    by_cases hlt : i < ds.length
    · have ed : ds[i]? = some ds[i] := List.getElem?_eq_getElem hlt
      rw [List.drop_eq_getElem_cons hlt] at e2
      obtain ⟨go, yl⟩ := w1 i _ ed
      generalize ds[i] = d at ed e2 yl
      unfold forL at e2
      refine .inr ⟨go, fun σ' H' => ∃ ρ' G', Sta K C σ' ρ' G' H' ∧ Same G1 G' ∧ forL f b (ds.drop (i + 1)) ρ' = some o, fun σ' H' h => ⟨_, by omega, rfl, hlt, h⟩, fun x H3 y => ?_⟩
      obtain ⟨G3, x3, rp⟩ := yl x H3 y
      have S3 := S2.ext x3
      cases w : f d ρ2 with
      | none => rw [w] at e2; cases e2
      | some ρ3 =>
        rw [w] at e2
        dsimp only at e2
        refine ⟨C, ρ2, G3, d, ρ3, S3, rp, w, fun σ4 S4 _ => ?_⟩
        cases v : b ρ3 with
        | none => rw [v] at e2; cases e2
        | some o1 =>
          rw [v] at e2
          refine ⟨C, ρ3, G3, o1, S4, v, ?_⟩
          have gg := g2.trans x3.g
          cases o1 with
          | nx ρ4 => exact fun σ' G' H' S' g' => ⟨ρ4, G', S', gg.trans g', e2⟩
          | ct ρ4 => exact fun σ' G' H' S' g' => ⟨ρ4, G', S', gg.trans g', e2⟩
          | bk ρ4 => cases e2; exact fun σ' G' H' S' g' => k σ' G' H' S' ((g1.trans gg).trans g')
          | rt r ρ4 => cases e2; exact fun u σ' G' H' S' g' z => k u σ' G' H' S' ((g1.trans gg).trans g') z
    · have he : i = ds.length := by omega
      subst he
      rw [List.drop_length] at e2
      cases e2
      exact .inl ⟨w2 _ (Nat.le_refl _), k σ2 G2 H2 S2 (g1.trans g2)⟩
end Z
end

section
set_option Elab.async false
set_option linter.all false
set_option maxRecDepth 100000
set_option maxHeartbeats 1000000
/-! Z4: what changes a list or a dict of one's own; comprehensions. -/
namespace Z
open PySem L2
variable {X : Cx}

def Slot.put (d' : D) : Slot → Slot
  | .ow _ => .ow d'
  | .mp _ => .mp d'
  | s => s
theorem Sta.write {K : Fr} {C : Cn} {σ : St} {ρ : Rho} {G H : Hp} (S : Sta K C σ ρ G H) {i : Nat} {s : Slot} {a : Addr} {o' : HO} {d' : D} (e : ρ[i]? = some s) (ow : s.own = true) (hs : σ[i]? = some (some (V.ref a))) (hc : Con K G a o' d') :
    Sta K C σ (ρ.set i (s.put d')) G (upd H a o') := by
  have hi : i < ρ.length := (List.getElem?_eq_some_iff.mp e).1
  obtain ⟨ob, d, h1, h2, h3, h4⟩ := S.own_at e ow hs
  have hM : C.H0 a = none ∨ a ∈ C.M.map (·.2) := by
    have q := S.ok i s e
    cases s with
    | no => cases ow
    | sh d => cases ow
    | ow d =>
      obtain ⟨b, o, e1, e2, e3, e4, e5⟩ := q
      rw [hs] at e1; cases e1
      exact .inl e5
    | mp d =>
      obtain ⟨b, o, e1, e2, e3, e4, e5⟩ := q
      rw [hs] at e1; cases e1
      exact .inr (List.mem_map.mpr ⟨_, e5, rfl⟩)
  have own' : ∀ j b, Owns σ (ρ.set i (s.put d')) j b → Owns σ ρ j b := fun j b ⟨t, z1, z2, z3⟩ => by
    by_cases hj : i = j
    · subst hj; exact ⟨s, e, ow, z3⟩
    · rw [List.getElem?_set_ne hj] at z1; exact ⟨t, z1, z2, z3⟩
  have gne : ∀ b u, G b = some u → b ≠ a := fun b u z => ne_of_none z h2
  refine ⟨⟨fun b u z => by rw [upd_ne (gne b u z)]; exact S.fm.gh b u z, S.fm.g0, fun b u z n => ?_, S.fm.new, fun j b m => ?_⟩, by simpa using S.len, fun j t ej => ?_, fun j k b o1 o2 => S.inj j k b (own' j b o1) (own' k b o2), fun p hp => ?_⟩
  · have hb : b ≠ a := fun eb => by
      rcases hM with z' | z'
      · rw [eb, z'] at z; cases z
      · exact n (eb ▸ z')
    rw [upd_ne hb]; exact S.fm.keep b u z n
  · obtain ⟨u, z1, z2, z3⟩ := S.fm.mst j b m
    by_cases hb : b = a
    · subst hb; exact ⟨o', upd_same, z2, z3⟩
    · exact ⟨u, by rw [upd_ne hb]; exact z1, z2, z3⟩
  · by_cases hj : i = j
    · subst hj
      rw [List.getElem?_set_self hi] at ej
      cases ej
      have q := S.ok i s e
      cases s with
      | no => cases ow
      | sh d => cases ow
      | ow d =>
        obtain ⟨b, o, e1, e2, e3, e4, e5⟩ := q
        have e1' := e1
        rw [hs] at e1; cases e1
        exact ⟨a, o', e1', upd_same, e3, hc, e5⟩
      | mp d =>
        obtain ⟨b, o, e1, e2, e3, e4, e5⟩ := q
        have e1' := e1
        rw [hs] at e1; cases e1
        exact ⟨a, o', e1', upd_same, e3, hc, e5⟩
    · rw [List.getElem?_set_ne hj] at ej
      have q := S.ok j t ej
      have nb : ∀ b, σ[j]?.join = some (V.ref b) → t.own = true → b ≠ a := fun b hb ho eb => hj (S.inj i j a ⟨s, e, ow, hs⟩ ⟨t, ej, ho, by rw [← eb]; exact joined hb⟩)
      cases t with
      | no => trivial
      | sh d => exact q
      | ow d => exact let ⟨b, u, z1, z2, z3, z4, z5⟩ := q; ⟨b, u, z1, by rw [upd_ne (nb b z1 rfl)]; exact z2, z3, z4, z5⟩
      | mp d => exact let ⟨b, u, z1, z2, z3, z4, z5⟩ := q; ⟨b, u, z1, by rw [upd_ne (nb b z1 rfl)]; exact z2, z3, z4, z5⟩
  · obtain ⟨z1, z2, z3, z4⟩ := S.tmp p hp
    have hb : p.1 ≠ a := fun eb => z4 i ⟨s, e, ow, by rw [eb]; exact hs⟩
    exact ⟨by rw [upd_ne hb]; exact z1, z2, z3, fun j o => z4 j (own' j _ o)⟩
/-- a container that nobody holds yet is changed -/
theorem Sta.writeT {K : Fr} {C : Cn} {σ : St} {ρ : Rho} {G H : Hp} (S : Sta K C σ ρ G H) {a : Addr} {o' : HO} {d d' : D} (h : ROk K C σ ρ G H (V.ref a) (.fr d)) (hc : Con K G a o' d') :
    Sta K C σ ρ G (upd H a o') ∧ ROk K C σ ρ G (upd H a o') (V.ref a) (.fr d') := by
  obtain ⟨b, o, e1, h2, h3, h4, h5, h6, h7⟩ := h
  cases e1
  refine ⟨⟨⟨fun b u z => by rw [upd_ne (ne_of_none z h3)]; exact S.fm.gh b u z, S.fm.g0, fun b u z n => by rw [upd_ne (ne_of_none z h5)]; exact S.fm.keep b u z n, S.fm.new, fun j b m => ?_⟩, S.len, fun j t ej => ?_, S.inj, fun p hp => ?_⟩,
    a, o', rfl, upd_same, h3, hc, h5, h6, h7⟩
  · obtain ⟨u, z1, z2, z3⟩ := S.fm.mst j b m
    exact ⟨u, by rw [upd_ne (fun eb => by rw [eb] at z3; exact z3 h5)]; exact z1, z2, z3⟩
  · have q := S.ok j t ej
    have nb : ∀ b, σ[j]?.join = some (V.ref b) → t.own = true → b ≠ a := fun b hb ho eb => h6 j ⟨t, ej, ho, by rw [← eb]; exact joined hb⟩
    cases t with
    | no => trivial
    | sh d => exact q
    | ow d => exact let ⟨b, u, z1, z2, z3, z4, z5⟩ := q; ⟨b, u, z1, by rw [upd_ne (nb b z1 rfl)]; exact z2, z3, z4, z5⟩
    | mp d => exact let ⟨b, u, z1, z2, z3, z4, z5⟩ := q; ⟨b, u, z1, by rw [upd_ne (nb b z1 rfl)]; exact z2, z3, z4, z5⟩
  · obtain ⟨z1, z2, z3, z4⟩ := S.tmp p hp
    exact ⟨by rw [upd_ne (h7 p hp)]; exact z1, z2, z3, z4⟩

/-! ### methods that change what slot i holds -/
def MtG (K : Fr) (r : V → List V → Hp → VK → Prop) (g : D → List D → Option (D × D)) : Prop := ∀ xs G H a o d ds d' rd (Q : VK), Same G H → H a = some o → G a = none → Con K G a o d → RpAll K G xs ds → g d ds = some (d', rd) →
  (∀ v o', Con K G a o' d' → Rp K G v rd → Q v (upd H a o')) → r (V.ref a) xs H Q
def datIs (c : D → Bool) (s : Slot) : Bool := match s.dat with
  | some d => c d
  | none => false
def mMut (c : D → Bool) (i : Nat) (g : D → List D → Option (D × D)) (ms : M (List D)) : M Res := fun ρ => match ρ[i]? with
  | some s => if s.own && datIs c s then match ms ρ with
      | some (ds, ρ1) => match ρ1[i]? with
        | some s1 => if s1.own then match s1.dat with
            | some d => match g d ds with
              | some (d', rd) => some (.sh rd, ρ1.set i (s1.put d'))
              | none => none
            | none => none
          else none
        | none => none
      | none => none
    else none
  | none => none
def isList : D → Bool
  | .list _ => true
  | _ => false
/-- o.m(..): of an object of which Pd is told -/
def tBMp (Pd : V → Hp → Prop) (r : V → List V → Hp → VK → Prop) (to : TE) (t : TA) : TE := fun σ H Q => to σ H fun x H1 => Pd x H1 ∧ t σ H1 fun xs H2 => r x xs H2 Q
theorem mutP_of {K : Fr} {r : V → List V → Hp → VK → Prop} {g : D → List D → Option (D × D)} (hg : MtG K r g) {Pd : V → Hp → Prop} {ck : D → Bool} (hT : ∀ H a o d G, H a = some o → Con K G a o d → ck d = true → Pd (V.ref a) H) {i : Nat} {ms : M (List D)} :
    ∀ σ H Q, tE K (mMut ck i g ms) σ H Q → tBMp Pd r (tVar i) (tL K ms) σ H Q := by
  rintro σ H Q ⟨C, ρ, G, rr, ρ', S, e, k⟩
  unfold mMut at e
  cases q : ρ[i]? with
  | none => rw [q] at e; cases e
  | some s =>
    rw [q] at e
    dsimp only at e
    obtain ⟨cc, e⟩ := if_some e
    rw [Bool.and_eq_true] at cc
    obtain ⟨c, cd⟩ := cc
    have z := S.ok i s q
    have hv : ∃ a, σ[i]? = some (some (V.ref a)) := by
      cases s with
      | no => cases c
      | sh d => cases c
      | ow d => exact let ⟨a, o, h1, _⟩ := z; ⟨a, joined h1⟩
      | mp d => exact let ⟨a, o, h1, _⟩ := z; ⟨a, joined h1⟩
    obtain ⟨a, hv⟩ := hv
    obtain ⟨o, d0, y1, y2, y3, y4⟩ := S.own_at q c hv
    refine ⟨_, hv, hT H a o d0 G y1 y3 (by unfold datIs at cd; rw [y4] at cd; exact cd), ?_⟩
    cases q1 : ms ρ with
    | none => rw [q1] at e; cases e
    | some p =>
      obtain ⟨ds, ρ1⟩ := p
      rw [q1] at e
      dsimp only at e
      refine ⟨C, ρ, G, ds, ρ1, S, q1, fun vs G1 H1 S1 g1 rp => ?_⟩
      cases q2 : ρ1[i]? with
      | none => rw [q2] at e; cases e
      | some s1 =>
        rw [q2] at e
        dsimp only at e
        obtain ⟨c1, e⟩ := if_some e
        obtain ⟨o1, d1, x1, x2, x3, x4⟩ := S1.own_at q2 c1 hv
        rw [x4] at e
        dsimp only at e
        cases q3 : g d1 ds with
        | none => rw [q3] at e; cases e
        | some p =>
          obtain ⟨d', rd⟩ := p
          rw [q3] at e
          cases e
          exact hg vs G1 H1 a o1 d1 ds d' rd Q S1.fm.gh x1 x2 x3 rp q3 fun v o' hc hr => k v G1 _ (S1.write q2 c1 hv hc) g1 hr
theorem mut_of {K : Fr} {r : V → List V → Hp → VK → Prop} {g : D → List D → Option (D × D)} (hg : MtG K r g) {T : String} {ck : D → Bool} (hT : ∀ H a o d G, H a = some o → Con K G a o d → ck d = true → tyV K.k T (V.ref a) H) {i : Nat} {ms : M (List D)} :
    ∀ σ H Q, tE K (mMut ck i g ms) σ H Q → tBM K.k T r (tVar i) (tL K ms) σ H Q := mutP_of hg hT

/-! ### storing into an item of what slot i holds -/
/-- slot[idx] = e: e first -/
def mSetI (i : Nat) (g : D → D → D → Option D) (mi me : M Res) : SM := fun ρ => match (bnd (mShare me) fun e => bnd (mShare mi) fun k ρ => some ((e, k), ρ)) ρ with
  | some ((e, k), ρ1) => match ρ1[i]? with
    | some s => if s.own then match s.dat with
        | some d => match g d k e with
          | some d' => some (.nx (ρ1.set i (s.put d')))
          | none => none
        | none => none
      else none
    | none => none
  | none => none

/-! ### comprehensions -/
def wipeR (vs : List Nat) : Nat → Rho → Rho
  | _, [] => []
  | n, s :: r => (if n ∈ vs then .no else s) :: wipeR vs (n + 1) r
def backR (vs : List Nat) : Nat → Rho → Rho → Rho
  | n, s0 :: r0, s :: r => (if n ∈ vs then s0 else s) :: backR vs (n + 1) r0 r
  | _, _, _ => []
theorem wipeR_get (vs : List Nat) : ∀ (n : Nat) (ρ : Rho) (i : Nat), (wipeR vs n ρ)[i]? = (ρ[i]?).map fun s => if n + i ∈ vs then .no else s
  | _, [], i => by simp [wipeR]
  | n, s :: r, 0 => by simp [wipeR]
  | n, s :: r, i + 1 => by
    have h := wipeR_get vs (n + 1) r i
    simp only [wipeR, List.getElem?_cons_succ]
    rw [h, show n + 1 + i = n + (i + 1) by omega]
theorem wipeR_len (vs : List Nat) : ∀ (n : Nat) (ρ : Rho), (wipeR vs n ρ).length = ρ.length
  | _, [] => rfl
  | n, s :: r => by simp [wipeR, wipeR_len vs (n + 1) r]
theorem backR_get (vs : List Nat) : ∀ (n : Nat) (ρ0 ρ : Rho) (i : Nat), ρ0.length = ρ.length → (backR vs n ρ0 ρ)[i]? = if n + i ∈ vs then ρ0[i]? else ρ[i]?
  | _, [], [], i, _ => by simp [backR]
  | _, _ :: _, [], _, h => by simp at h
  | _, [], _ :: _, _, h => by simp at h
  | n, s0 :: r0, s :: r, 0, _ => by simp only [backR, List.getElem?_cons_zero, Nat.add_zero]; split <;> rfl
  | n, s0 :: r0, s :: r, i + 1, h => by
    have h := backR_get vs (n + 1) r0 r i (by simpa using h)
    simp only [backR, List.getElem?_cons_succ]
    rw [h, show n + 1 + i = n + (i + 1) by omega]
theorem backR_len (vs : List Nat) : ∀ (n : Nat) (ρ0 ρ : Rho), ρ0.length = ρ.length → (backR vs n ρ0 ρ).length = ρ.length
  | _, [], [], _ => rfl
  | _, _ :: _, [], h => by simp at h
  | _, [], _ :: _, h => by simp at h
  | n, s0 :: r0, s :: r, h => by simp only [backR, List.length_cons]; rw [backR_len vs (n + 1) r0 r (by simpa using h)]
theorem wipe_in {σ : St} {i : Nat} : ∀ {vs : List Nat}, i ∈ vs → ((wipe σ vs)[i]?).join = none
  | v :: vs, h => by
    unfold wipe
    by_cases e : v = i
    · subst e
      rw [List.getElem?_set]
      simp only [if_true]
      split <;> rfl
    · rw [List.getElem?_set_ne e]
      rcases List.mem_cons.mp h with h | h
      · exact (e h.symm).elim
      · exact wipe_in h
theorem wipe_len (σ : St) (vs : List Nat) : (wipe σ vs).length = σ.length := wipe_length σ vs
theorem Sta.wipe {K : Fr} {C : Cn} {σ : St} {ρ : Rho} {G H : Hp} (S : Sta K C σ ρ G H) (vs : List Nat) : Sta K C (L2.wipe σ vs) (wipeR vs 0 ρ) G H := by
  have own' : ∀ j b, Owns (L2.wipe σ vs) (wipeR vs 0 ρ) j b → Owns σ ρ j b := fun j b ⟨t, z1, z2, z3⟩ => by
    rw [wipeR_get] at z1
    cases q : ρ[j]? with
    | none => rw [q] at z1; cases z1
    | some s =>
      rw [q] at z1
      by_cases hj : 0 + j ∈ vs
      · simp only [Option.map_some, if_pos hj] at z1; cases z1; cases z2
      · simp only [Option.map_some, if_neg hj] at z1; cases z1
        rw [wipe_out (by simpa using hj)] at z3
        exact ⟨_, q, z2, z3⟩
  refine ⟨S.fm, by rw [wipe_len, wipeR_len]; exact S.len, fun j t ej => ?_, fun j k b o1 o2 => S.inj j k b (own' j b o1) (own' k b o2), fun p hp => ?_⟩
  · rw [wipeR_get] at ej
    cases q : ρ[j]? with
    | none => rw [q] at ej; cases ej
    | some s =>
      rw [q] at ej
      by_cases hj : 0 + j ∈ vs
      · simp only [Option.map_some, if_pos hj] at ej; cases ej; trivial
      · simp only [Option.map_some, if_neg hj] at ej; cases ej
        rw [wipe_out (by simpa using hj)]
        exact S.ok j _ q
  · obtain ⟨z1, z2, z3, z4⟩ := S.tmp p hp
    exact ⟨z1, z2, z3, fun j o => z4 j (own' j _ o)⟩
def noOwn (vs : List Nat) (ρ : Rho) : Bool := vs.all fun i => match ρ[i]? with
  | some s => !s.own
  | none => true
theorem Sta.back {K : Fr} {C : Cn} {σ : St} {ρ0 ρ : Rho} {G0 H0 G H : Hp} {vs : List Nat} (S0 : Sta K C σ ρ0 G0 H0) (S : Sta K C (L2.wipe σ vs) ρ G H) (g : Same G0 G) (n : noOwn vs ρ0 = true) : Sta K C σ (backR vs 0 ρ0 ρ) G H := by
  have hl : ρ0.length = ρ.length := by rw [← S0.len, ← S.len, wipe_len]
  have own' : ∀ j b, Owns σ (backR vs 0 ρ0 ρ) j b → Owns (L2.wipe σ vs) ρ j b := fun j b ⟨t, z1, z2, z3⟩ => by
    rw [backR_get vs 0 ρ0 ρ j hl] at z1
    by_cases hj : 0 + j ∈ vs
    · rw [if_pos hj] at z1
      have q := List.all_eq_true.mp n j (by simpa using hj)
      rw [z1] at q
      simp only [z2] at q
      cases q
    · rw [if_neg hj] at z1
      exact ⟨t, z1, z2, by rw [wipe_out (by simpa using hj)]; exact z3⟩
  refine ⟨S.fm, by rw [backR_len vs 0 ρ0 ρ hl, ← hl]; exact S0.len, fun j t ej => ?_, fun j k b o1 o2 => S.inj j k b (own' j b o1) (own' k b o2), fun p hp => ?_⟩
  · rw [backR_get vs 0 ρ0 ρ j hl] at ej
    by_cases hj : 0 + j ∈ vs
    · rw [if_pos hj] at ej
      have q := List.all_eq_true.mp n j (by simpa using hj)
      rw [ej] at q
      have z := S0.ok j t ej
      cases t with
      | no => trivial
      | sh d => exact let ⟨v, h1, h2⟩ := z; ⟨v, h1, rp_mono g h2⟩
      | ow d => simp [Slot.own] at q
      | mp d => simp [Slot.own] at q
    · rw [if_neg hj] at ej
      have z := S.ok j t ej
      rw [wipe_out (by simpa using hj)] at z
      exact z
  · obtain ⟨z1, z2, z3, z4⟩ := S.tmp p hp
    exact ⟨z1, z2, z3, fun j o => z4 j (own' j _ o)⟩

def lcL (f : D → Rho → Option Rho) (tt : M Bool) (te : M Res) (vs : List Nat) : List D → List D → Rho → Option (List D × Rho)
  | [], acc, ρ => some (acc, ρ)
  | d :: ds, acc, ρ => match f d (wipeR vs 0 ρ) with
    | some ρ1 => match tt ρ1 with
      | some (true, ρ2) => match mShare te ρ2 with
        | some (y, ρ3) => if !isDict y && decide (acc.length < big) then lcL f tt te vs ds (acc ++ [y]) ρ3 else none
        | none => none
      | some (false, ρ2) => lcL f tt te vs ds acc ρ2
      | none => none
    | none => none
def mLc (mi : M (List D)) (f : D → Rho → Option Rho) (tt : M Bool) (te : M Res) (vs : List Nat) : M Res := fun ρ => match mi ρ with
  | some (ds, ρ1) => if noOwn vs ρ1 then match lcL f tt te vs ds [] ρ1 with
      | some (acc, ρ2) => some (.fr (.list acc), backR vs 0 ρ1 (wipeR vs 0 ρ2))
      | none => none
    else none
  | none => none
theorem wipe_same {σ σ' : St} {vs js : List Nat} (hl : σ'.length = σ.length) (h : ∀ j, j ∉ js → σ'[j]? = (wipe σ vs)[j]?) (hj : ∀ j ∈ js, j ∈ vs) : wipe σ' vs = wipe σ vs := by
  refine List.ext_getElem? fun j => ?_
  have key : ∀ (τ : St) (us : List Nat), (∀ i ∈ us, i ∈ vs) → τ.length = σ.length → ∀ i, i ∈ us → (wipe τ us)[i]? = if i < σ.length then some none else none := by
    intro τ us
    induction us with
    | nil => intro _ _ i hi; cases hi
    | cons u us ih =>
      intro hs ht i hi
      unfold wipe
      by_cases e : u = i
      · subst e
        rw [List.getElem?_set]
        simp only [if_true, wipe_len, ht]
      · rw [List.getElem?_set_ne e]
        rcases List.mem_cons.mp hi with hi | hi
        · exact (e hi.symm).elim
        · exact ih (fun i hi => hs i (List.mem_cons_of_mem _ hi)) ht i hi
  by_cases hv : j ∈ vs
  · rw [key σ' vs (fun _ z => z) hl j hv, key σ vs (fun _ z => z) rfl j hv]
  · rw [wipe_out hv]
    exact h j fun z => hv (hj j z)
/-- what a comprehension asks behind the thing that it walks -/
theorem lc_walk {K : Fr} {js vs : List Nat} {f : D → Rho → Option Rho} {tt : M Bool} {te : M Res} (hj : ∀ j ∈ js, j ∈ vs) {C : Cn} {σ : St} {Q : VK} {ds accE : List D} {ρ1 ρE : Rho} {J : It} {G1 H1 : Hp} (S1 : Sta K C σ ρ1 G1 H1) (W : Walks K C.T G1 ds J) (nown : noOwn vs ρ1 = true)
    (q2 : lcL f tt te vs ds [] ρ1 = some (accE, ρE)) (k : ∀ v G' H', Sta K C σ (backR vs 0 ρ1 (wipeR vs 0 ρE)) G' H' → Same G1 G' → ROk K C σ (backR vs 0 ρ1 (wipeR vs 0 ρE)) G' H' v (.fr (.list accE)) → Q v H') :
    ∀ D, H1 D = none → ∃ W : Nat → Nat → Hp → Prop, (∃ m, W 0 m (upd H1 D (.lst []))) ∧ ∀ i m H, W i m H →
  (J.stop i H ∧ Q (.ref D) H) ∨ (J.go i H ∧ ∃ Nx : Hp → Prop, (∀ H', Nx H' → ∃ m', m' < m ∧ W (i + 1) m' H') ∧ ∀ x H', J.yld i H x H' → gA K js f x (wipe σ vs) H' fun σ2 H2 => wipe σ2 vs = wipe σ vs ∧ tT K tt σ2 H2 fun b H3 =>
    if b = true then tE K te σ2 H3 fun y H4 => ∃ acc, H4 D = some (.lst acc) ∧ acc.length < sizeLine ∧ Nx (upd H4 D (.lst (acc ++ [y]))) else Nx H3) := by
  intro L hL
  -- the list as it grows
  have x0 := ext_own (o := HO.lst []) S1.fm.gh hL
  have S1' := S1.ext x0
  have r0 : ROk K C σ ρ1 G1 (upd H1 L (.lst [])) (V.ref L) (.fr (.list [])) :=
    rok_of_rs (r := .new (.list [])) S1 x0 ⟨L, _, rfl, upd_same, S1.fm.gh.free hL, hL, .lst .nil⟩
  have rw0 : ∀ {σ' : St} {ρ' : Rho} {G' H' : Hp} {r : Res} {d : D}, ROk K C σ' ρ' G' H' (V.ref L) (.fr d) → ROk K C (wipe σ' vs) (wipeR vs 0 ρ') G' H' (V.ref L) (.fr d) := fun {σ' ρ' G' H' r d} h => by
    obtain ⟨a, o, e1, h2, h3, h4, h5, h6, h7⟩ := h
    refine ⟨a, o, e1, h2, h3, h4, h5, fun j ⟨t, z1, z2, z3⟩ => ?_, h7⟩
    rw [wipeR_get] at z1
    cases w : ρ'[j]? with
    | none => rw [w] at z1; cases z1
    | some s =>
      rw [w] at z1
      by_cases hj : 0 + j ∈ vs
      · simp only [Option.map_some, if_pos hj] at z1; cases z1; cases z2
      · simp only [Option.map_some, if_neg hj] at z1; cases z1
        rw [wipe_out (by simpa using hj)] at z3
        exact h6 j ⟨_, w, z2, z3⟩
  refine ⟨fun i m H' => m = ds.length - i ∧ i ≤ ds.length ∧ ∃ acc ρ' G', Sta K C (wipe σ vs) (wipeR vs 0 ρ') G' H' ∧ Same G1 G' ∧ ROk K C (wipe σ vs) (wipeR vs 0 ρ') G' H' (V.ref L) (.fr (.list acc)) ∧ lcL f tt te vs (ds.drop i) acc ρ' = some (accE, ρE),
    ⟨_, rfl, Nat.zero_le _, [], ρ1, G1, S1'.wipe vs, Same.refl _, rw0 (r := .sh .none) r0, q2⟩, ?_⟩
  rintro i m H2 ⟨rfl, hi, acc, ρ2, G2, S2, g2, r2, e2⟩
  obtain ⟨w1, w2⟩ := W G2 H2 g2 S2.fm.gh (fun p hp => (S2.tmp p hp).1)
  by_cases hlt : i < ds.length
  · have ed : ds[i]? = some ds[i] := List.getElem?_eq_getElem hlt
    rw [List.drop_eq_getElem_cons hlt] at e2
    obtain ⟨go, yl⟩ := w1 i _ ed
    generalize ds[i] = d at ed e2 yl
    unfold lcL at e2
    refine .inr ⟨go, fun H' => ∃ acc ρ' G', Sta K C (wipe σ vs) (wipeR vs 0 ρ') G' H' ∧ Same G1 G' ∧ ROk K C (wipe σ vs) (wipeR vs 0 ρ') G' H' (V.ref L) (.fr (.list acc)) ∧ lcL f tt te vs (ds.drop (i + 1)) acc ρ' = some (accE, ρE),
      fun H' h => ⟨_, by omega, rfl, hlt, h⟩, fun x H3 y => ?_⟩
    obtain ⟨G3, x3, rp⟩ := yl x H3 y
    have S3 := S2.ext x3
    have r3 : ROk K C (wipe σ vs) (wipeR vs 0 ρ2) G3 H3 (V.ref L) (.fr (.list acc)) := by
      obtain ⟨a, o, e1, h2, h3, h4, h5, h6, h7⟩ := r2
      exact ⟨a, o, e1, x3.h _ _ h2, x3.none h2 h3, con_mono x3.g h4, h5, h6, h7⟩
    obtain ⟨C', S3', hold⟩ := r3.hold2 S3 (fun i z => by cases z)
    cases w : f d (wipeR vs 0 ρ2) with
    | none => rw [w] at e2; cases e2
    | some ρ3 =>
      rw [w] at e2
      dsimp only at e2
      refine ⟨C', _, G3, d, ρ3, S3', rp, w, fun σ4 S4 c4 => ?_⟩
      have hw : wipe σ4 vs = wipe σ vs := wipe_same (by rw [c4.1, wipe_len]) c4.2 hj
      refine ⟨hw, ?_⟩
      have gg := g2.trans x3.g
      cases v : tt ρ3 with
      | none => rw [v] at e2; cases e2
      | some p =>
        obtain ⟨b, ρ4⟩ := p
        rw [v] at e2
        refine ⟨C', ρ3, G3, b, ρ4, S4, v, fun G5 H5 S5 g5 => ?_⟩
        cases b with
        | false =>
          dsimp only at e2
          obtain ⟨S6, r6⟩ := hold _ _ _ _ S5 g5
          have S7 := S6.wipe vs
          have r7 := rw0 (r := .sh .none) r6
          rw [hw] at S7 r7
          exact ⟨acc, ρ4, G5, S7, gg.trans g5, r7, e2⟩
        | true =>
          dsimp only at e2
          cases u : mShare te ρ4 with
          | none => rw [u] at e2; cases e2
          | some p =>
            obtain ⟨y, ρ5⟩ := p
            rw [u] at e2
            dsimp only at e2
            obtain ⟨c, e2⟩ := if_some e2
            rw [Bool.and_eq_true, Bool.not_eq_true', decide_eq_true_eq] at c
            obtain ⟨ry, ρ0, e0, e1⟩ := bnd_some u
            show tE K te σ4 H5 _
            refine ⟨C', ρ4, G5, ry, ρ0, S5, e0, fun yv G6 H6 S6 g6 r6 => ?_⟩
            obtain ⟨G7, S7, g7, rpy⟩ := S6.demote r6 e1
            obtain ⟨S8, r8⟩ := hold _ _ _ _ S7 ((g5.trans g6).trans g7)
            have r8' := r8
            obtain ⟨a, o, ea, h2, h3, h4, h5, h6, h7⟩ := r8
            cases ea
            cases h4 with
            | lst h4 =>
              rename_i accV
              refine ⟨accV, h2, ?_, ?_⟩
              · rw [dpAll_len h4]; exact Nat.lt_of_lt_of_le c.2 big_line
              · obtain ⟨S9, r9⟩ := S8.writeT (o' := HO.lst (accV ++ [yv])) (d' := .list (acc ++ [y])) r8' (.lst (dpAll_append h4 (.cons (rpy.dq c.1) .nil)))
                have S10 := S9.wipe vs
                have r10 := rw0 (r := .sh .none) r9
                rw [hw] at S10 r10
                exact ⟨acc ++ [y], ρ5, G7, S10, gg.trans ((g5.trans g6).trans g7), r10, e2⟩
  · have he : i = ds.length := by omega
    subst he
    rw [List.drop_length] at e2
    cases e2
    refine .inl ⟨w2 _ (Nat.le_refl _), ?_⟩
    have SB := S1.back (ρ := wipeR vs 0 ρE) S2 g2 nown
    refine k _ G2 H2 SB g2 ?_
    obtain ⟨a, o, ea, h2, h3, h4, h5, h6, h7⟩ := r2
    refine ⟨a, o, ea, h2, h3, h4, h5, fun j ⟨t, z1, z2, z3⟩ => ?_, h7⟩
    have hl : ρ1.length = (wipeR vs 0 ρE).length := by rw [← S1.len, ← S2.len, wipe_len]
    rw [backR_get vs 0 ρ1 _ j hl] at z1
    by_cases hjv : 0 + j ∈ vs
    · rw [if_pos hjv] at z1
      have q := List.all_eq_true.mp nown j (by simpa using hjv)
      rw [z1] at q
      simp only [z2] at q
      cases q
    · rw [if_neg hjv] at z1
      exact h6 j ⟨t, z1, z2, by rw [wipe_out (by simpa using hjv)]; exact z3⟩
theorem lc_of {K : Fr} {mi : M (List D)} {js vs : List Nat} {f : D → Rho → Option Rho} {tt : M Bool} {te : M Res} (hj : ∀ j ∈ js, j ∈ vs) : ∀ σ H Q, tE K (mLc mi f tt te vs) σ H Q → tLc (tI K mi) (gA K js f) (tT K tt) (tE K te) vs σ H Q := by
  rintro σ H Q ⟨C, ρ, G, rr, ρ', S, e, k⟩
  unfold mLc at e
  cases q : mi ρ with
  | none => rw [q] at e; cases e
  | some p =>
    obtain ⟨ds, ρ1⟩ := p
    rw [q] at e
    dsimp only at e
    obtain ⟨nown, e⟩ := if_some e
    cases q2 : lcL f tt te vs ds [] ρ1 with
    | none => rw [q2] at e; cases e
    | some p =>
      obtain ⟨accE, ρE⟩ := p
      rw [q2] at e
      cases e
      exact ⟨C, ρ, G, ds, ρ1, S, q, fun J G1 H1 S1 g1 W => lc_walk hj S1 W nown q2 fun v G' H' S' g' r => k v G' H' S' (g1.trans g') r⟩
end Z
end

section
set_option Elab.async false
set_option linter.all false
set_option maxRecDepth 100000
set_option maxHeartbeats 1000000
/-! Z5: defs: what they promise over data, their calls, their bodies. -/
namespace Z
open PySem L2

/-- a def over data: its arguments' contents; its answer, and the contents behind it of the arguments that it changes -/
abbrev Fn := List D → Option (Rs × List D)
def muts : List Bool → List V → List Addr
  | true :: ms, .ref a :: vs => a :: muts ms vs
  | _ :: ms, _ :: vs => muts ms vs
  | _, _ => []
inductive ArgsOk (K : Fr) (G H : Hp) : List Bool → List V → List D → Prop
  | nil : ArgsOk K G H [] [] []
  | val {ms : List Bool} {vs : List V} {ds : List D} {v : V} {d : D} : Rp K G v d → ArgsOk K G H ms vs ds → ArgsOk K G H (false :: ms) (v :: vs) (d :: ds)
  | chg {ms : List Bool} {vs : List V} {ds : List D} {a : Addr} {o : HO} {d : D} : H a = some o → G a = none → Con K G a o d → a ∉ muts ms vs → ArgsOk K G H ms vs ds → ArgsOk K G H (true :: ms) (V.ref a :: vs) (d :: ds)
structure CallX (G H G' H' : Hp) (M : List Addr) : Prop where
  g : Same G G'
  gh : Same G' H'
  keep : ∀ b o, H b = some o → b ∉ M → H' b = some o
  new : ∀ b o, G' b = some o → G b = some o ∨ H b = none
abbrev NewsOk (K : Fr) (G' H' : Hp) : List Addr → List D → Prop := Paired fun a d => ∃ o, H' a = some o ∧ G' a = none ∧ Con K G' a o d
def spD (K : Fr) (ms : List Bool) (m : Fn) : Sp := fun vs H Q _ => ∃ G ds r news, Same G H ∧ ArgsOk K G H ms vs ds ∧ m ds = some (r, news) ∧
  ∀ v G' H', CallX G H G' H' (muts ms vs) → RsOk K G' H' H v r → NewsOk K G' H' (muts ms vs) news → Q v H'
theorem ArgsOk.len {K : Fr} {G H : Hp} {ms : List Bool} {vs : List V} {ds : List D} (h : ArgsOk K G H ms vs ds) : vs.length = ms.length ∧ ds.length = ms.length := by
  induction h with
  | nil => exact ⟨rfl, rfl⟩
  | val _ _ ih => exact ⟨by simp [ih.1], by simp [ih.2]⟩
  | chg _ _ _ _ _ ih => exact ⟨by simp [ih.1], by simp [ih.2]⟩

/-! ### the call -/
inductive ArgM where
  | val (m : M Res)
  | chg (i : Nat)
inductive ArgD where
  | val (d : D)
  | chg (i : Nat)
/-- a changed argument's slot is its own ahead of the call -/
def ownAt (i : Nat) (ρ : Rho) : Bool := match ρ[i]? with
  | some s => s.own
  | none => false
def mArgs : List ArgM → M (List ArgD)
  | [] => fun ρ => some ([], ρ)
  | .val m :: as => bnd (mShare m) fun d => bnd (mArgs as) fun ds ρ => some (.val d :: ds, ρ)
  | .chg i :: as => fun ρ => if ownAt i ρ then (bnd (mArgs as) fun ds ρ => some (ArgD.chg i :: ds, ρ)) ρ else none
abbrev AOk (K : Fr) (σ : St) (G : Hp) : List V → List ArgD → Prop := Paired fun v x => match x with
  | .val d => Rp K G v d
  | .chg i => σ[i]? = some (some v)
def tAr (K : Fr) (m : M (List ArgD)) : TA := fun σ H Q => ∃ C ρ G xs ρ', Sta K C σ ρ G H ∧ m ρ = some (xs, ρ') ∧ ∀ vs G' H', Sta K C σ ρ' G' H' → Same G G' → AOk K σ G' vs xs → Q vs H'
theorem arNil_of {K : Fr} : ∀ σ H Q, tAr K (mArgs []) σ H Q → tNil σ H Q := by
  rintro σ H Q ⟨C, ρ, G, xs, ρ', S, e, k⟩
  cases e
  exact k [] G H S (Same.refl G) .nil
theorem arVal_of {K : Fr} {m : M Res} {as : List ArgM} : ∀ σ H Q, tAr K (mArgs (.val m :: as)) σ H Q → tCons (tE K m) (tAr K (mArgs as)) σ H Q := by
  rintro σ H Q ⟨C, ρ, G, xs, ρ', S, e, k⟩
  unfold mArgs at e
  obtain ⟨d, ρ1, e1, e⟩ := bnd_some e
  obtain ⟨xs', ρ2, e2, e⟩ := bnd_some e
  cases e
  obtain ⟨r, ρ0, e0, e1⟩ := bnd_some e1
  refine ⟨C, ρ, G, r, ρ0, S, e0, fun v G1 H1 S1 g1 r1 => ?_⟩
  obtain ⟨G2, S2, g2, rp⟩ := S1.demote r1 e1
  exact ⟨C, ρ1, G2, xs', _, S2, e2, fun vs G3 H3 S3 g3 rps => k (v :: vs) G3 H3 S3 ((g1.trans g2).trans g3) (.cons (rp_mono g3 rp) rps)⟩
theorem Sta.own_val {K : Fr} {C : Cn} {σ : St} {ρ : Rho} {G H : Hp} (S : Sta K C σ ρ G H) {i : Nat} {s : Slot} (e : ρ[i]? = some s) (ow : s.own = true) : ∃ a, σ[i]? = some (some (V.ref a)) := by
  have z := S.ok i s e
  cases s with
  | no => cases ow
  | sh d => cases ow
  | ow d => exact let ⟨a, o, h1, _⟩ := z; ⟨a, joined h1⟩
  | mp d => exact let ⟨a, o, h1, _⟩ := z; ⟨a, joined h1⟩
theorem ownAt_some {i : Nat} {ρ : Rho} (h : ownAt i ρ = true) : ∃ s, ρ[i]? = some s ∧ s.own = true := by
  unfold ownAt at h
  cases q : ρ[i]? with
  | none => rw [q] at h; cases h
  | some s => rw [q] at h; exact ⟨s, rfl, h⟩
theorem arMut_of {K : Fr} {i : Nat} {as : List ArgM} : ∀ σ H Q, tAr K (mArgs (.chg i :: as)) σ H Q → tCons (tVar i) (tAr K (mArgs as)) σ H Q := by
  rintro σ H Q ⟨C, ρ, G, xs, ρ', S, e, k⟩
  unfold mArgs at e
  obtain ⟨c, e⟩ := if_some e
  obtain ⟨xs', ρ2, e2, e⟩ := bnd_some e
  cases e
  obtain ⟨s, e1, ow⟩ := ownAt_some c
  obtain ⟨a, ha⟩ := S.own_val e1 ow
  exact ⟨_, ha, C, ρ, G, xs', _, S, e2, fun vs G3 H3 S3 g3 rps => k (V.ref a :: vs) G3 H3 S3 g3 (.cons ha rps)⟩

def fetch : List ArgD → Rho → Option (List D)
  | [], _ => some []
  | .val d :: xs, ρ => match fetch xs ρ with
    | some ds => some (d :: ds)
    | none => none
  | .chg i :: xs, ρ => if ownAt i ρ then match ρ[i]? with
      | some s => match s.dat, fetch xs ρ with
        | some d, some ds => some (d :: ds)
        | _, _ => none
      | none => none
    else none
def mutIx : List ArgD → List Nat
  | [] => []
  | .val _ :: xs => mutIx xs
  | .chg i :: xs => i :: mutIx xs
def modes : List ArgD → List Bool
  | [] => []
  | .val _ :: xs => false :: modes xs
  | .chg _ :: xs => true :: modes xs
def putNews : List Nat → List D → Rho → Option Rho
  | [], [], ρ => some ρ
  | i :: is, d :: ds, ρ => match ρ[i]? with
    | some s => putNews is ds (ρ.set i (s.put d))
    | none => none
  | _, _, _ => none
def mCall (ms : List Bool) (f : Fn) (ma : M (List ArgD)) : M Res := fun ρ => match ma ρ with
  | some (xs, ρ1) => if modes xs = ms ∧ (mutIx xs).Nodup then match fetch xs ρ1 with
      | some ds => match f ds with
        | some (r, news) => match putNews (mutIx xs) news ρ1 with
          | some ρ2 => some (r.res, ρ2)
          | none => none
        | none => none
      | none => none
    else none
  | none => none

theorem putNews_at : ∀ {is : List Nat} {news : List D} {ρ ρ' : Rho}, putNews is news ρ = some ρ' → is.Nodup → ρ'.length = ρ.length ∧ ∀ (j : Nat) (s : Slot), ρ[j]? = some s →
    (j ∉ is ∧ ρ'[j]? = some s) ∨ ∃ d, (j, d) ∈ is.zip news ∧ ρ'[j]? = some (s.put d)
  | [], [], ρ, ρ', h, _ => by cases h; exact ⟨rfl, fun j s e => .inl ⟨by simp, e⟩⟩
  | [], _ :: _, _, _, h, _ => by simp [putNews] at h
  | _ :: _, [], _, _, h, _ => by simp [putNews] at h
  | i :: is, d :: ds, ρ, ρ', h, nd => by
    unfold putNews at h
    cases q : ρ[i]? with
    | none => rw [q] at h; cases h
    | some s =>
      rw [q] at h
      have hi : i < ρ.length := (List.getElem?_eq_some_iff.mp q).1
      obtain ⟨l, f⟩ := putNews_at (is := is) h (List.nodup_cons.mp nd).2
      refine ⟨by rw [l]; simp, fun j t e => ?_⟩
      by_cases hj : i = j
      · subst hj
        rw [q] at e; cases e
        rcases f i (s.put d) (List.getElem?_set_self hi) with ⟨_, y⟩ | ⟨d', m, y⟩
        · exact .inr ⟨d, by simp, y⟩
        · exact ((List.nodup_cons.mp nd).1 (List.of_mem_zip m).1).elim
      · rcases f j t (by rw [List.getElem?_set_ne hj]; exact e) with ⟨n, y⟩ | ⟨d', m, y⟩
        · exact .inl ⟨by simp only [List.mem_cons, not_or]; exact ⟨fun e => hj e.symm, n⟩, y⟩
        · exact .inr ⟨d', by simp [m], y⟩
theorem paired_zip {α β γ : Type} {F : α → β → Prop} {R : β → γ → Prop} : ∀ {is : List α} {bs : List β} {cs : List γ}, Paired F is bs → Paired R bs cs → ∀ {i c}, (i, c) ∈ is.zip cs → ∃ b, b ∈ bs ∧ F i b ∧ R b c
  | [], _, _, .nil, .nil, _, _, h => by simp at h
  | _ :: _, _, _, .cons f fs, .cons r rs, i, c, h => by
    simp only [List.zip_cons_cons, List.mem_cons] at h
    rcases h with h | h
    · cases h; exact ⟨_, List.mem_cons_self, f, r⟩
    · obtain ⟨b', m, f', r'⟩ := paired_zip fs rs h
      exact ⟨b', List.mem_cons_of_mem _ m, f', r'⟩
theorem paired_mem {α β : Type} {F : α → β → Prop} : ∀ {is : List α} {bs : List β}, Paired F is bs → ∀ {b}, b ∈ bs → ∃ i, i ∈ is ∧ F i b
  | [], _, .nil, _, h => by simp at h
  | i :: _, _, .cons f fs, b, h => by
    rcases List.mem_cons.mp h with h | h
    · cases h; exact ⟨i, List.mem_cons_self, f⟩
    · obtain ⟨j, m, f'⟩ := paired_mem fs h
      exact ⟨j, List.mem_cons_of_mem _ m, f'⟩
theorem paired_mem' {α β : Type} {F : α → β → Prop} : ∀ {is : List α} {bs : List β}, Paired F is bs → ∀ {i}, i ∈ is → ∃ b, b ∈ bs ∧ F i b
  | [], _, .nil, _, h => by simp at h
  | _ :: _, b :: _, .cons f fs, i, h => by
    rcases List.mem_cons.mp h with h | h
    · cases h; exact ⟨b, List.mem_cons_self, f⟩
    · obtain ⟨j, m, f'⟩ := paired_mem' fs h
      exact ⟨j, List.mem_cons_of_mem _ m, f'⟩
theorem Sta.call {K : Fr} {C : Cn} {σ : St} {ρ ρ' : Rho} {G H G' H' : Hp} (S : Sta K C σ ρ G H) {is : List Nat} {Ms : List Addr} {news : List D} (ho : Paired (fun i a => Owns σ ρ i a) is Ms) (nd : is.Nodup) (x : CallX G H G' H' Ms) (hn : NewsOk K G' H' Ms news) (e : putNews is news ρ = some ρ') :
    Sta K C σ ρ' G' H' := by
  obtain ⟨hl, hat⟩ := putNews_at e nd
  have back : ∀ (j : Nat) (t : Slot), ρ'[j]? = some t → ∃ s, ρ[j]? = some s ∧ ((j ∉ is ∧ t = s) ∨ ∃ d, (j, d) ∈ is.zip news ∧ t = s.put d) := fun j t ej => by
    have hj : j < ρ.length := by rw [← hl]; exact (List.getElem?_eq_some_iff.mp ej).1
    refine ⟨ρ[j], List.getElem?_eq_getElem hj, ?_⟩
    rcases hat j _ (List.getElem?_eq_getElem hj) with ⟨n, y⟩ | ⟨d, m, y⟩
    · rw [ej] at y; exact .inl ⟨n, Option.some.inj y⟩
    · rw [ej] at y; exact .inr ⟨d, m, Option.some.inj y⟩
  have put_own : ∀ (s : Slot) d, (s.put d).own = s.own := fun s d => by cases s <;> rfl
  have own' : ∀ j b, Owns σ ρ' j b → Owns σ ρ j b := fun j b ⟨t, z1, z2, z3⟩ => by
    obtain ⟨s, y1, y2⟩ := back j t z1
    rcases y2 with ⟨_, rfl⟩ | ⟨d, _, rfl⟩
    · exact ⟨_, y1, z2, z3⟩
    · exact ⟨s, y1, by rw [← put_own s d]; exact z2, z3⟩
  -- what lies outside the arguments that are changed
  have outM : ∀ a, (∀ i, ¬ Owns σ ρ i a) → a ∉ Ms := fun a h m => by
    obtain ⟨i, _, o⟩ := paired_mem ho m
    exact h i o
  have outM2 : ∀ j a, j ∉ is → Owns σ ρ j a → a ∉ Ms := fun j a nj oj m => by
    obtain ⟨i, mi, o⟩ := paired_mem ho m
    exact nj (S.inj j i a oj o ▸ mi)
  have gnone : ∀ a o, H a = some o → G a = none → G' a = none := fun a o e1 e2 => by
    cases q : G' a with
    | none => rfl
    | some u =>
      rcases x.new a u q with z | z
      · rw [e2] at z; cases z
      · rw [e1] at z; cases z
  have stays : ∀ b o, H b = some o → ∃ o', H' b = some o' := fun b o eb => by
    by_cases hb : b ∈ Ms
    · obtain ⟨i, _, o'⟩ := paired_mem ho hb
      obtain ⟨d, _, y⟩ := paired_mem' hn hb
      obtain ⟨o2, y1, _⟩ := y
      exact ⟨o2, y1⟩
    · exact ⟨o, x.keep b o eb hb⟩
  refine ⟨⟨x.gh, S.fm.g0.trans x.g, fun b o eb n => ?_, fun b o eb => ?_, fun i a m => ?_⟩, by rw [hl]; exact S.len, fun j t ej => ?_, fun j k b o1 o2 => S.inj j k b (own' j b o1) (own' k b o2), fun p hp => ?_⟩
  · have hb := S.fm.keep b o eb n
    refine x.keep b o hb fun m => ?_
    obtain ⟨i, _, s, z1, z2, z3⟩ := paired_mem ho m
    have q := S.ok i s z1
    rw [z3] at q
    cases s with
    | no => cases z2
    | sh d => cases z2
    | ow d =>
      obtain ⟨a, o', y1, y2, y3, y4, y5⟩ := q
      cases y1
      rw [eb] at y5; cases y5
    | mp d =>
      obtain ⟨a, o', y1, y2, y3, y4, y5⟩ := q
      cases y1
      exact n (List.mem_map.mpr ⟨_, y5, rfl⟩)
  · rcases x.new b o eb with z | z
    · exact S.fm.new b o z
    · cases q : C.H0 b with
      | none => exact .inr rfl
      | some u =>
        by_cases hm : b ∈ C.M.map (·.2)
        · obtain ⟨⟨i, b'⟩, hm1, rfl⟩ := List.mem_map.mp hm
          obtain ⟨o', h1, _⟩ := S.fm.mst i b' hm1
          rw [z] at h1; cases h1
        · rw [S.fm.keep b u q hm] at z; cases z
  · obtain ⟨o, h1, h2, h3⟩ := S.fm.mst i a m
    obtain ⟨o', h4⟩ := stays a o h1
    exact ⟨o', h4, gnone a o h1 h2, h3⟩
  · obtain ⟨s, y1, y2⟩ := back j t ej
    have q := S.ok j s y1
    rcases y2 with ⟨nj, rfl⟩ | ⟨d, m, rfl⟩
    · cases t with
      | no => trivial
      | sh d => exact let ⟨v, h1, h2⟩ := q; ⟨v, h1, rp_mono x.g h2⟩
      | ow d =>
        obtain ⟨a, o, h1, h2, h3, h4, h5⟩ := q
        exact ⟨a, o, h1, x.keep a o h2 (outM2 j a nj ⟨_, y1, rfl, joined h1⟩), gnone a o h2 h3, con_mono x.g h4, h5⟩
      | mp d =>
        obtain ⟨a, o, h1, h2, h3, h4, h5⟩ := q
        exact ⟨a, o, h1, x.keep a o h2 (outM2 j a nj ⟨_, y1, rfl, joined h1⟩), gnone a o h2 h3, con_mono x.g h4, h5⟩
    · obtain ⟨b, hb, hob, o, z1, z2, z3⟩ := paired_zip ho hn m
      obtain ⟨s', w1, w2, w3⟩ := hob
      rw [y1] at w1; cases w1
      rw [w3] at q
      cases s with
      | no => cases w2
      | sh d => cases w2
      | ow d' =>
        obtain ⟨a, o', h1, h2, h3, h4, h5⟩ := q
        cases h1
        exact ⟨b, o, by rw [w3]; rfl, z1, z2, z3, h5⟩
      | mp d' =>
        obtain ⟨a, o', h1, h2, h3, h4, h5⟩ := q
        cases h1
        exact ⟨b, o, by rw [w3]; rfl, z1, z2, z3, h5⟩
  · obtain ⟨z1, z2, z3, z4⟩ := S.tmp p hp
    exact ⟨x.keep _ _ z1 (outM _ z4), gnone _ _ z1 z2, z3, fun j o => z4 j (own' j _ o)⟩
/-- the arguments as the callee wants them -/
theorem args_ok {K : Fr} {C : Cn} {σ : St} {ρ : Rho} {G H : Hp} (S : Sta K C σ ρ G H) : ∀ {xs : List ArgD} {vs : List V} {ds : List D}, AOk K σ G vs xs → fetch xs ρ = some ds → (mutIx xs).Nodup →
    ArgsOk K G H (modes xs) vs ds ∧ Paired (fun i a => Owns σ ρ i a) (mutIx xs) (muts (modes xs) vs)
  | [], _, _, .nil, e, _ => by cases e; exact ⟨.nil, .nil⟩
  | .val d :: xs, v :: vs, ds, .cons h hs, e, nd => by
    unfold fetch at e
    cases q : fetch xs ρ with
    | none => rw [q] at e; cases e
    | some ds' =>
      rw [q] at e; cases e
      obtain ⟨a, b⟩ := args_ok S hs q nd
      refine ⟨.val h a, ?_⟩
      show Paired _ (mutIx xs) (muts (false :: modes xs) (v :: vs))
      have e : muts (false :: modes xs) (v :: vs) = muts (modes xs) vs := by cases v <;> rfl
      rw [e]; exact b
  | .chg i :: xs, v :: vs, ds, .cons h hs, e, nd => by
    unfold fetch at e
    obtain ⟨c, e⟩ := if_some e
    obtain ⟨s, e1, ow⟩ := ownAt_some c
    rw [e1] at e
    dsimp only at e
    have hv : σ[i]? = some (some v) := h
    obtain ⟨a, ha⟩ := S.own_val e1 ow
    rw [hv] at ha
    have hva : v = V.ref a := Option.some.inj (Option.some.inj ha)
    subst hva
    obtain ⟨ob, d, h1, h2, h3, h4⟩ := S.own_at e1 ow hv
    rw [h4] at e
    cases q : fetch xs ρ with
    | none => rw [q] at e; cases e
    | some ds' =>
      rw [q] at e; cases e
      obtain ⟨z, b⟩ := args_ok S hs q (List.nodup_cons.mp nd).2
      refine ⟨.chg h1 h2 h3 (fun m => ?_) z, .cons ⟨s, e1, ow, hv⟩ b⟩
      obtain ⟨j, mj, oj⟩ := paired_mem b m
      exact (List.nodup_cons.mp nd).1 (S.inj i j a ⟨s, e1, ow, hv⟩ oj ▸ mj)
theorem call_of {K : Fr} {ms : List Bool} {f : Fn} {ma : M (List ArgD)} : ∀ σ H Q, tE K (mCall ms f ma) σ H Q → tCall (spD K ms f) [] E0 (tAr K ma) σ H Q := by
  rintro σ H Q ⟨C, ρ, G, rr, ρ', S, e, k⟩
  unfold mCall at e
  cases q : ma ρ with
  | none => rw [q] at e; cases e
  | some p =>
    obtain ⟨xs, ρ1⟩ := p
    rw [q] at e
    dsimp only at e
    by_cases c : modes xs = ms ∧ (mutIx xs).Nodup
    · rw [if_pos c] at e
      obtain ⟨rfl, nd⟩ := c
      refine ⟨C, ρ, G, xs, ρ1, S, q, fun vs G1 H1 S1 g1 rp => ?_⟩
      cases q1 : fetch xs ρ1 with
      | none => rw [q1] at e; cases e
      | some ds =>
        rw [q1] at e
        dsimp only at e
        cases q2 : f ds with
        | none => rw [q2] at e; cases e
        | some p =>
          obtain ⟨r, news⟩ := p
          rw [q2] at e
          dsimp only at e
          cases q3 : putNews (mutIx xs) news ρ1 with
          | none => rw [q3] at e; cases e
          | some ρ2 =>
            rw [q3] at e; cases e
            obtain ⟨ha, hb⟩ := args_ok S1 rp q1 nd
            rw [List.append_nil]
            refine ⟨G1, ds, r, news, S1.fm.gh, ha, q2, fun v G2 H2 x ok nw => ?_⟩
            have S2 := S1.call hb nd x nw q3
            refine k v G2 H2 S2 (g1.trans x.g) ?_
            cases r with
            | val d => exact ok
            | new d =>
              obtain ⟨a, o, rfl, h1, h2, h3, h4⟩ := ok
              refine ⟨a, o, rfl, h1, h2, h4, ?_, fun i ⟨s, z1, z2, z3⟩ => ?_, fun p hp ep => ?_⟩
              · cases w : C.H0 a with
                | none => rfl
                | some u =>
                  by_cases hm : a ∈ C.M.map (·.2)
                  · obtain ⟨⟨i, b⟩, hm1, rfl⟩ := List.mem_map.mp hm
                    obtain ⟨o', z, _⟩ := S1.fm.mst i b hm1
                    rw [h3] at z; cases z
                  · rw [S1.fm.keep a u w hm] at h3; cases h3
              · have z : Owns σ ρ1 i a := by
                  obtain ⟨_, hat⟩ := putNews_at q3 nd
                  have hi : i < ρ1.length := by rw [← S1.len]; exact (List.getElem?_eq_some_iff.mp z3).1
                  rcases hat i _ (List.getElem?_eq_getElem hi) with ⟨_, y⟩ | ⟨d', _, y⟩
                  · rw [z1] at y; cases y
                    exact ⟨_, List.getElem?_eq_getElem hi, z2, z3⟩
                  · rw [z1] at y
                    have y' : s = (ρ1[i]).put d' := Option.some.inj y
                    refine ⟨_, List.getElem?_eq_getElem hi, ?_, z3⟩
                    rw [y'] at z2
                    cases w : ρ1[i] <;> rw [w] at z2 <;> exact z2
                obtain ⟨s', y1, y2, y3⟩ := z
                obtain ⟨ob, d', y4, _⟩ := S1.own_at y1 y2 y3
                rw [h3] at y4; cases y4
              · have z := (S1.tmp p hp).1
                rw [ep, h3] at z; cases z
    · rw [if_neg c] at e; cases e

/-! ### the body -/
def startS : List Bool → List D → Rho
  | true :: ms, d :: ds => .mp d :: startS ms ds
  | false :: ms, d :: ds => .sh d :: startS ms ds
  | _, _ => []
def finals : List Bool → Rho → Option (List D)
  | [], _ => some []
  | false :: ms, _ :: ρ => finals ms ρ
  | true :: ms, .mp d :: ρ => match finals ms ρ with
    | some ds => some (d :: ds)
    | none => none
  | _, _ => none
def runF (ms : List Bool) (n : Nat) (m : SM) : Fn := fun ds => if ds.length = ms.length then match m (startS ms ds ++ List.replicate (n - ms.length) .no) with
    | some (.rt r ρ) => match finals ms ρ with
      | some news => some (r, news)
      | none => none
    | some (.nx ρ) => match finals ms ρ with
      | some news => some (.val .none, news)
      | none => none
    | _ => none
  else none
def mPairs : Nat → List Bool → List V → List (Nat × Addr)
  | n, true :: ms, .ref a :: vs => (n, a) :: mPairs (n + 1) ms vs
  | n, _ :: ms, _ :: vs => mPairs (n + 1) ms vs
  | _, _, _ => []
theorem mPairs_snd : ∀ (n : Nat) (ms : List Bool) (vs : List V), (mPairs n ms vs).map (·.2) = muts ms vs
  | n, [], vs => by cases vs <;> rfl
  | n, b :: ms, [] => by cases b <;> rfl
  | n, true :: ms, v :: vs => by cases v <;> simp [mPairs, muts, mPairs_snd (n + 1) ms vs]
  | n, false :: ms, v :: vs => by cases v <;> simp [mPairs, muts, mPairs_snd (n + 1) ms vs]
theorem start_sta {K : Fr} {G H : Hp} {ms : List Bool} {vs : List V} {ds : List D} (s : Same G H) (h : ArgsOk K G H ms vs ds) {N : List Str} (hN : ms.length ≤ N.length) :
    Sta K ⟨H, G, mPairs 0 ms vs, []⟩ (L2.start N vs) (startS ms ds ++ List.replicate (N.length - ms.length) .no) G H := by
  have hl := h.len
  have hsl : ∀ {ms : List Bool} {vs : List V} {ds : List D}, ArgsOk K G H ms vs ds → (startS ms ds).length = ms.length := by
    intro ms vs ds h
    induction h with
    | nil => rfl
    | val _ _ ih => simp [startS, ih]
    | chg _ _ _ _ _ ih => simp [startS, ih]
  -- each parameter's slot
  have key : ∀ {ms : List Bool} {vs : List V} {ds : List D}, ArgsOk K G H ms vs ds → ∀ (n i : Nat) (t : Slot), (startS ms ds)[i]? = some t → ∃ v, vs[i]? = some v ∧ ((∃ d, t = .sh d ∧ Rp K G v d) ∨ ∃ a o d, t = .mp d ∧ v = V.ref a ∧ H a = some o ∧ G a = none ∧ Con K G a o d ∧ (n + i, a) ∈ mPairs n ms vs) := by
    intro ms vs ds h
    induction h with
    | nil => intro n i t e; simp [startS] at e
    | @val ms vs ds v d h1 h2 ih =>
      intro n i t e
      cases i with
      | zero => simp only [startS, List.getElem?_cons_zero, Option.some.injEq] at e; subst e; exact ⟨v, rfl, .inl ⟨d, rfl, h1⟩⟩
      | succ i =>
        simp only [startS, List.getElem?_cons_succ] at e
        obtain ⟨u, y1, y2⟩ := ih (n + 1) i t e
        refine ⟨u, by simpa using y1, ?_⟩
        rcases y2 with y2 | ⟨a, o, d', z1, z2, z3, z4, z5, z6⟩
        · exact .inl y2
        · refine .inr ⟨a, o, d', z1, z2, z3, z4, z5, ?_⟩
          have e : mPairs n (false :: ms) (v :: vs) = mPairs (n + 1) ms vs := by cases v <;> rfl
          rw [e, show n + (i + 1) = n + 1 + i by omega]; exact z6
    | @chg ms vs ds a o d h1 h2 h3 h4 h5 ih =>
      intro n i t e
      cases i with
      | zero =>
        simp only [startS, List.getElem?_cons_zero, Option.some.injEq] at e; subst e
        exact ⟨V.ref a, rfl, .inr ⟨a, o, d, rfl, rfl, h1, h2, h3, by simp [mPairs]⟩⟩
      | succ i =>
        simp only [startS, List.getElem?_cons_succ] at e
        obtain ⟨u, y1, y2⟩ := ih (n + 1) i t e
        refine ⟨u, by simpa using y1, ?_⟩
        rcases y2 with y2 | ⟨a', o', d', z1, z2, z3, z4, z5, z6⟩
        · exact .inl y2
        · refine .inr ⟨a', o', d', z1, z2, z3, z4, z5, ?_⟩
          show (n + (i + 1), a') ∈ (n, a) :: mPairs (n + 1) ms vs
          rw [show n + (i + 1) = n + 1 + i by omega]
          exact List.mem_cons_of_mem _ z6
  have mst : ∀ {ms : List Bool} {vs : List V} {ds : List D}, ArgsOk K G H ms vs ds → ∀ (n i : Nat) (a : Addr), (i, a) ∈ mPairs n ms vs → n ≤ i ∧ a ∈ muts ms vs ∧ ∃ o, H a = some o ∧ G a = none := by
    intro ms vs ds h
    induction h with
    | nil => intro n i a m; simp [mPairs] at m
    | @val ms vs ds v d h1 h2 ih =>
      intro n i a m
      have e : mPairs n (false :: ms) (v :: vs) = mPairs (n + 1) ms vs := by cases v <;> rfl
      have e2 : muts (false :: ms) (v :: vs) = muts ms vs := by cases v <;> rfl
      rw [e] at m
      obtain ⟨y1, y2, y3⟩ := ih (n + 1) i a m
      exact ⟨by omega, by rw [e2]; exact y2, y3⟩
    | @chg ms vs ds a' o d h1 h2 h3 h4 h5 ih =>
      intro n i a m
      have m' : (i, a) ∈ (n, a') :: mPairs (n + 1) ms vs := m
      rcases List.mem_cons.mp m' with e | m'
      · cases e
        exact ⟨Nat.le_refl _, List.mem_cons_self, o, h1, h2⟩
      · obtain ⟨y1, y2, y3⟩ := ih (n + 1) i a m'
        exact ⟨by omega, List.mem_cons_of_mem _ y2, y3⟩
  have inj : ∀ {ms : List Bool} {vs : List V} {ds : List D}, ArgsOk K G H ms vs ds → ∀ (n i j : Nat) (a : Addr), (i, a) ∈ mPairs n ms vs → (j, a) ∈ mPairs n ms vs → i = j := by
    intro ms vs ds h
    induction h with
    | nil => intro n i j a m; simp [mPairs] at m
    | @val ms vs ds v d h1 h2 ih =>
      intro n i j a m1 m2
      have e : mPairs n (false :: ms) (v :: vs) = mPairs (n + 1) ms vs := by cases v <;> rfl
      rw [e] at m1 m2
      exact ih (n + 1) i j a m1 m2
    | @chg ms vs ds a' o d h1 h2 h3 h4 h5 ih =>
      intro n i j a m1 m2
      have m1' : (i, a) ∈ (n, a') :: mPairs (n + 1) ms vs := m1
      have m2' : (j, a) ∈ (n, a') :: mPairs (n + 1) ms vs := m2
      rcases List.mem_cons.mp m1' with e1 | m1' <;> rcases List.mem_cons.mp m2' with e2 | m2'
      · cases e1; cases e2; rfl
      · cases e1; exact (h4 (mst h5 (n + 1) j _ m2').2.1).elim
      · cases e2; exact (h4 (mst h5 (n + 1) i _ m1').2.1).elim
      · exact ih (n + 1) i j a m1' m2'
  have slotAt : ∀ (i : Nat) (t : Slot), (startS ms ds ++ List.replicate (N.length - ms.length) Slot.no)[i]? = some t → (t = .no) ∨ (startS ms ds)[i]? = some t := fun i t e => by
    rcases Nat.lt_or_ge i (startS ms ds).length with hi | hi
    · rw [List.getElem?_append_left hi] at e; exact .inr e
    · rw [List.getElem?_append_right hi] at e
      rw [List.getElem?_replicate] at e
      split at e
      · cases e; exact .inl rfl
      · cases e
  have stAt : ∀ (i : Nat) v, vs[i]? = some v → (L2.start N vs)[i]? = some (some v) := fun i v e => by
    unfold L2.start
    have hi : i < (vs.map some).length := by rw [List.length_map]; exact (List.getElem?_eq_some_iff.mp e).1
    rw [List.getElem?_append_left hi, List.getElem?_map, e]; rfl
  have ownAt' : ∀ i a, Owns (L2.start N vs) (startS ms ds ++ List.replicate (N.length - ms.length) Slot.no) i a → (i, a) ∈ mPairs 0 ms vs := fun i a ⟨t, z1, z2, z3⟩ => by
    rcases slotAt i t z1 with rfl | z1
    · cases z2
    · obtain ⟨v, y1, y2⟩ := key h 0 i t z1
      rw [stAt i v y1] at z3
      have e : v = V.ref a := Option.some.inj (Option.some.inj z3)
      subst e
      rcases y2 with ⟨d, rfl, _⟩ | ⟨a', o, d, rfl, e, _, _, _, m⟩
      · cases z2
      · cases e
        simpa using m
  refine ⟨⟨s, Same.refl G, fun b o e _ => e, fun b o e => .inl e, fun i a m => ?_⟩, ?_, fun i t e => ?_, fun i j a o1 o2 => inj h 0 i j a (ownAt' i a o1) (ownAt' j a o2), fun p hp => by cases hp⟩
  · obtain ⟨_, _, o, h1, h2⟩ := mst h 0 i a m
    exact ⟨o, h1, h2, by simp [h1]⟩
  · unfold L2.start
    rw [List.length_append, List.length_append, List.length_map, List.length_replicate, List.length_replicate, hsl h, hl.1]
  · rcases slotAt i t e with rfl | e
    · trivial
    · obtain ⟨v, y1, y2⟩ := key h 0 i t e
      rw [stAt i v y1]
      rcases y2 with ⟨d, rfl, h1⟩ | ⟨a, o, d, rfl, rfl, h1, h2, h3, m⟩
      · exact ⟨v, rfl, h1⟩
      · exact ⟨a, o, rfl, h1, h2, h3, by simpa using m⟩
theorem finals_ok {K : Fr} {G' H' G H : Hp} {C : Cn} {σ : St} {ρ : Rho} (S : Sta K C σ ρ G' H') : ∀ {ms : List Bool} {vs : List V} {ds : List D} {news : List D} (n : Nat), ArgsOk K G H ms vs ds → (∀ i a, (i, a) ∈ mPairs n ms vs → (i, a) ∈ C.M) → (∀ i a, n ≤ i → (i, a) ∈ C.M → (i, a) ∈ mPairs n ms vs) →
    finals ms (ρ.drop n) = some news → NewsOk K G' H' (muts ms vs) news := by
  intro ms vs ds news n h
  induction h generalizing n news with
  | nil => intro _ _ e; cases e; exact .nil
  | @val ms vs ds v d h1 h2 ih =>
    intro m1 m2 e
    have e1 : mPairs n (false :: ms) (v :: vs) = mPairs (n + 1) ms vs := by cases v <;> rfl
    have e2 : muts (false :: ms) (v :: vs) = muts ms vs := by cases v <;> rfl
    rw [e2]
    rw [e1] at m1 m2
    cases q : ρ.drop n with
    | nil => rw [q] at e; simp [finals] at e
    | cons s r =>
      rw [q] at e
      have e' : finals ms r = some news := e
      have hr : r = ρ.drop (n + 1) := by rw [← List.drop_drop, q]; rfl
      rw [hr] at e'
      exact ih (n + 1) m1 (fun i a hi => m2 i a (by omega)) e'
  | @chg ms vs ds a o d h1 h2 h3 h4 h5 ih =>
    intro m1 m2 e
    cases q : ρ.drop n with
    | nil => rw [q] at e; simp [finals] at e
    | cons s r =>
      rw [q] at e
      cases s with
      | no => simp [finals] at e
      | sh _ => simp [finals] at e
      | ow _ => simp [finals] at e
      | mp d' =>
        have hr : r = ρ.drop (n + 1) := by rw [← List.drop_drop, q]; rfl
        simp only [finals] at e
        cases w : finals ms r with
        | none => rw [w] at e; cases e
        | some ds' =>
          rw [w] at e; cases e
          rw [hr] at w
          have hs : ρ[n]? = some (.mp d') := by
            have z : (ρ.drop n)[0]? = some (.mp d') := by rw [q]; rfl
            rw [List.getElem?_drop] at z
            exact z
          obtain ⟨b, ob, z1, z2, z3, z4, z5⟩ := S.ok n _ hs
          have zb : b = a := by
            have m := m2 n b (Nat.le_refl _) z5
            have m' : (n, b) ∈ (n, a) :: mPairs (n + 1) ms vs := m
            rcases List.mem_cons.mp m' with e | m'
            · cases e; rfl
            · exfalso
              have : ∀ (ms : List Bool) (vs : List V) (n i : Nat) (a : Addr), (i, a) ∈ mPairs n ms vs → n ≤ i := by
                intro ms
                induction ms with
                | nil => intro vs n i a m; simp [mPairs] at m
                | cons b ms ih =>
                  intro vs n i a m
                  cases vs with
                  | nil => cases b <;> simp [mPairs] at m
                  | cons v vs =>
                    cases b with
                    | false => cases v <;> (simp only [mPairs] at m; have := ih vs (n + 1) i a m; omega)
                    | true =>
                      cases v <;> simp only [mPairs] at m <;> try (have := ih vs (n + 1) i a m; omega)
                      rcases List.mem_cons.mp m with e | m
                      · cases e; exact Nat.le_refl _
                      · have := ih vs (n + 1) i a m; omega
              have := this ms vs (n + 1) n b m'
              omega
          subst zb
          exact .cons ⟨ob, z2, z3, z4⟩ (ih (n + 1) (fun i c m => m1 i c (List.mem_cons_of_mem _ m)) (fun i c hi m => by
            have m' : (i, c) ∈ (n, b) :: mPairs (n + 1) ms vs := m2 i c (by omega) m
            rcases List.mem_cons.mp m' with e | m'
            · cases e; omega
            · exact m') w)
/-- what a body's meaning says of the def's promise -/
theorem body_reads {P : Program} {w : World} {K : PySem.W.Frag} {N : List Str} {ps : List Str} {ms : List Bool} {m : SM} {vs : List V} {H : Hp} {Q : VK} {E : XK} (hp : ms.length = ps.length) (hN : ps.length ≤ N.length) (h : spD ⟨K, P, w⟩ ms (runF ms N.length m) vs H Q E) :
    tSt ⟨K, P, w⟩ m { nx := fun _ H' => Q .non H', rt := Q } (start N vs) H := by
  obtain ⟨G, ds, r, news, sg, ha, e, kk⟩ := h
  have S0 := start_sta sg ha (N := N) (by omega)
  unfold runF at e
  by_cases hl : ds.length = ms.length
  · rw [if_pos hl] at e
    cases q : m (startS ms ds ++ List.replicate (N.length - ms.length) .no) with
    | none => rw [q] at e; cases e
    | some o =>
      rw [q] at e
      refine ⟨_, _, G, o, S0, q, ?_⟩
      have fin : ∀ {v : V} {σ' : St} {ρ' : Rho} {G' H' : Hp} {r' : Rs}, Sta ⟨K, P, w⟩ ⟨H, G, mPairs 0 ms vs, []⟩ σ' ρ' G' H' → Same G G' → RsOk ⟨K, P, w⟩ G' H' H v r' → finals ms ρ' = some news → r' = r → Q v H' := fun {v σ' ρ' G' H' r'} S' g ok fe er => by
        subst er
        refine kk v G' H' ⟨g, S'.fm.gh, fun b o eb n => S'.fm.keep b o eb (by show b ∉ (mPairs 0 ms vs).map (·.2); rw [mPairs_snd]; exact n), S'.fm.new⟩ ok (finals_ok S' 0 ha (fun i a m => m) (fun i a _ m => m) (by simpa using fe))
      cases o with
      | bk ρ' => cases e
      | ct ρ' => cases e
      | nx ρ' =>
        dsimp only at e
        cases w2 : finals ms ρ' with
        | none => rw [w2] at e; cases e
        | some nw =>
          rw [w2] at e; cases e
          exact fun σ' G' H' S' g => fin (r' := .val .none) S' g (Rp.dat .non) w2 rfl
      | rt r' ρ' =>
        dsimp only at e
        cases w2 : finals ms ρ' with
        | none => rw [w2] at e; cases e
        | some nw =>
          rw [w2] at e; cases e
          exact fun v σ' G' H' S' g ok => fin S' g ok w2 rfl
  · rw [if_neg hl] at e; cases e
/-- THE RULE for a def: its body's meaning gives its promise -/
theorem fn_ok {P : Program} {w : World} {K : PySem.W.Frag} {mg : Str → Option Value} {base : Heap} {x qual : Str} {st : Stmt} {f : Addr} {fd : FuncData} {N ps : List Str} {k : Nat} {ms : List Bool} {m : SM} (F : Fun K x qual st f fd) (S : FnScope N ps (defScope st)) (hp : ms.length = ps.length) (hN : ps.length ≤ N.length)
    (hbody : ∀ (cdv : Value) (A : Around) (outer : List Env) (s : Shared) (H : Hp) (E : XK), Room k (A.deeper (PyProof.Rows.envOfC qual (defScope st) s.heap.objs.size f cdv)) →
      DSs (cxOf CX0 P w K mg base N qual (defScope st) f cdv A outer s H E).nox (defBody st) m) : FnOk P w K mg base CX0 (k + 1) f fd ps (spD ⟨K, P, w⟩ ms (runF ms N.length m)) := by
  refine F.ok S (fun vs H Q E ⟨G, ds, r, news, _, h, _⟩ => by rw [h.len.1, hp]) fun cdv A outer s H vs Q E hr h => ⟨_, hbody cdv A outer s H E hr, body_reads hp hN h⟩
/-- a weaker, nicer function -/
theorem spD_imp {K : Fr} {ms : List Bool} {m m' : Fn} (h : ∀ ds z, m' ds = some z → m ds = some z) : ∀ vs H Q E, spD K ms m' vs H Q E → spD K ms m vs H Q E := fun vs H Q E ⟨G, ds, r, news, a, b, c, d⟩ => ⟨G, ds, r, news, a, b, h _ _ c, d⟩
end Z
end

section
set_option Elab.async false
set_option linter.all false
set_option maxRecDepth 100000
set_option maxHeartbeats 2000000
/-! Z5G: defs called where no repr is under way. -/
namespace Z
open PySem L2 PySem.Spec PyProof.Rows
/-- what a def promises to callers within which no repr is under way -/
structure FnG (P : Program) (w : World) (K : PySem.W.Frag) (mg : Str → Option Value) (base : Heap) (k : Nat) (f : Addr) (fd : FuncData) (ps : List Str) (sp : Sp) : Prop where
  len : ∀ vs H Q E, sp vs H Q E → vs.length = ps.length
  run : ∀ (A : Around) (out : List Env) (s : Shared) (H : Hp) (args : Args) (us : List Value) (vs : List V) (Q : VK) (E : XK), A.guards = some [] → Room k A → Env0 P w K mg base A out s H →
    BindsTo s fd args (ps.zip us) → Vals vs us → sp vs H Q E → codeAny (model P w) A (.call (.ref f) args) (CR CX0 out P w H s Q E) s
section
variable {P : Program} {w : World} {K : PySem.W.Frag} {mg : Str → Option Value} {base : Heap}
theorem FnG.mono {j k : Nat} {f : Addr} {fd : FuncData} {ps : List Str} {sp : Sp} (F : FnG P w K mg base j f fd ps sp) (h : j ≤ k) : FnG P w K mg base k f fd ps sp where
  len := F.len
  run A out s H args us vs Q E g r := F.run A out s H args us vs Q E g (Room.mono r h)
theorem FnG.imp {k : Nat} {f : Addr} {fd : FuncData} {ps : List Str} {sp sp' : Sp} (F : FnG P w K mg base k f fd ps sp) (i : ∀ vs H Q E, sp' vs H Q E → sp vs H Q E) : FnG P w K mg base k f fd ps sp' where
  len vs H Q E q := F.len vs H Q E (i vs H Q E q)
  run A out s H args us vs Q E g r e b v q := F.run A out s H args us vs Q E g r e b v (i vs H Q E q)
/-- from a def's body -/
theorem fng_of {x qual : Str} {st : Stmt} {f : Addr} {fd : FuncData} {N ps : List Str} {k : Nat} {sp : Sp} (F : Fun K x qual st f fd) (S : FnScope N ps (defScope st)) (len : ∀ vs H Q E, sp vs H Q E → vs.length = ps.length)
    (body : ∀ (cdv : Value) (A : Around) (out : List Env) (s : Shared) (H : Hp) (vs : List V) (Q : VK) (E : XK), A.guards = some [] → Room k (A.deeper (envOfC qual (defScope st) s.heap.objs.size f cdv)) → sp vs H Q E →
      ∃ t, PSs (cxOf CX0 P w K mg base N qual (defScope st) f cdv A out s H E).nox (defBody st) t ∧ t { nx := fun _ H' => Q .non H', rt := Q } (start N vs) H) : FnG P w K mg base (k + 1) f fd ps sp := by
  obtain ⟨oc, od, kV, doc, pm, an, cdv, ct, osl, rfl, look, codeK⟩ := F.ex
  constructor
  · exact len
  · intro A out s H args us vs Q E g r e0 bd rv q
    have keep : ∀ b o, base.get? b = some o → s.heap.get? b = some o := fun b o e => (e0.bs b o e).1
    have inK : K.In s.heap := e0.mod.kin.keeps keep
    have noL : s.heap.NoLimit := e0.mod.nolimit.keeps keep
    have kinds : ∀ y ∈ ps.zip us, (defScope st).names.lookup y.1 = some .local ∨ ((defScope st).names.lookup y.1 = some .cell ∧ ((cellsFrom (s.heap.objs.size + 1) (defScope st).names []).lookup y.1).isSome = true) := by
      intro y hy
      have m : y.1 ∈ ps := (List.of_mem_zip (a := y.1) (b := y.2) hy).1
      cases S.par y.1 m with
      | inl a => exact Or.inl a
      | inr a => exact Or.inr ⟨a, PySem.W.cellsFrom_some _ _ _ (Or.inl a)⟩
    apply codeAny_call_function r.depth (inK _ _ look) rfl S.co S.gen rfl (PySem.W.codeRec_of inK codeK)
    apply bd
    apply wpAny_newFunctionEnv_cells S.kind kinds
    intro env1 he s1 x
    subst he
    refine And.intro (noL.keeps x.toInCall.keep) (codeAny_func ?_)
    obtain ⟨t, ht, hq⟩ := body cdv A out s H vs Q E g (r.deeper _) q
    have I0 := inv_start (E := E) (CX := CX0) S r.hd e0 (len _ _ _ _ q) rv x
    have J := ht.nox.run [] s1 (start N vs) H _ I0 hq
    apply wpAny_mono J
    · intro fl s' hs
      have done : ∀ {σ1 : L2.St} {H1 : Hp} {v : V} {u : Value}, Inv (cxOf CX0 P w K mg base N qual (defScope st) f cdv A out s H E) [] σ1 H1 s' → RelV v u → Q v H1 → CE out P w H s Q u s' := by
        intro σ1 H1 v u I1 ru qq
        exact ⟨v, H1, I1.os, I1.bare, I1.base, I1.hok, ru, qq⟩
      match fl, hs with
      | .ret _, ⟨_, _, _, I1, ru, qq⟩ => exact done I1 ru qq
      | .next, ⟨_, _, I1, qq⟩ => exact done (v := V.non) (u := Value.none) I1 rfl qq
      | .brk, ⟨_, _, _, z⟩ => exact z.elim
      | .cont, ⟨_, _, _, z⟩ => exact z.elim
    · intro e s' z
      exact z
/-- a def over data, by its body's meaning -/
theorem fng_ok {x qual : Str} {st : Stmt} {f : Addr} {fd : FuncData} {N ps : List Str} {k : Nat} {ms : List Bool} {m : SM} (F : Fun K x qual st f fd) (S : FnScope N ps (defScope st)) (hp : ms.length = ps.length) (hN : ps.length ≤ N.length)
    (body : ∀ (cdv : Value) (A : Around) (out : List Env) (s : Shared) (H : Hp) (E : XK), A.guards = some [] → Room k (A.deeper (envOfC qual (defScope st) s.heap.objs.size f cdv)) →
      DSs (cxOf CX0 P w K mg base N qual (defScope st) f cdv A out s H E).nox (defBody st) m) : FnG P w K mg base (k + 1) f fd ps (spD ⟨K, P, w⟩ ms (runF ms N.length m)) :=
  fng_of F S (fun vs H Q E ⟨G, ds, r, news, _, h, _⟩ => by rw [h.len.1, hp]) fun cdv A out s H vs Q E g hr h => ⟨_, body cdv A out s H E g hr, body_reads hp hN h⟩
end
section
variable {X : Cx} {k : Nat} {f : Addr} {fd : FuncData} {ps : List Str} {sp : Sp} {E : XK} {x : Str} {p pos : Pos} {e : Expr} {es : List Expr} {t : TA}
theorem run_g {pins : List (Addr × Obj)} {σ : L2.St} {H : Hp} {s : Shared} {Q : VK} {args : Args} {us : List Value} {vs : List V} (g : X.A.guards = some []) (F : FnG X.prog X.w X.K X.mg X.base k f fd ps sp) (hr : Room k X.A)
    (I : Inv X pins σ H s) (b : BindsTo s fd args (ps.zip us)) (r : Vals vs us) (h : sp vs H Q E) : codeAny (model X.prog X.w) X.A (.call (.ref f) args) (fun z s' => ∃ u, z = .ok (.ret u) ∧ EP X pins σ Q u s') s := by
  have c := F.run X.A X.stack s H args us vs Q E g hr I.env0 b r h
  apply codeAny_mono c
  intro z s' hq
  match z, hq with
  | .error _, q => exact q.elim
  | .ok (.ret u), q => exact ⟨u, rfl, I.after q⟩
  | .ok .next, q => exact q.elim
  | .ok .brk, q => exact q.elim
  | .ok .cont, q => exact q.elim
theorem call_g {pins : List (Addr × Obj)} {σ : L2.St} {H : Hp} {s : Shared} {Q : VK} {us : List Value} {vs : List V} (g : X.A.guards = some []) (F : FnG X.prog X.w X.K X.mg X.base k f fd ps sp) (hr : Room k X.A) (hb : Binds X.K fd ps [])
    (I : Inv X pins σ H s) (r : Vals vs us) (h : sp vs H Q E) : wpAny (model X.prog X.w) X.A (call (.ref f) us) (EP X pins σ Q) X.xe s := by
  have hl : (us ++ []).length = ps.length := by rw [List.append_nil, ← r.length]; exact F.len _ _ _ _ h
  have b := hb s us I.kIn hl
  rw [List.append_nil] at b
  apply wpAny_call
  apply codeAny_mono (run_g (E := E) g F hr I b r h)
  rintro z s' ⟨u, rfl, q⟩
  exact q
theorem pe_callG (g : X.A.guards = some []) (F : FnG X.prog X.w X.K X.mg X.base k f fd ps sp) (hr : Room k X.A) (hg : Gl X x) (hm : X.mg x = some (.ref f)) (hk : PySem.W.keepIn X.K (.ref f) = true) (hb : Binds X.K fd ps [])
    (ha : PA X (e :: es) t) (hdb : (x == ("__debug__" : Str)) = false) (he : starEach (e :: es) X.env = (false, eval e X.env) :: starEach es X.env) (hpl : (backTo pos (starEach es X.env)).any (·.1) = false) :
    PE X (.Call (.Name x p) (e :: es) [] pos) (tCall sp [] E t) := by
  constructor
  intro pins s σ H Q I h
  apply wpAny_Call_Name_kw (ld_glob I hg hm ?_ hdb)
  have step := thn (ha.run pos pins s σ H _ I h) fun us s1 ⟨vs, H1, I1, r, q⟩ => show X.K.In s1.heap ∧ wpAny (model X.prog X.w) X.A (call (.ref f) us) (EP X pins σ Q) X.xe s1 from ⟨I1.kIn, call_g (E := E) g F hr hb I1 r (by simpa using q)⟩
  exact PySem.W.callWith_K (h₀ := X.base) I.ok.mod.kin hk step he hpl
theorem pe_callG0 (g : X.A.guards = some []) (F : FnG X.prog X.w X.K X.mg X.base k f fd ps sp) (hr : Room k X.A) (hg : Gl X x) (hm : X.mg x = some (.ref f)) (hk : PySem.W.keepIn X.K (.ref f) = true) (hb : Binds X.K fd ps [])
    (hdb : (x == ("__debug__" : Str)) = false) : PE X (.Call (.Name x p) [] [] pos) (tCall sp [] E tNil) := by
  constructor
  intro pins s σ H Q I h
  apply wpAny_Call_Name_kw (ld_glob I hg hm ?_ hdb)
  have h' : sp ([] ++ []) H Q E := h
  exact PySem.W.callWith_K0 I.kIn hk (call_g (us := []) (E := E) g F hr hb I .nil (by simpa using h'))
end
end Z
end

section
set_option Elab.async false
set_option linter.all false
set_option maxRecDepth 100000
set_option maxHeartbeats 2000000
/-! ZRG: the call of a law. -/
namespace Z
open PySem L2 PySem.Spec PyProof.Rows
/-- nothing but the script is tracked -/
def scr (a : Addr) (ob : Obj) (ns : List Int) : Hp := fun b => if b = a then some (.frz ob (.lst (ns.map V.int))) else none
theorem scr_at {a : Addr} {ob : Obj} {ns : List Int} : scr a ob ns a = some (.frz ob (.lst (ns.map V.int))) := if_pos rfl
theorem scr_ne {a b : Addr} {ob : Obj} {ns : List Int} (h : b ≠ a) : scr a ob ns b = none := if_neg h
theorem law_g {P : Program} {w : World} {K : PySem.W.Frag} {mg mb : Str → Option Value} {k : Nat} {fa a : Addr} {fd : FuncData} {x : Str} {sp : Sp} {s1 : Shared} {vs : List Value} {ns : List Int}
    (KX : K.In s1.heap) (ka : K.lookup a = none) (nsM : s1.heap.Ns mainGlobals mg) (nsB : s1.heap.Ns builtinsNs mb) (boot : ∀ x : Str, x ≠ "__name__" → mb x = bootBuiltins x) (lim : s1.heap.NoLimit) (gens : s1.gens = #[])
    (ha : s1.heap.get? a = some { cls := .type "list", data := .seq vs.toArray }) (hi : IntsAre vs ns) (few : ns.length ≤ sizeLine) (hr : Room k callerA)
    (F : ∀ base : Heap, K.In base → base.Ns mainGlobals mg → FnG P w K mg base k fa fd [x] sp) (bind : ∀ (s : Shared) (u : Value), BindsTo s fd ⟨[u], []⟩ [(x, u)])
    (hsp : ∀ H : Hp, SqL K H a (ns.map V.int) → sp [.ref a] H (fun v _ => v = .bl true) fun _ _ _ => False) :
    codeAny (model P w) callerA (.call (.ref fa) ⟨[.ref a], []⟩) (fun r s' => r = .ok (.ret (.bool true)) ∧ OldK s1.heap s'.heap ∧ s'.os = s1.os ∧ AllBare s'.gens) s1 := by
  have tracked : HOk P w (scr a { cls := .type "list", data := .seq vs.toArray } ns) s1.heap := by
    intro b u e
    by_cases hb : b = a
    · subst hb
      rw [scr_at] at e
      cases e
      exact ⟨ha, by simpa using few, vs, _, vals_ints hi, ha⟩
    · rw [scr_ne hb] at e
      cases e
  have free : ∀ {b : Addr} {o : Obj}, s1.heap.get? b = some o → (∀ its n, o.data ≠ .seq its n) → scr a { cls := .type "list", data := .seq vs.toArray } ns b = none := by
    intro b o e no
    by_cases hb : b = a
    · subst hb
      rw [ha] at e
      cases e
      exact absurd rfl (no vs.toArray _)
    · exact scr_ne hb
  have names : ∀ {b : Addr} {m : Str → Option Value}, s1.heap.Ns b m → (hidT s1.heap (scr a { cls := .type "list", data := .seq vs.toArray } ns)).Ns b m := by
    rintro b m ⟨o, es, ep, e, d, r⟩
    exact ⟨o, es, ep, hidT_get e (free e fun its n z => by rw [d] at z; cases z), d, r⟩
  have inB : K.In (hidT s1.heap (scr a { cls := .type "list", data := .seq vs.toArray } ns)) := by
    intro b o e
    have hb : b ≠ a := by
      rintro rfl
      rw [ka] at e
      cases e
    exact hidT_get (KX b o e) (scr_ne hb)
  obtain ⟨mc, l1, l2⟩ := lim
  have world : Env0 P w K mg (hidT s1.heap (scr a { cls := .type "list", data := .seq vs.toArray } ns)) callerA [] s1 (scr a { cls := .type "list", data := .seq vs.toArray } ns) :=
    { frames := rfl
      mod := ⟨inB, names nsM, ⟨mb, names nsB, boot⟩, mc, names l1, l2⟩
      bs := fun b o e => of_hidT e
      bsz := Nat.le_of_eq (hidT_size _ _)
      funs := trivial
      frf := fun b hb => by cases hb
      hok := tracked
      bare := .of_eq gens }
  have run := (F _ inB (names nsM)).run callerA [] s1 _ ⟨[.ref a], []⟩ [.ref a] [.ref a] _ _ rfl hr world (bind s1 (.ref a)) (.cons rfl .nil) (hsp _ (.inl (.inr ⟨_, scr_at⟩)))
  apply codeAny_mono run
  intro z s' hz
  match z, hz with
  | .error _, q => exact q.elim
  | .ok .next, q => exact q.elim
  | .ok .brk, q => exact q.elim
  | .ok .cont, q => exact q.elim
  | .ok (.ret u), ⟨v, H', os, bare, un, hok', ru, q⟩ =>
    have ev : v = .bl true := q
    subst ev
    have eu : u = Value.bool true := ru
    subst eu
    refine ⟨rfl, OldK.of_keep ?_, os, bare⟩
    intro b o e
    by_cases hb : b = a
    · subst hb
      have z2 := un.frzs b _ _ scr_at
      have z3 := (hok' b _ z2).1
      rw [ha] at e
      cases e
      exact z3
    · exact un.keep b o e (scr_ne hb) (fun m => by cases m) (fun m => by cases m)
end Z
end

section
set_option Elab.async false
set_option linter.all false
set_option maxRecDepth 100000
set_option maxHeartbeats 1000000
/-! Z6: Python's operations over data. -/
namespace Z
open PySem L2
variable {X : Cx}

theorem val_int {K : Fr} {G' H' H : Hp} {i : Int} : RsOk K G' H' H (.int i) (.val (.int i)) := Rp.dat (.int i)
theorem val_bl {K : Fr} {G' H' H : Hp} {b : Bool} : RsOk K G' H' H (.bl b) (.val (.bool b)) := Rp.dat (.bl b)
theorem val_str {K : Fr} {G' H' H : Hp} {x : Str} : RsOk K G' H' H (.str x) (.val (.str x)) := Rp.dat (.str x)
theorem val_non {K : Fr} {G' H' H : Hp} : RsOk K G' H' H .non (.val .none) := Rp.dat .non

/-! ### numbers -/
def gII (f : Int → Int → Option Rs) : D → D → Option Rs
  | .int i, .int j => f i j
  | _, _ => none
theorem gII_some {f : Int → Int → Option Rs} {d e : D} {rs : Rs} (h : gII f d e = some rs) : ∃ i j, d = .int i ∧ e = .int j ∧ f i j = some rs := by
  cases d with
  | int i => cases e with
    | int j => exact ⟨i, j, rfl, rfl, h⟩
    | _ => cases h
  | _ => cases h
theorem opG_I {K : Fr} {C : Int → Int → Prop} {g : Int → Int → V} {gd : Int → Int → D} (c : Int → Int → Bool) (hc : ∀ i j, c i j = true → C i j) (hg : ∀ i j G, Dq K.k G (g i j) (gd i j)) :
    OpG K (rI C g) (gII fun i j => if c i j then some (.val (gd i j)) else none) := by
  intro x y G H d e rs Q s rx ry hd k
  obtain ⟨i, j, rfl, rfl, hd⟩ := gII_some hd
  obtain ⟨h1, hd⟩ := if_some hd
  cases hd
  exact ⟨i, j, rp_int rx, rp_int ry, hc i j h1, k _ G H (Ext.refl s) (Rp.dat (hg i j G))⟩
theorem opG_I0 {K : Fr} {g : Int → Int → V} {gd : Int → Int → D} (hg : ∀ i j G, Dq K.k G (g i j) (gd i j)) : OpG K (rI0 g) (gII fun i j => some (.val (gd i j))) := by
  intro x y G H d e rs Q s rx ry hd k
  obtain ⟨i, j, rfl, rfl, hd⟩ := gII_some hd
  cases hd
  exact ⟨i, j, rp_int rx, rp_int ry, k _ G H (Ext.refl s) (Rp.dat (hg i j G))⟩
/-- two texts, two lists, two tuples -/
def gSS (f : Str → Str → Option Rs) : D → D → Option Rs
  | .str i, .str j => f i j
  | _, _ => none
def gLL (f : List D → List D → Option Rs) : D → D → Option Rs
  | .list i, .list j => f i j
  | _, _ => none
def gTT (f : List D → List D → Option Rs) : D → D → Option Rs
  | .tuple i, .tuple j => f i j
  | _, _ => none
def gLI (f : List D → Int → Option Rs) : D → D → Option Rs
  | .list i, .int j => f i j
  | _, _ => none
def gTI (f : List D → Int → Option Rs) : D → D → Option Rs
  | .tuple i, .int j => f i j
  | _, _ => none
theorem gSS_some {f : Str → Str → Option Rs} {d e : D} {rs : Rs} (h : gSS f d e = some rs) : ∃ i j, d = .str i ∧ e = .str j ∧ f i j = some rs := by
  cases d with
  | str i => cases e with
    | str j => exact ⟨i, j, rfl, rfl, h⟩
    | _ => cases h
  | _ => cases h
theorem gLL_some {f : List D → List D → Option Rs} {d e : D} {rs : Rs} (h : gLL f d e = some rs) : ∃ i j, d = .list i ∧ e = .list j ∧ f i j = some rs := by
  cases d with
  | list i => cases e with
    | list j => exact ⟨i, j, rfl, rfl, h⟩
    | _ => cases h
  | _ => cases h
theorem gTT_some {f : List D → List D → Option Rs} {d e : D} {rs : Rs} (h : gTT f d e = some rs) : ∃ i j, d = .tuple i ∧ e = .tuple j ∧ f i j = some rs := by
  cases d with
  | tuple i => cases e with
    | tuple j => exact ⟨i, j, rfl, rfl, h⟩
    | _ => cases h
  | _ => cases h
theorem gLI_some {f : List D → Int → Option Rs} {d e : D} {rs : Rs} (h : gLI f d e = some rs) : ∃ i j, d = .list i ∧ e = .int j ∧ f i j = some rs := by
  cases d with
  | list i => cases e with
    | int j => exact ⟨i, j, rfl, rfl, h⟩
    | _ => cases h
  | _ => cases h
theorem gTI_some {f : List D → Int → Option Rs} {d e : D} {rs : Rs} (h : gTI f d e = some rs) : ∃ i j, d = .tuple i ∧ e = .int j ∧ f i j = some rs := by
  cases d with
  | tuple i => cases e with
    | int j => exact ⟨i, j, rfl, rfl, h⟩
    | _ => cases h
  | _ => cases h

theorem _root_.L2.Inv.lstR {pins : List (Addr × Obj)} {σ : St} {H : Hp} {s : Shared} {p : Addr} {xs : List V} (I : Inv X pins σ H s) (h : Rd H p (.lst xs)) :
    xs.length ≤ sizeLine ∧ ∃ (its : List Value) (n : Nat), Vals xs its ∧ xs.length = its.length ∧ s.heap.get? p = some { cls := .type "list", data := .seq its.toArray n } := by
  obtain ⟨z, its, n, r, e⟩ := h.ok I.hok
  exact ⟨z, its, n, r, r.length, e⟩
def rCatR : R2 := fun x y H Q => ∃ l b xs zs, x = V.ref l ∧ y = V.ref b ∧ Rd H l (.lst xs) ∧ Rd H b (.lst zs) ∧ xs.length + zs.length ≤ sizeLine ∧ ∀ p, H p = none → Q (V.ref p) (upd H p (.lst (xs ++ zs)))
theorem op_catR : OpR X (binaryOp .Add) rCatR := by
  intro pins s σ H x y v u Q I rx ry h
  obtain ⟨l, b, xs, zs, rfl, rfl, hH, hB, hz, q⟩ := h
  cases rx
  cases ry
  obtain ⟨z, its, n, r, hl, e⟩ := I.lstR hH
  obtain ⟨z2, its2, n2, r2, hl2, e2⟩ := I.lstR hB
  refine PySem.P.add_list e e2 ?_ (by rw [List.size_toArray, List.size_toArray]; omega)
  rw [List.append_toArray]
  exact ⟨V.ref _, _, I.lnew (t' := s.toks) (r.append r2) (by rw [List.length_append]; omega), rfl, q _ I.fresh⟩
theorem rp_lstR {K : Fr} {G H : Hp} {v : V} {ds : List D} (s : Same G H) (h : Rd1 K G H v (.list ds)) : ∃ a xs, v = .ref a ∧ Rd H a (.lst xs) ∧ DqAll K.k G xs ds := rp_lst s h
theorem cat_list {K : Fr} : OpG K rCatR (gLL fun a b => if decide (a.length + b.length ≤ big) then some (.new (.list (a ++ b))) else none) := by
  intro x y G H d e rs Q s rx ry hd k
  obtain ⟨i, j, rfl, rfl, hd⟩ := gLL_some hd
  obtain ⟨h1, hd⟩ := if_some hd
  cases hd
  rw [decide_eq_true_eq] at h1
  obtain ⟨a, xs, rfl, h2, h3⟩ := rp_lst s rx
  obtain ⟨b, ys, rfl, h4, h5⟩ := rp_lst s ry
  refine ⟨a, b, xs, ys, rfl, rfl, h2, h4, by rw [dpAll_len h3, dpAll_len h5]; exact Nat.le_trans h1 big_line, fun p n => ?_⟩
  obtain ⟨x, z⟩ := new_lst (K := K) s n (dpAll_append h3 h5)
  exact k _ _ _ x z
theorem cat_str {K : Fr} : OpG K (fun x y H Q => ∃ i j, x = .str i ∧ y = .str j ∧ i.length + j.length ≤ sizeLine ∧ Q (.str (i ++ j)) H) (gSS fun a b => if decide (a.length + b.length ≤ big) then some (.val (.str (a ++ b))) else none) := by
  intro x y G H d e rs Q s rx ry hd k
  obtain ⟨i, j, rfl, rfl, hd⟩ := gSS_some hd
  obtain ⟨h1, hd⟩ := if_some hd
  cases hd
  rw [decide_eq_true_eq] at h1
  exact ⟨i, j, rp_str rx, rp_str ry, Nat.le_trans h1 big_line, k _ G H (Ext.refl s) val_str⟩
/-- t + u: an empty one gives the other -/
def rCatZ (K : PySem.W.Frag) : R2 := fun x y H Q => ∃ a b xs ys, x = .ref a ∧ y = .ref b ∧ SqT K H a xs ∧ SqT K H b ys ∧ xs.length + ys.length ≤ sizeLine ∧
  (xs = [] → Q (.ref b) H) ∧ (xs ≠ [] → ys = [] → Q (.ref a) H) ∧ (xs ≠ [] → ys ≠ [] → ∀ p ob, H p = none → ob.dict = none → Q (.ref p) (upd H p (.frz ob (.tup (xs ++ ys)))))
theorem op_catZ : OpR X (binaryOp .Add) (rCatZ X.K) := by
  intro pins s σ H x y v u Q I rx ry h
  obtain ⟨a, b, xs, ys, rfl, rfl, ha, hb, hz, q0, q1, q2⟩ := h
  cases rx
  cases ry
  obtain ⟨its, r1, p1, _⟩ := I.tuple ha
  obtain ⟨its2, r2, p2, _⟩ := I.tuple hb
  by_cases hx : xs = []
  · subst hx
    cases r1
    exact cat_tup0 p1 p2 ⟨.ref b, H, I, rfl, q0 rfl⟩
  · refine HT.cat_tup p1 p2 (fun z => hx (r1.nil_iff.mp z)) (fun z => ⟨.ref a, H, I, rfl, q1 hx (r2.nil_iff.mp z)⟩) (fun z => ?_) (by rw [← r1.length, ← r2.length]; exact hz)
    exact ⟨.ref s.heap.objs.size, _, I.ltup (t' := s.toks) (fun b ob q => Heap.get?_push_of_some _ q) (Nat.le_refl _) (Heap.get?_push_size _ rfl) rfl rfl (r1.append r2) (by rw [List.length_append]; exact hz), rfl, q2 hx (fun w => z (r2.nil_iff.mpr w)) _ _ (I.hok.fresh (Nat.le_refl _)) rfl⟩
theorem cat_tup {K : Fr} : OpG K (rCatZ K.k) (gTT fun a b => if decide (a.length + b.length ≤ big) then some (.val (.tuple (a ++ b))) else none) := by
  intro x y G H d e rs Q s rx ry hd k
  obtain ⟨i, j, rfl, rfl, hd⟩ := gTT_some hd
  obtain ⟨h1, hd⟩ := if_some hd
  cases hd
  rw [decide_eq_true_eq] at h1
  obtain ⟨a, xs, rfl, h2, h3⟩ := rp_tupT rx
  obtain ⟨b, ys, rfl, h4, h5⟩ := rp_tupT ry
  have l1 := dpAll_len h3
  have l2 := dpAll_len h5
  refine ⟨a, b, xs, ys, rfl, rfl, sqT_mono s h2.sq, sqT_mono s h4.sq, by rw [l1, l2]; exact Nat.le_trans h1 big_line, fun e => ?_, fun _ e => ?_, fun _ _ p ob n hob => ?_⟩
  · subst e
    have : i = [] := List.length_eq_zero_iff.mp l1.symm
    subst this
    exact k _ G H (Ext.refl s) (Rp.dat (by simpa using Dq.tup h4 h5))
  · subst e
    have : j = [] := List.length_eq_zero_iff.mp l2.symm
    subst this
    exact k _ G H (Ext.refl s) (Rp.dat (by simpa using Dq.tup h2 h3))
  · obtain ⟨x, z⟩ := new_tup (K := K) s n hob (dpAll_append h3 h5)
    exact k _ _ _ x z
def dAdd : D → D → Option Rs := orG (gII fun i j => some (.val (.int (i + j)))) (orG (gSS fun a b => if decide (a.length + b.length ≤ big) then some (.val (.str (a ++ b))) else none)
  (orG (gLL fun a b => if decide (a.length + b.length ≤ big) then some (.new (.list (a ++ b))) else none) (gTT fun a b => if decide (a.length + b.length ≤ big) then some (.val (.tuple (a ++ b))) else none)))
def rAdd4 (K : PySem.W.Frag) : R2 := fun x y H Q => rI0 (fun i j => .int (i + j)) x y H Q ∨ (∃ i j, x = .str i ∧ y = .str j ∧ i.length + j.length ≤ sizeLine ∧ Q (.str (i ++ j)) H) ∨ rCatR x y H Q ∨ rCatZ K x y H Q
theorem op_add4 : OpR X (binaryOp .Add) (rAdd4 X.K) := op_add.or (op_add_str.or (op_catR.or op_catZ))
theorem add4G {K : Fr} : OpG K (rAdd4 K.k) dAdd := (opG_I0 fun _ _ _ => .int _).or (cat_str.or (cat_list.or cat_tup))

def cMul (i j : Int) : Bool := decide (-(2 ^ 64) < i ∧ i < 2 ^ 64) || decide (-(2 ^ 64) < j ∧ j < 2 ^ 64) || decide (i.natAbs.log2 + j.natAbs.log2 < 1000000)
theorem op_mulX : OpR X (binaryOp .Mult) (rI (fun i j => cMul i j = true) fun i j => .int (i * j)) := opI fun i j _ _ _ _ _ hc q => PyProof.Rows.mul_int q (by
  unfold cMul at hc
  rw [Bool.or_eq_true, Bool.or_eq_true, decide_eq_true_eq, decide_eq_true_eq, decide_eq_true_eq] at hc
  rcases hc with (hc | hc) | hc
  · exact CMul.ok (.inl hc)
  · exact CMul.ok (.inr hc)
  · exact CMulW.ok hc)
/-- a list that may be locked, times an int -/
def rRepR : R2 := fun x y H Q => ∃ l k xs, x = V.ref l ∧ y = V.int k ∧ Rd H l (.lst xs) ∧ (-(2 ^ 63) ≤ k ∧ k < 2 ^ 63) ∧ xs.length * k.toNat ≤ sizeLine ∧
  ∀ p, H p = none → Q (V.ref p) (upd H p (.lst (List.replicate k.toNat xs).flatten))
theorem rep_arr (its : List Value) (m : Nat) : List.foldl (fun x1 x2 => x1 ++ x2) #[] (List.replicate (if its.toArray.isEmpty = true then 0 else m) its.toArray) = (List.replicate m its).flatten.toArray := by
  have f0 : List.foldl (fun x1 x2 => x1 ++ x2) #[] (List.replicate m its.toArray) = (List.replicate m its).flatten.toArray := by simpa using foldl_rep its m []
  cases its with
  | nil => simp
  | cons z zs => rw [if_neg (by simp)]; exact f0
theorem op_repR : OpR X (binaryOp .Mult) rRepR := by
  rintro pins s σ H x y v u Q I rx ry ⟨l, k, xs, rfl, rfl, hH, ⟨b1, b2⟩, hz, q⟩
  cases rx
  obtain ⟨t, rfl⟩ := ry
  obtain ⟨z, its, n, r, hl, e⟩ := I.lstR hH
  have sz : its.toArray.size * k.toNat ≤ sizeLine := by simpa [← hl] using hz
  have t1 : s.TypeIs (Value.ref l) "list" := ⟨_, e, rfl⟩
  have c1 : ¬ its.toArray.size * k.toNat > (2 ^ 63 - 1) / 8 := by
    have c0 : (sizeLine : Nat) ≤ (2 ^ 63 - 1) / 8 := by decide
    omega
  have c2 : ¬ (!Builtin.List.listFitsIndex k) = true := by rw [PySem.fitsIndex_both b1 b2]; decide
  have c3 : ¬ Builtin.List.listTooLong (its.toArray.size * k.toNat) = true := by rw [notLongL sz]; decide
  refine wpAny_binaryOp_repeat_ref (T := "list") (U := "int") (by decide) t1 (fun s' => PySem.typeIs_int s' k t) PySem.noFill_list_mul F.fills_int_mul F.slot_int_rmul PySem.repeat_list F.slot_int_index.lookup ?_
  refine call_meets F.slot_int_rmul (PySem.typeIs_int s k t) F.entry_int_rmul (F.args_int_rmul_2 _ _) (PySem.int___rmul___int_list k t l its.toArray n) ⟨e, rfl, t1, ?_⟩
  refine call_meets F.slot_list_mul t1 F.entry_list_mul (F.args_list_mul_2 _ _)
    (AutoListH.list___mul___list_int_3 l its.toArray n k t c2 c1 c3) ⟨e, ?_⟩
  rw [rep_arr]
  exact ⟨V.ref _, _, I.lnew (t' := s.toks) (r.rep k.toNat) (by rw [PyProof.Rows.lm_len_rep_flat, Nat.mul_comm]; exact hz), rfl, q _ I.fresh⟩

theorem rep_list {K : Fr} : OpG K rRepR (gLI fun a k => if decide (-(2 ^ 63) ≤ k ∧ k < 2 ^ 63) && decide (a.length * k.toNat ≤ big) then some (.new (.list (List.replicate k.toNat a).flatten)) else none) := by
  intro x y G H d e rs Q s rx ry hd kk
  obtain ⟨i, k, rfl, rfl, hd⟩ := gLI_some hd
  obtain ⟨h1, hd⟩ := if_some hd
  cases hd
  rw [Bool.and_eq_true, decide_eq_true_eq, decide_eq_true_eq] at h1
  obtain ⟨a, xs, rfl, h2, h3⟩ := rp_lst s rx
  refine ⟨a, k, xs, rfl, rp_int ry, h2, h1.1, by rw [dpAll_len h3]; exact Nat.le_trans h1.2 big_line, fun p n => ?_⟩
  have rep : ∀ m : Nat, DqAll K.k G (List.replicate m xs).flatten (List.replicate m i).flatten := by
    intro m
    induction m with
    | zero => exact .nil
    | succ m ih => simpa [List.replicate_succ] using dpAll_append h3 ih
  obtain ⟨x, z⟩ := new_lst (K := K) s n (rep k.toNat)
  exact kk _ _ _ x z
def dMul : D → D → Option Rs := orG (gII fun i j => if cMul i j then some (.val (.int (i * j))) else none) (gLI fun a k => if decide (-(2 ^ 63) ≤ k ∧ k < 2 ^ 63) && decide (a.length * k.toNat ≤ big) then some (.new (.list (List.replicate k.toNat a).flatten)) else none)
def rMul2 : R2 := fun x y H Q => rI (fun i j => cMul i j = true) (fun i j => .int (i * j)) x y H Q ∨ rRepR x y H Q
theorem op_mul2 : OpR X (binaryOp .Mult) rMul2 := op_mulX.or op_repR
theorem mul2G {K : Fr} : OpG K rMul2 dMul := (opG_I _ (fun _ _ h => h) fun _ _ _ => .int _).or rep_list
def dSub : D → D → Option Rs := gII fun i j => some (.val (.int (i - j)))
theorem subG {K : Fr} : OpG K (rI0 fun i j => .int (i - j)) dSub := opG_I0 fun _ _ _ => .int _
def cDivW (_ j : Int) : Bool := decide (0 < j ∧ j.natAbs.log2 < 9000)
def dFdiv : D → D → Option Rs := gII fun i j => if cDivW i j then some (.val (.int (i / j))) else none
theorem fdivG {K : Fr} : OpG K (rI CDivW fun i j => .int (i / j)) dFdiv := opG_I cDivW (fun i j h => (of_decide_eq_true h : (0 < j ∧ j.natAbs.log2 < 9000))) fun _ _ _ => .int _
def dMod : D → D → Option Rs := gII fun i j => if decide (0 < j) then some (.val (.int (i % j))) else none
theorem modG {K : Fr} : OpG K (rI (fun _ j => 0 < j) fun i j => .int (i % j)) dMod := opG_I (fun _ j => decide (0 < j)) (fun _ _ h => of_decide_eq_true h) fun _ _ _ => .int _
def cPow (i j : Int) : Bool := decide (0 ≤ j ∧ j ≤ 1000000 ∧ i.natAbs < 2 ^ 64)
def dPow : D → D → Option Rs := gII fun i j => if cPow i j then some (.val (.int (i ^ j.toNat))) else none
theorem powG {K : Fr} : OpG K (rI CPow fun i j => .int (i ^ j.toNat)) dPow := opG_I cPow (fun i j h => (of_decide_eq_true h : (0 ≤ j ∧ j ≤ 1000000 ∧ i.natAbs < 2 ^ 64))) fun _ _ _ => .int _

/-! ### comparisons -/
def sv : D → Option V
  | .none => some .non
  | .bool b => some (.bl b)
  | .int i => some (.int i)
  | .str x => some (.str x)
  | _ => Option.none
theorem sv_of {K : Fr} {G H : Hp} {d : D} {x y : V} (h : Rd1 K G H x d) (e : sv d = some y) : x = y := by
  cases d with
  | none => cases e; exact rp_none h
  | bool b => cases e; exact rp_bool h
  | int i => cases e; exact rp_int h
  | str z => cases e; exact rp_str h
  | _ => cases e
def scalE (d e : D) : Option Bool := match sv d, sv e with
  | some x, some y => if scal x y then some (decide (x = y)) else none
  | _, _ => none
theorem scalE_of {K : Fr} {G H : Hp} {d e : D} {x y : V} {b : Bool} (hx : Rd1 K G H x d) (hy : Rd1 K G H y e) (h : scalE d e = some b) : scal x y = true ∧ decide (x = y) = b := by
  unfold scalE at h
  cases q1 : sv d with
  | none => rw [q1] at h; cases h
  | some x' =>
    cases q2 : sv e with
    | none => rw [q1, q2] at h; cases h
    | some y' =>
      rw [q1, q2] at h
      rw [sv_of hx q1, sv_of hy q2]
      obtain ⟨c, h⟩ := if_some h
      exact ⟨c, Option.some.inj h⟩
theorem shaped_nd {d : D} (h : SeqAt.shaped d = true) : isDict d = false := by
  cases d with
  | dict kvs => simp [SeqAt.shaped, PyData.canLay0] at h
  | _ => rfl
def eqD (d e : D) : Option Bool := match scalE d e with
  | some b => some b
  | none => if SeqAt.shaped d && SeqAt.shaped e then some (PyData.eqv d e) else none
def dEq (d e : D) : Option Rs := match eqD d e with
  | some b => some (.val (.bool b))
  | none => none
def dNe (d e : D) : Option Rs := match eqD d e with
  | some b => some (.val (.bool (!b)))
  | none => none
def rEq2 (K : PySem.W.Frag) : R2 := fun x y H Q => rEq x y H Q ∨ rEqD K x y H Q
def rNe2 (K : PySem.W.Frag) : R2 := fun x y H Q => rNe x y H Q ∨ rNeD K x y H Q
theorem op_eq2 (hu : X.A.units + 64 < cLine) : OpR X (compareOp .Eq) (rEq2 X.K) := op_eq.or (op_eqD hu)
theorem op_ne2 (hu : X.A.units + 64 < cLine) : OpR X (compareOp .NotEq) (rNe2 X.K) := op_ne.or (op_neD hu)
theorem eq2G {K : Fr} : OpG K (rEq2 K.k) dEq := by
  intro x y G H d e rs Q s rx ry hd k
  unfold dEq eqD at hd
  cases q : scalE d e with
  | some b =>
    rw [q] at hd; cases hd
    obtain ⟨h1, h2⟩ := scalE_of rx ry q
    exact .inl ⟨h1, by rw [h2]; exact k _ G H (Ext.refl s) val_bl⟩
  | none =>
    rw [q] at hd
    dsimp only at hd
    by_cases c : (SeqAt.shaped d && SeqAt.shaped e) = true
    · rw [if_pos c] at hd; cases hd
      rw [Bool.and_eq_true] at c
      exact .inr ⟨d, e, (rx.dq s (shaped_nd c.1)).dp, (ry.dq s (shaped_nd c.2)).dp, c.1, c.2, k _ G H (Ext.refl s) val_bl⟩
    · rw [if_neg c] at hd; cases hd
theorem ne2G {K : Fr} : OpG K (rNe2 K.k) dNe := by
  intro x y G H d e rs Q s rx ry hd k
  unfold dNe eqD at hd
  cases q : scalE d e with
  | some b =>
    rw [q] at hd; cases hd
    obtain ⟨h1, h2⟩ := scalE_of rx ry q
    exact .inl ⟨h1, by rw [h2]; exact k _ G H (Ext.refl s) val_bl⟩
  | none =>
    rw [q] at hd
    dsimp only at hd
    by_cases c : (SeqAt.shaped d && SeqAt.shaped e) = true
    · rw [if_pos c] at hd; cases hd
      rw [Bool.and_eq_true] at c
      exact .inr ⟨d, e, (rx.dq s (shaped_nd c.1)).dp, (ry.dq s (shaped_nd c.2)).dp, c.1, c.2, k _ G H (Ext.refl s) val_bl⟩
    · rw [if_neg c] at hd; cases hd
def dLt : D → D → Option Rs := orG (gII fun i j => some (.val (.bool (decide (i < j))))) (gSS fun a b => some (.val (.bool (decide (a.cps.toList < b.cps.toList)))))
def dLe : D → D → Option Rs := gII fun i j => some (.val (.bool (decide (i ≤ j))))
def dGt : D → D → Option Rs := gII fun i j => some (.val (.bool (decide (j < i))))
def dGe : D → D → Option Rs := gII fun i j => some (.val (.bool (decide (j ≤ i))))
def rLt2 : R2 := fun x y H Q => rI0 (fun i j => .bl (decide (i < j))) x y H Q ∨ ∃ i j, x = .str i ∧ y = .str j ∧ Q (.bl (decide (i.cps.toList < j.cps.toList))) H
theorem op_lt2 : OpR X (compareOp .Lt) rLt2 := op_lt.or op_lt_str
theorem lt2G {K : Fr} : OpG K rLt2 dLt := OpG.or (opG_I0 fun _ _ _ => .bl _) (by
  intro x y G H d e rs Q s rx ry hd k
  obtain ⟨i, j, rfl, rfl, hd⟩ := gSS_some hd
  cases hd
  exact ⟨i, j, rp_str rx, rp_str ry, k _ G H (Ext.refl s) val_bl⟩)
theorem leG {K : Fr} : OpG K (rI0 fun i j => .bl (decide (i ≤ j))) dLe := opG_I0 fun _ _ _ => .bl _
theorem gtG {K : Fr} : OpG K (rI0 fun i j => .bl (decide (j < i))) dGt := opG_I0 fun _ _ _ => .bl _
theorem geG {K : Fr} : OpG K (rI0 fun i j => .bl (decide (j ≤ i))) dGe := opG_I0 fun _ _ _ => .bl _

/-! ### in -/
def one (x : Str) : Option Nat := match x.cps.toList with
  | [c] => some c
  | _ => none
theorem one_some {x : Str} {c : Nat} (h : one x = some c) : x = ⟨#[c]⟩ := by
  unfold one at h
  split at h
  · rename_i c' e
    cases h
    have : x.cps = #[c] := by rw [← Array.toList_inj]; simpa using e
    cases x
    simp only at this
    rw [this]
  · cases h
/-- one sign in a text -/
def inSS (x z : Str) : Option Bool := match one x with
  | some c => some (decide (c ∈ z.cps.toList))
  | none => none
def inD (d e : D) : Option Bool := match e with
  | .str z => match d with
    | .str x => inSS x z
    | _ => none
  | .list ds => if SeqAt.shaped d && SeqAt.shaped e then some (ds.any fun y => PyData.eqv y d) else none
  | .tuple ds => if SeqAt.shaped d && SeqAt.shaped e then some (ds.any fun y => PyData.eqv y d) else none
  | _ => none
def dIn (d e : D) : Option Rs := match inD d e with
  | some b => some (.val (.bool b))
  | none => none
def dNotIn (d e : D) : Option Rs := match inD d e with
  | some b => some (.val (.bool (!b)))
  | none => none
def rInT (K : PySem.W.Frag) (neg : Bool) : R2 := fun x y H Q => ∃ d ds, Dp K H x d ∧ Dp K H y (.tuple ds) ∧ SeqAt.shaped d = true ∧ SeqAt.shaped (.tuple ds) = true ∧ Q (.bl (if neg then !ds.any (fun z => PyData.eqv z d) else ds.any fun z => PyData.eqv z d)) H
theorem room_in {A : Around} {d : D} {ds : List D} (sd : SeqAt.shaped d = true) (hu : A.units + 65 < cLine) : A.units + 1 + min (PyData.depthAll ds) d.depth < cLine := by
  have : d.depth ≤ 64 := by
    unfold SeqAt.shaped at sd
    rw [Bool.and_eq_true, decide_eq_true_eq] at sd
    exact sd.2
  omega
theorem op_inT (hu : X.A.units + 65 < cLine) : OpR X (compareOp .In) (rInT X.K false) := by
  rintro pins s σ H x y v u Q I rx ry ⟨d, ds, hd, he, sd, se, q⟩
  obtain ⟨as, r1⟩ := Dp.reads I d x v hd rx
  obtain ⟨bs, r2⟩ := Dp.reads I (.tuple ds) y u he ry
  have c1 : PyData.canLayAll0 ds = true := by
    have := SeqAt.canLay_of_shaped se
    simpa [PyData.canLay0] using this
  exact SeqAt.in_tuple_reads r2 r1 c1 (SeqAt.canLay_of_shaped sd) (room_in sd hu) ⟨.bl _, H, I, rfl, q⟩
theorem op_notInT (hu : X.A.units + 65 < cLine) : OpR X (compareOp .NotIn) (rInT X.K true) := by
  rintro pins s σ H x y v u Q I rx ry ⟨d, ds, hd, he, sd, se, q⟩
  obtain ⟨as, r1⟩ := Dp.reads I d x v hd rx
  obtain ⟨bs, r2⟩ := Dp.reads I (.tuple ds) y u he ry
  have c1 : PyData.canLayAll0 ds = true := by
    have := SeqAt.canLay_of_shaped se
    simpa [PyData.canLay0] using this
  exact SeqAt.notIn_tuple_reads r2 r1 c1 (SeqAt.canLay_of_shaped sd) (room_in sd hu) ⟨.bl _, H, I, rfl, q⟩
def rInX (K : PySem.W.Frag) : R2 := fun x y H Q => (∃ (c : Nat) (z : Str), x = .str ⟨#[c]⟩ ∧ y = .str z ∧ Q (.bl (decide (c ∈ z.cps.toList))) H) ∨ rInD K x y H Q ∨ rInT K false x y H Q
def rNotInX (K : PySem.W.Frag) : R2 := fun x y H Q => (∃ (c : Nat) (z : Str), x = .str ⟨#[c]⟩ ∧ y = .str z ∧ Q (.bl (!decide (c ∈ z.cps.toList))) H) ∨ rNotInD K x y H Q ∨ rInT K true x y H Q
theorem op_inX (hu : X.A.units + 65 < cLine) : OpR X (compareOp .In) (rInX X.K) := op_in_sign.or ((op_inD hu).or (op_inT hu))
theorem op_notInX (hu : X.A.units + 65 < cLine) : OpR X (compareOp .NotIn) (rNotInX X.K) := op_notIn_sign.or ((op_notInD hu).or (op_notInT hu))
theorem inX_cases {d e : D} {b : Bool} (h : inD d e = some b) : (∃ c z, d = .str ⟨#[c]⟩ ∧ e = .str z ∧ b = decide (c ∈ z.cps.toList)) ∨ (∃ ds, (e = .list ds ∨ e = .tuple ds) ∧ SeqAt.shaped d = true ∧ SeqAt.shaped e = true ∧ b = ds.any fun y => PyData.eqv y d) := by
  cases e with
  | str z =>
    cases d with
    | str x =>
      have h' : inSS x z = some b := h
      unfold inSS at h'
      cases q : one x with
      | none => rw [q] at h'; cases h'
      | some c => rw [q] at h'; cases h'; exact .inl ⟨c, z, by rw [one_some q], rfl, rfl⟩
    | _ => cases h
  | list ds =>
    have h' : (if SeqAt.shaped d && SeqAt.shaped (.list ds) then some (ds.any fun y => PyData.eqv y d) else none) = some b := h
    obtain ⟨c, h'⟩ := if_some h'
    cases h'
    rw [Bool.and_eq_true] at c
    exact .inr ⟨ds, .inl rfl, c.1, c.2, rfl⟩
  | tuple ds =>
    have h' : (if SeqAt.shaped d && SeqAt.shaped (.tuple ds) then some (ds.any fun y => PyData.eqv y d) else none) = some b := h
    obtain ⟨c, h'⟩ := if_some h'
    cases h'
    rw [Bool.and_eq_true] at c
    exact .inr ⟨ds, .inr rfl, c.1, c.2, rfl⟩
  | _ => cases h
theorem inXG {K : Fr} : OpG K (rInX K.k) dIn := by
  intro x y G H d e rs Q s rx ry hd k
  unfold dIn at hd
  cases q : inD d e with
  | none => rw [q] at hd; cases hd
  | some b =>
    rw [q] at hd; cases hd
    rcases inX_cases q with ⟨c, z, rfl, rfl, rfl⟩ | ⟨ds, h1, h2, h3, rfl⟩
    · exact .inl ⟨c, z, rp_str rx, rp_str ry, k _ G H (Ext.refl s) val_bl⟩
    · rcases h1 with rfl | rfl
      · exact .inr (.inl ⟨d, ds, (rx.dq s (shaped_nd h2)).dp, (ry.dq s rfl).dp, h2, h3, k _ G H (Ext.refl s) val_bl⟩)
      · exact .inr (.inr ⟨d, ds, (rx.dq s (shaped_nd h2)).dp, (ry.dq s rfl).dp, h2, h3, k _ G H (Ext.refl s) val_bl⟩)
theorem notInXG {K : Fr} : OpG K (rNotInX K.k) dNotIn := by
  intro x y G H d e rs Q s rx ry hd k
  unfold dNotIn at hd
  cases q : inD d e with
  | none => rw [q] at hd; cases hd
  | some b =>
    rw [q] at hd; cases hd
    rcases inX_cases q with ⟨c, z, rfl, rfl, rfl⟩ | ⟨ds, h1, h2, h3, rfl⟩
    · exact .inl ⟨c, z, rp_str rx, rp_str ry, k _ G H (Ext.refl s) val_bl⟩
    · rcases h1 with rfl | rfl
      · exact .inr (.inl ⟨d, ds, (rx.dq s (shaped_nd h2)).dp, (ry.dq s rfl).dp, h2, h3, k _ G H (Ext.refl s) val_bl⟩)
      · exact .inr (.inr ⟨d, ds, (rx.dq s (shaped_nd h2)).dp, (ry.dq s rfl).dp, h2, h3, k _ G H (Ext.refl s) val_bl⟩)

/-! ### is None -/
def dIsN (d : D) : Option Rs := if isDict d then none else some (.val (.bool (match d with
  | .none => true
  | _ => false)))
def dNotN (d : D) : Option Rs := if isDict d then none else some (.val (.bool (match d with
  | .none => false
  | _ => true)))
theorem isN_of {K : Fr} {G H : Hp} {x : V} {d : D} (s : Same G H) (h : Rd1 K G H x d) (hd : isDict d = false) : decide (x = V.non) = (match d with
  | .none => true
  | _ => false) := by
  have q := h.dq s hd
  cases q <;> rfl

/-! ### items, slices -/
def dIx (d e : D) : Option Rs := match d, e with
  | .list ds, .int i => match atI ds i with
    | some x => some (.val x)
    | none => none
  | .tuple ds, .int i => match atI ds i with
    | some x => some (.val x)
    | none => none
  | .str z, .int i => if decide (z.length ≤ big) then match atI z.cps.toList i with
      | some c => some (.val (.str ⟨#[c]⟩))
      | none => none
    else none
  | _, _ => none
theorem atI_dq {K : Fr} {G : Hp} {xs : List V} {ds : List D} {i : Int} {d : D} (h : DqAll K.k G xs ds) (e : atI ds i = some d) : ∃ v, atI xs i = some v ∧ Dq K.k G v d := by
  unfold atI at e ⊢
  rw [dpAll_len h]
  cases q : ixN ds.length i with
  | none => rw [q] at e; cases e
  | some j =>
    rw [q] at e
    exact dpAll_get' h e
theorem ixG {K : Fr} : OpG K (rIx K.k) dIx := by
  intro x y G H d e rs Q s rx ry hd k
  cases d with
  | list ds => cases e with
    | int i =>
      have hd' : (match atI ds i with | some x => some (Rs.val x) | none => none) = some rs := hd
      cases q : atI ds i with
      | none => rw [q] at hd'; cases hd'
      | some z =>
        rw [q] at hd'; cases hd'
        obtain ⟨a, xs, rfl, h2, h3⟩ := rp_lst s rx
        obtain ⟨v, hv, hz⟩ := atI_dq h3 q
        exact .inl ⟨a, xs, i, v, rfl, rp_int ry, .inl h2, hv, k v G H (Ext.refl s) (Rp.dat hz)⟩
    | _ => cases hd
  | tuple ds => cases e with
    | int i =>
      have hd' : (match atI ds i with | some x => some (Rs.val x) | none => none) = some rs := hd
      cases q : atI ds i with
      | none => rw [q] at hd'; cases hd'
      | some z =>
        rw [q] at hd'; cases hd'
        obtain ⟨a, xs, rfl, h2, h3⟩ := rp_tup rx
        obtain ⟨v, hv, hz⟩ := atI_dq h3 q
        exact .inr (.inl ⟨a, xs, i, v, rfl, rp_int ry, sqT_mono s h2, hv, k v G H (Ext.refl s) (Rp.dat hz)⟩)
    | _ => cases hd
  | str z => cases e with
    | int i =>
      have hd' : (if decide (z.length ≤ big) then match atI z.cps.toList i with | some c => some (Rs.val (.str ⟨#[c]⟩)) | none => none else none) = some rs := hd
      obtain ⟨c, hd'⟩ := if_some hd'
      rw [decide_eq_true_eq] at c
      cases q : atI z.cps.toList i with
      | none => rw [q] at hd'; cases hd'
      | some ch =>
        rw [q] at hd'; cases hd'
        exact .inr (.inr ⟨z, i, ch, rp_str rx, rp_int ry, Nat.le_trans c big_line, q, k _ G H (Ext.refl s) val_str⟩)
    | _ => cases hd
  | _ => cases hd
def cutD (xs : List D) (lo hi : Option Int) : List D := (xs.drop (HT.sIx xs.length 0 lo)).take (HT.sIx xs.length xs.length hi - HT.sIx xs.length 0 lo)
def dCut (d : D) (lo hi : Option Int) : Option Rs := match d with
  | .list ds => some (.new (.list (cutD ds lo hi)))
  | .tuple ds => some (.val (.tuple (cutD ds lo hi)))
  | .str z => if decide (z.length ≤ big) then some (.val (.str (cutS z lo hi))) else none
  | _ => none
theorem cut_dq {K : Fr} {G : Hp} {xs : List V} {ds : List D} (h : DqAll K.k G xs ds) (lo hi : Option Int) : DqAll K.k G (cutV xs lo hi) (cutD ds lo hi) := by
  unfold cutV cutD
  rw [dpAll_len h]
  exact dpAll_take _ (dpAll_drop _ h)
/-- t[lo:hi] -/
def rSlZ (K : PySem.W.Frag) : V → Option Int → Option Int → Hp → VK → Prop := fun x lo hi H Q => ∃ a xs, x = .ref a ∧ SqT K H a xs ∧
  (HT.sIx xs.length 0 lo = 0 ∧ HT.sIx xs.length xs.length hi = xs.length → Q (.ref a) H) ∧ (¬ (HT.sIx xs.length 0 lo = 0 ∧ HT.sIx xs.length xs.length hi = xs.length) → ∀ p ob, H p = none → ob.dict = none → Q (.ref p) (upd H p (.frz ob (.tup (cutV xs lo hi)))))
theorem sl_tupZ : SlR X (rSlZ X.K) := by
  intro pins s σ H x v vl vu lo hi sl Q I rx hs pl pu h
  obtain ⟨a, xs, rfl, hx, q1, q2⟩ := h
  cases rx
  obtain ⟨its, r, ht, hz⟩ := I.tuple hx
  have hlen : its.toArray.size = xs.length := by rw [List.size_toArray]; exact r.length.symm
  refine ⟨"tuple", _, PyProof.Rows.slot_tuple_getitem.lookup, ht.typeIs, ?_⟩
  by_cases hw : HT.sIx xs.length 0 lo = 0 ∧ HT.sIx xs.length xs.length hi = xs.length
  · exact getItem_tuple_whole ht hs pl pu (by rw [hlen]; exact hw) ⟨.ref a, H, I, rfl, q1 hw⟩
  · refine HT.getItem_tuple_cut ht hs pl pu (by rw [hlen]; exact hw) ?_ (by rw [hlen]; exact hz)
    rw [hlen]
    exact ⟨.ref s.heap.objs.size, _, I.ltup (t' := s.toks) (fun b ob q => Heap.get?_push_of_some _ q) (Nat.le_refl _) (Heap.get?_push_size _ rfl) rfl rfl ((r.drop (HT.sIx xs.length 0 lo)).take (HT.sIx xs.length xs.length hi - HT.sIx xs.length 0 lo)) (Nat.le_trans (cutV_length xs lo hi) hz), rfl, q2 hw _ _ (I.hok.fresh (Nat.le_refl _)) rfl⟩
def rSl3 (K : PySem.W.Frag) : V → Option Int → Option Int → Hp → VK → Prop := fun x lo hi H Q => rSlL K x lo hi H Q ∨ rSlZ K x lo hi H Q ∨ rSlS x lo hi H Q
theorem sl_3 : SlR X (rSl3 X.K) := sl_list.or (sl_tupZ.or sl_str)
theorem sl3G {K : Fr} {x : V} {G H : Hp} {d : D} {lo hi : Option Int} {rs : Rs} {Q : VK} (s : Same G H) (rx : Rd1 K G H x d) (hd : dCut d lo hi = some rs) (k : ∀ v G' H', Ext G H G' H' → RsOk K G' H' H v rs → Q v H') : rSl3 K.k x lo hi H Q := by
  cases d with
  | list ds =>
    cases hd
    obtain ⟨a, xs, rfl, h2, h3⟩ := rp_lst s rx
    refine .inl ⟨a, xs, rfl, .inl h2, fun p n => ?_⟩
    obtain ⟨x, z⟩ := new_lst (K := K) s n (cut_dq h3 lo hi)
    exact k _ _ _ x z
  | tuple ds =>
    cases hd
    obtain ⟨a, xs, rfl, h2, h3⟩ := rp_tupT rx
    refine .inr (.inl ⟨a, xs, rfl, sqT_mono s h2.sq, fun hw => ?_, fun _ p ob n hob => ?_⟩)
    · have e : cutD ds lo hi = ds := by
        rw [dpAll_len h3] at hw
        unfold cutD
        rw [hw.1, hw.2]
        simp
      refine k _ G H (Ext.refl s) ?_
      rw [e]
      exact Rp.dat (.tup h2 h3)
    · obtain ⟨x, z⟩ := new_tup (K := K) s n hob (cut_dq h3 lo hi)
      exact k _ _ _ x z
  | str z =>
    have hd' : (if decide (z.length ≤ big) then some (Rs.val (.str (cutS z lo hi))) else none) = some rs := hd
    obtain ⟨c, hd'⟩ := if_some hd'
    cases hd'
    rw [decide_eq_true_eq] at c
    exact .inr (.inr ⟨z, rp_str rx, Nat.le_trans c big_line, k _ G H (Ext.refl s) val_str⟩)
  | _ => cases hd
/-- a slice's bound -/
def tPO (K : Fr) (m : M (Option Int)) : TO := fun σ H Q => ∃ C ρ G o ρ', Sta K C σ ρ G H ∧ m ρ = some (o, ρ') ∧ ∀ G' H', Sta K C σ ρ' G' H' → Same G G' → Q o H'
def DP (X : Cx) (e : Option Expr) (m : M (Option Int)) : Prop := PO X e (tPO X.wd m)
theorem _root_.L2.PO.imp {X : Cx} {e : Option Expr} {t t' : TO} (h : PO X e t) (i : ∀ σ H Q, t' σ H Q → t σ H Q) : PO X e t' := ⟨fun pins s σ H Q I q => h.run pins s σ H Q I (i σ H Q q)⟩
def mNoP : M (Option Int) := fun ρ => some (none, ρ)
def mPart (m : M Res) : M (Option Int) := bnd m fun r ρ => match look ρ r with
  | some (.int i) => some (some i, ρ)
  | _ => none
theorem dp_none : DP X none mNoP := po_none.imp fun σ H Q ⟨C, ρ, G, o, ρ', S, e, k⟩ => by
  cases e
  exact k G H S (Same.refl G)
theorem dp_some {e : Expr} {m : M Res} (h : DE X e m) : DP X (some e) (mPart m) := (po_some h).imp (by
  rintro σ H Q ⟨C, ρ, G, o, ρ', S, e, k⟩
  obtain ⟨r, ρ1, e1, e⟩ := bnd_some e
  refine ⟨C, ρ, G, r, ρ1, S, e1, fun v G1 H1 S1 g1 r1 => ?_⟩
  cases q : look ρ1 r with
  | none => simp only [q] at e; cases e
  | some d =>
    simp only [q] at e
    cases d <;> simp only at e <;> try cases e
    exact ⟨_, rp_int (r1.read S1 q), k G1 H1 S1 g1⟩)
def mSlice (m : M Res) (ml mh : M (Option Int)) : M Res := bnd m fun r => bnd ml fun lo => bnd mh fun hi ρ => match look ρ r with
  | some d => match dCut d lo hi with
    | some rs => some (rs.res, ρ)
    | none => none
  | none => none
theorem de_slice {e : Expr} {lo hi : Option Expr} {pos p2 : Pos} {m : M Res} {ml mh : M (Option Int)} (h : DE X e m) (hl : DP X lo ml) (hh : DP X hi mh) : DE X (.Subscript e (.Slice lo hi none p2) pos) (mSlice m ml mh) := (pe_slice sl_3 h hl hh).imp (by
  rintro σ H Q ⟨C, ρ, G, rr, ρ', S, e, k⟩
  obtain ⟨r, ρ1, e1, e⟩ := bnd_some e
  obtain ⟨lo, ρ2, e2, e⟩ := bnd_some e
  obtain ⟨hi, ρ3, e3, e⟩ := bnd_some e
  refine ⟨C, ρ, G, r, ρ1, S, e1, fun v G1 H1 S1 g1 r1 => ?_⟩
  obtain ⟨C', S1', hold⟩ := r1.hold S1
  refine ⟨C', ρ1, G1, lo, ρ2, S1', e2, fun G2 H2 S2 g2 => ?_⟩
  refine ⟨C', ρ2, G2, hi, ρ3, S2, e3, fun G3 H3 S3 g3 => ?_⟩
  obtain ⟨S4, r4, _⟩ := hold _ _ _ S3 (g2.trans g3)
  cases q : look ρ3 r with
  | none => simp only [q] at e; cases e
  | some d =>
    simp only [q] at e
    cases q2 : dCut d lo hi with
    | none => rw [q2] at e; cases e
    | some rs =>
      rw [q2] at e; cases e
      exact sl3G (K := X.wd) S4.fm.gh (r4.read S4 q) q2 fun w G' H' x ok => k w G' H' (S4.ext x) (((g1.trans g2).trans g3).trans x.g) (rok_of_rs S4 x ok))
end Z
end

section
set_option Elab.async false
set_option linter.all false
set_option maxRecDepth 100000
set_option maxHeartbeats 1000000
/-! Z7: built-in calls over data. -/
namespace Z
open PySem L2
variable {X : Cx}

/-! ### a built-in of one argument, read in place -/
def rB1 (r : V → Hp → VK → Prop) : List V → Hp → VK → Prop := fun vs H Q => ∃ x, vs = [x] ∧ r x H Q
theorem cb1_of {K : Fr} {r : V → Hp → VK → Prop} {g : D → Option Rs} (hg : UnG K r g) {m : M Res} : ∀ σ H Q, tE K (mUn g m) σ H Q → tCB (rB1 r) (tCons (tE K m) tNil) σ H Q := by
  intro σ H Q h
  obtain ⟨C, ρ, G, rr, ρ', S, e, k⟩ := tUn_of hg σ H Q h
  exact ⟨C, ρ, G, rr, ρ', S, e, fun v G' H' S' g' r' => ⟨v, rfl, k v G' H' S' g' r'⟩⟩
/-- a built-in of shared arguments -/
def mCBs (g : List D → Option Rs) (ms : M (List D)) : M Res := bnd ms fun ds ρ => match g ds with
  | some r => some (r.res, ρ)
  | none => none
def LsG (K : Fr) (r : List V → Hp → VK → Prop) (g : List D → Option Rs) : Prop := ∀ vs G H ds rs (Q : VK), Same G H → RpAll K G vs ds → g ds = some rs → (∀ v G' H', Ext G H G' H' → RsOk K G' H' H v rs → Q v H') → r vs H Q
theorem cbs_of {K : Fr} {r : List V → Hp → VK → Prop} {g : List D → Option Rs} (hg : LsG K r g) {ms : M (List D)} : ∀ σ H Q, tE K (mCBs g ms) σ H Q → tCB r (tL K ms) σ H Q := by
  rintro σ H Q ⟨C, ρ, G, rr, ρ', S, e, k⟩
  obtain ⟨ds, ρ1, e1, e⟩ := bnd_some e
  cases q : g ds with
  | none => rw [q] at e; cases e
  | some rs =>
    rw [q] at e; cases e
    exact ⟨C, ρ, G, ds, _, S, e1, fun vs G1 H1 S1 g1 rp => hg vs G1 H1 ds rs Q S1.fm.gh rp q fun w G' H' x ok => k w G' H' (S1.ext x) (g1.trans x.g) (rok_of_rs S1 x ok)⟩

/-! ### data as keys -/
section
variable {pins : List (Addr × Obj)} {σ : St} {H : Hp} {s : Shared}
mutual
theorem nested_is (I : Inv X pins σ H s) : ∀ {d : D} {v : V} {k : NestedKey} {u : Value}, Dq X.K H v d → RelV v u → nk d = some k → NestedIs s.heap k u
  | .none, _, _, _, .non, r, e => by
    simp only [nk] at e; cases e
    cases (show _ = Value.none from r); exact .none
  | .bool b, _, _, _, .bl _, r, e => by
    simp only [nk] at e; cases e
    cases (show _ = Value.bool b from r); exact .bool rfl
  | .int i, _, _, _, .int _, r, e => by
    simp only [nk] at e; cases e
    obtain ⟨t, rfl⟩ := (show ∃ t, _ = Value.int i t from r); exact .int _ _
  | .str x, _, _, _, .str _, r, e => by
    simp only [nk] at e; cases e
    obtain ⟨t, rfl⟩ := (show ∃ t, _ = Value.str x t from r); exact .text _ _
  | .tuple ds, _, _, _, .tup h hs, r, e => by
    simp only [nk] at e
    cases q : nks ds with
    | none => rw [q] at e; cases e
    | some ks =>
      rw [q] at e; cases e
      obtain ⟨its, rv, ⟨o, ho, hc, n, hd⟩, _⟩ := I.tuple h.sq
      cases (show _ = Value.ref _ from r)
      exact .tup ho hc hd (by rw [List.toList_toArray]; exact nested_all I hs rv q)
theorem nested_all (I : Inv X pins σ H s) : ∀ {ds : List D} {vs : List V} {ks : List NestedKey} {us : List Value}, DqAll X.K H vs ds → Vals vs us → nks ds = some ks → NestedAll s.heap ks us
  | [], _, _, _, .nil, .nil, e => by simp only [nks] at e; cases e; exact .nil
  | d :: ds, _, _, _, .cons h hs, .cons r rs, e => by
    simp only [nks] at e
    cases q : nk d with
    | none => rw [q] at e; cases e
    | some k =>
      cases q2 : nks ds with
      | none => rw [q, q2] at e; cases e
      | some ks =>
        rw [q, q2] at e; cases e
        exact .cons (nested_is I h r q) (nested_all I hs rs q2)
end
/-- a row of a dict with its value -/
abbrev NVal := NestedKey × Addr × Value
abbrev nVal (x : NRow) (y : NVal) : Prop := x.1 = y.1 ∧ x.2.1 = y.2.1 ∧ RelV x.2.2 y.2.2
theorem nEnt_val {K : Fr} : ∀ {xs : List NRow} {es : List DictEntry}, Paired (nEnt K) xs es → ∃ ys : List NVal, Paired nVal xs ys ∧ es = ys.map (entryOfKey (nestedKind K.P K.w))
  | _, _, .nil => ⟨[], .nil, rfl⟩
  | x :: _, e :: _, .cons h hs => by
    obtain ⟨ys, h1, h2⟩ := nEnt_val hs
    refine ⟨(x.1, x.2.1, e.val) :: ys, .cons ⟨rfl, rfl, h.2.2⟩ h1, ?_⟩
    rw [List.map_cons, ← h2]
    congr 1
    obtain ⟨a, b, c⟩ := e
    obtain ⟨e1, e2, _⟩ := h
    simp only at e1 e2
    subst e1 e2
    rfl
theorem nVal_keys : ∀ {xs : List NRow} {ys : List NVal}, Paired nVal xs ys → ys.map (·.1) = xs.map (·.1)
  | _, _, .nil => rfl
  | _, _, .cons h hs => by simp [nVal_keys hs, h.1]
/-- the dict at a in the heap, its rows -/
theorem hN_at (I : Inv X pins σ H s) {a : Addr} {xs : List NRow} {kvs : List (D × D)} (h : H a = some (hN X.wd a xs)) (c : NvR X.wd H xs kvs) :
    xs.length ≤ sizeLine ∧ (a == sysModules) = false ∧ ∃ ys, Paired nVal xs ys ∧ s.heap.DictOfH (nestedKind X.prog X.w) a ys := by
  obtain ⟨⟨z, hm, nd, o, es, ep, ho, hx, hd, hp⟩, _⟩ := I.hok _ _ h
  obtain ⟨ys, h1, h2⟩ := nEnt_val hp
  refine ⟨z, hm, ys, h1, o, es, ep, ho, hx, hd, h2, fun y hy => ?_, by rw [nVal_keys h1]; exact nd⟩
  obtain ⟨x, hx, e⟩ := paired_mem h1 hy
  obtain ⟨q, _, e2⟩ := paired_mem' c hx
  have w := nested_is I (u := .ref x.2.1) e2.2.2.2.1 rfl e2.1
  rw [← e.1, ← e.2.1]
  exact ⟨w, e2.2.2.1⟩
end

/-! ### len -/
def dLen : D → Option Rs
  | .list ds => some (.val (.int ds.length))
  | .tuple ds => some (.val (.int ds.length))
  | .str x => if decide (x.length ≤ big) then some (.val (.int x.length)) else none
  | .dict kvs => some (.val (.int kvs.length))
  | _ => none
def rLen (K : Fr) : V → Hp → VK → Prop := fun x H Q => (∃ n, LenV K.k x H n ∧ Q (.int n) H) ∨ (∃ a kvs, x = V.ref a ∧ H a = some (.dK kvs) ∧ Q (.int kvs.length) H) ∨ ∃ a xs kvs, x = V.ref a ∧ H a = some (hN K a xs) ∧ NvR K H xs kvs ∧ Q (.int xs.length) H
theorem cr_len : CallR X (.builtin "len") (rB1 (rLen X.wd)) := by
  intro pins s σ H xs us Q I r h
  obtain ⟨x, rfl, h | ⟨a, kvs, rfl, h, q⟩ | ⟨a, zs, kvs, rfl, h, c, q⟩⟩ := h
  · obtain ⟨n, e, q⟩ := h
    exact call_len pins s σ H _ us Q I r ⟨x, n, rfl, e, q⟩
  · exact call_lenD pins s σ H _ us Q I r ⟨a, kvs, rfl, h, q⟩
  · obtain ⟨u, rfl, rx⟩ := vals1 r
    cases (show u = Value.ref a from rx)
    obtain ⟨z, hm, ys, p, dd⟩ := hN_at I h c
    have hl : zs.length = ys.length := paired_len p
    have := line63
    have hs : sizeLine = 16777216 := sizeLine_eq
    refine call_len_dictH hm dd (by rw [← hl]; omega) ⟨.int zs.length, H, I.tok _, ⟨_, by rw [hl]⟩, q⟩
theorem rp_con {K : Fr} {G H : Hp} {v : V} {kvs : List (D × D)} (s : Same G H) (h : Rd1 K G H v (.dict kvs)) : ∃ a o, v = .ref a ∧ H a = some o ∧ Con K G a o (.dict kvs) := by
  rcases h with h | ⟨a, o, rfl, h1, h⟩
  · cases h with
    | dat h => cases h
    | con h1 h2 => exact ⟨_, _, rfl, s _ _ h1, h2⟩
  · exact ⟨a, o, rfl, h1, h⟩
theorem lenG {K : Fr} : UnG K (rLen K) dLen := by
  intro x G H d rs Q s rx hd k
  cases d with
  | list ds =>
    cases hd
    obtain ⟨a, xs, rfl, h2, h3⟩ := rp_lst s rx
    refine .inl ⟨ds.length, .inl ⟨xs, .inl h2, (dpAll_len h3).symm⟩, k _ G H (Ext.refl s) val_int⟩
  | tuple ds =>
    cases hd
    obtain ⟨a, xs, rfl, h2, h3⟩ := rp_tup rx
    refine .inl ⟨ds.length, .inr ⟨xs, sqT_mono s h2, (dpAll_len h3).symm⟩, k _ G H (Ext.refl s) val_int⟩
  | str z =>
    have hd' : (if decide (z.length ≤ big) then some (Rs.val (.int z.length)) else none) = some rs := hd
    obtain ⟨c, hd'⟩ := if_some hd'
    cases hd'
    rw [decide_eq_true_eq] at c
    rw [rp_str rx]
    exact .inl ⟨z.length, ⟨Nat.le_trans c big_line, rfl⟩, k _ G H (Ext.refl s) val_int⟩
  | dict kvs =>
    cases hd
    obtain ⟨a, o, rfl, h1, h2⟩ := rp_con s rx
    cases h2 with
    | dK h2 =>
      refine .inr (.inl ⟨a, _, rfl, h1, ?_⟩)
      rw [paired_len h2]
      exact k _ G H (Ext.refl s) val_int
    | dN hne h2 =>
      refine .inr (.inr ⟨a, _, kvs, rfl, h1, Paired.mapP h2 fun _ _ z => ⟨z.1, z.2.1, z.2.2.1, dp_mono s z.2.2.2.1, dp_mono s z.2.2.2.2⟩, ?_⟩)
      rw [paired_len h2]
      exact k _ G H (Ext.refl s) val_int
  | _ => cases hd

/-! ### tuple, list -/
def dTuple : D → Option Rs
  | .list ds => some (.val (.tuple ds))
  | .tuple ds => some (.val (.tuple ds))
  | _ => none
def rTupleOf (K : Fr) : V → Hp → VK → Prop := fun x H Q => ∃ p ys, x = .ref p ∧ ((SqL K.k H p ys ∧ ∀ l ob, H l = none → ob.dict = none → Q (.ref l) (upd H l (.frz ob (.tup ys)))) ∨ (SqT K.k H p ys ∧ Q (.ref p) H))
theorem cr_tuple : CallR X (.type "tuple") (rB1 (rTupleOf X.wd)) := by
  intro pins s σ H xs us Q I r h
  obtain ⟨x, rfl, p, ys, rfl, h⟩ := h
  rcases h with ⟨hq, q⟩ | ⟨hq, q⟩
  · obtain ⟨u, rfl, rx⟩ := vals1 r
    cases rx
    obtain ⟨its, rv, pl, hz⟩ := I.list hq
    refine call_tuple_list pl.isList (fun h' kp => ?_) (by rw [List.size_toArray, ← rv.length]; exact hz)
    have I1 : Inv X pins σ H { s with heap := h' } := I.kept (t' := s.toks) kp
    exact ⟨.ref h'.objs.size, _, I1.ltup (t' := s.toks) (fun b o e => Heap.get?_push_of_some _ e) (Nat.le_refl _) (Heap.get?_push_size _ rfl) rfl rfl rv hz, rfl, q _ _ (I1.hok.fresh (Nat.le_refl _)) rfl⟩
  · exact call_tuple_of pins s σ H _ us Q I r ⟨p, ys, rfl, .inr ⟨hq, q⟩⟩
theorem tupleG {K : Fr} : UnG K (rTupleOf K) dTuple := by
  intro x G H d rs Q s rx hd k
  cases d with
  | list ds =>
    cases hd
    obtain ⟨a, xs, rfl, h2, h3⟩ := rp_lst s rx
    refine ⟨a, xs, rfl, .inl ⟨.inl h2, fun l ob n hob => ?_⟩⟩
    obtain ⟨x, z⟩ := new_tup (K := K) s n hob h3
    exact k _ _ _ x z
  | tuple ds =>
    cases hd
    obtain ⟨a, xs, rfl, h2, h3⟩ := rp_tupT rx
    exact ⟨a, xs, rfl, .inr ⟨sqT_mono s h2.sq, k _ G H (Ext.refl s) (Rp.dat (.tup h2 h3))⟩⟩
  | _ => cases hd
def dList : D → Option Rs
  | .list ds => some (.new (.list ds))
  | .tuple ds => some (.new (.list ds))
  | _ => none
def rListOf (K : Fr) : V → Hp → VK → Prop := fun x H Q => ∃ p ys, x = .ref p ∧ (SqL K.k H p ys ∨ SqT K.k H p ys) ∧ ∀ l, H l = none → Q (.ref l) (upd H l (.lst ys))
theorem cr_list : CallR X (.type "list") (rB1 (rListOf X.wd)) := by
  intro pins s σ H xs us Q I r h
  obtain ⟨x, rfl, p, ys, rfl, h⟩ := h
  exact call_list_of pins s σ H _ us Q I r ⟨p, ys, rfl, h⟩
theorem listG {K : Fr} : UnG K (rListOf K) dList := by
  intro x G H d rs Q s rx hd k
  cases d with
  | list ds =>
    cases hd
    obtain ⟨a, xs, rfl, h2, h3⟩ := rp_lst s rx
    refine ⟨a, xs, rfl, .inl (.inl h2), fun l n => ?_⟩
    obtain ⟨x, z⟩ := new_lst (K := K) s n h3
    exact k _ _ _ x z
  | tuple ds =>
    cases hd
    obtain ⟨a, xs, rfl, h2, h3⟩ := rp_tup rx
    refine ⟨a, xs, rfl, .inr (sqT_mono s h2), fun l n => ?_⟩
    obtain ⟨x, z⟩ := new_lst (K := K) s n h3
    exact k _ _ _ x z
  | _ => cases hd

/-! ### all, any, sum -/
def boolsD : List D → Option (List Bool)
  | [] => some []
  | .bool b :: ds => match boolsD ds with
    | some bs => some (b :: bs)
    | none => none
  | _ :: _ => none
def intsD : List D → Option (List Int)
  | [] => some []
  | .int b :: ds => match intsD ds with
    | some bs => some (b :: bs)
    | none => none
  | _ :: _ => none
theorem bools_dq {K : Fr} {H : Hp} : ∀ {ds : List D} {vs : List V} {bs : List Bool}, DqAll K.k H vs ds → boolsD ds = some bs → vs = bs.map V.bl
  | [], _, _, .nil, e => by simp only [boolsD] at e; cases e; rfl
  | d :: ds, v :: vs, bs, .cons h hs, e => by
    cases d <;> simp only [boolsD] at e <;> try cases e
    rename_i b
    cases q : boolsD ds with
    | none => rw [q] at e; cases e
    | some cs =>
      rw [q] at e; cases e
      cases h
      rw [List.map_cons, ← bools_dq hs q]
theorem ints_dq {K : Fr} {H : Hp} : ∀ {ds : List D} {vs : List V} {bs : List Int}, DqAll K.k H vs ds → intsD ds = some bs → vs = bs.map V.int
  | [], _, _, .nil, e => by simp only [intsD] at e; cases e; rfl
  | d :: ds, v :: vs, bs, .cons h hs, e => by
    cases d <;> simp only [intsD] at e <;> try cases e
    rename_i b
    cases q : intsD ds with
    | none => rw [q] at e; cases e
    | some cs =>
      rw [q] at e; cases e
      cases h
      rw [List.map_cons, ← ints_dq hs q]
def onBools (f : List Bool → D) : D → Option Rs
  | .list ds => match boolsD ds with
    | some bs => some (.val (f bs))
    | none => none
  | _ => none
def onInts (f : List Int → Option D) : D → Option Rs
  | .list ds => match intsD ds with
    | some bs => match f bs with
      | some d => some (.val d)
      | none => none
    | none => none
  | _ => none
theorem onBools_some {K : Fr} {f : List Bool → D} {x : V} {G H : Hp} {d : D} {rs : Rs} (s : Same G H) (rx : Rd1 K G H x d) (hd : onBools f d = some rs) : ∃ a bs, x = V.ref a ∧ SqL K.k H a (bs.map V.bl) ∧ rs = .val (f bs) := by
  cases d <;> simp only [onBools] at hd <;> try cases hd
  rename_i ds
  cases q : boolsD ds with
  | none => rw [q] at hd; cases hd
  | some bs =>
    rw [q] at hd; cases hd
    obtain ⟨a, xs, rfl, h2, h3⟩ := rp_lst s rx
    rw [bools_dq h3 q] at h2
    exact ⟨a, bs, rfl, .inl h2, rfl⟩
theorem onInts_some {K : Fr} {f : List Int → Option D} {x : V} {G H : Hp} {d : D} {rs : Rs} (s : Same G H) (rx : Rd1 K G H x d) (hd : onInts f d = some rs) : ∃ a bs e, x = V.ref a ∧ SqL K.k H a (bs.map V.int) ∧ f bs = some e ∧ rs = .val e := by
  cases d <;> simp only [onInts] at hd <;> try cases hd
  rename_i ds
  cases q : intsD ds with
  | none => rw [q] at hd; cases hd
  | some bs =>
    rw [q] at hd
    dsimp only at hd
    cases q2 : f bs with
    | none => rw [q2] at hd; cases hd
    | some e =>
      rw [q2] at hd; cases hd
      obtain ⟨a, xs, rfl, h2, h3⟩ := rp_lst s rx
      rw [ints_dq h3 q] at h2
      exact ⟨a, bs, e, rfl, .inl h2, q2, rfl⟩
def dAll : D → Option Rs := onBools fun bs => .bool (bs.all id)
def dAny : D → Option Rs := onBools fun bs => .bool (bs.any id)
def dSum : D → Option Rs := onInts fun ns => some (.int ns.sum)
def rAll1 (K : Fr) : V → Hp → VK → Prop := fun x H Q => rAll K.k [x] H Q
def rAny1 (K : Fr) : V → Hp → VK → Prop := fun x H Q => rAny K.k [x] H Q
def rSum1 (K : Fr) : V → Hp → VK → Prop := fun x H Q => rSum K.k [x] H Q
theorem b1_of {f : Value} {r : List V → Hp → VK → Prop} (h : CallR X f r) : CallR X f (rB1 fun x H Q => r [x] H Q) := by
  rintro pins s σ H xs us Q I rr ⟨x, rfl, q⟩
  exact h pins s σ H _ us Q I rr q
theorem cr_all1 (hc : X.calm = true) : CallR X (.builtin "all") (rB1 (rAll1 X.wd)) := b1_of (cr_all hc)
theorem cr_any1 (hc : X.calm = true) : CallR X (.builtin "any") (rB1 (rAny1 X.wd)) := b1_of (cr_any hc)
theorem cr_sum1 (hc : X.calm = true) : CallR X (.builtin "sum") (rB1 (rSum1 X.wd)) := b1_of (cr_sum hc)
theorem allG {K : Fr} : UnG K (rAll1 K) dAll := by
  intro x G H d rs Q s rx hd k
  obtain ⟨a, bs, rfl, h, rfl⟩ := onBools_some s rx hd
  exact ⟨a, bs, rfl, h, k _ G H (Ext.refl s) val_bl⟩
theorem anyG {K : Fr} : UnG K (rAny1 K) dAny := by
  intro x G H d rs Q s rx hd k
  obtain ⟨a, bs, rfl, h, rfl⟩ := onBools_some s rx hd
  exact ⟨a, bs, rfl, h, k _ G H (Ext.refl s) val_bl⟩
theorem sumG {K : Fr} : UnG K (rSum1 K) dSum := by
  intro x G H d rs Q s rx hd k
  obtain ⟨a, bs, e, rfl, h, hf, rfl⟩ := onInts_some s rx hd
  cases hf
  exact ⟨a, bs, rfl, h, k _ G H (Ext.refl s) val_int⟩

/-! ### int, max, min -/
def dInt1 : D → Option Rs
  | .int i => some (.val (.int i))
  | .bool b => some (.val (.int (if b then 1 else 0)))
  | _ => none
def rInt1 : V → Hp → VK → Prop := fun x H Q => (∃ i, x = .int i ∧ Q (.int i) H) ∨ ∃ k, x = .bl k ∧ Q (.int (if k then 1 else 0)) H
theorem cr_int1 : CallR X (.type "int") (rB1 rInt1) := by
  rintro pins s σ H xs us Q I rr ⟨x, rfl, h⟩
  refine call_int1 pins s σ H _ us Q I rr ?_
  rcases h with ⟨i, rfl, q⟩ | ⟨i, rfl, q⟩
  · exact .inl ⟨i, rfl, q⟩
  · exact .inr ⟨i, rfl, q⟩
theorem int1G {K : Fr} : UnG K rInt1 dInt1 := by
  intro x G H d rs Q s rx hd k
  cases d with
  | int i => cases hd; exact .inl ⟨i, rp_int rx, k _ G H (Ext.refl s) val_int⟩
  | bool b => cases hd; exact .inr ⟨b, rp_bool rx, k _ G H (Ext.refl s) val_int⟩
  | _ => cases hd
def maxI : List Int → Option Int
  | [] => none
  | i :: is => some (is.foldl max i)
def minI : List Int → Option Int
  | [] => none
  | i :: is => some (is.foldl min i)
def dMax1 : D → Option Rs := onInts fun ns => (maxI ns).map PyData.int
def dMin1 : D → Option Rs := onInts fun ns => (minI ns).map PyData.int
def rMax1 (K : Fr) : V → Hp → VK → Prop := fun x H Q => rMax K.k [x] H Q
def rMin1 (K : Fr) : V → Hp → VK → Prop := fun x H Q => rMin K.k [x] H Q
theorem cr_max1 (hc : X.calm = true) : CallR X (.builtin "max") (rB1 (rMax1 X.wd)) := b1_of (cr_max hc)
theorem cr_min1 (hc : X.calm = true) : CallR X (.builtin "min") (rB1 (rMin1 X.wd)) := b1_of (cr_min hc)
theorem foldl_max : ∀ (ns : List Int) (i : Int), (ns.foldl max i = i ∨ ns.foldl max i ∈ ns) ∧ i ≤ ns.foldl max i ∧ ∀ y ∈ ns, y ≤ ns.foldl max i
  | [], i => ⟨.inl rfl, Int.le_refl _, by simp⟩
  | n :: ns, i => by
    obtain ⟨h1, h2, h3⟩ := foldl_max ns (max i n)
    simp only [List.foldl_cons]
    refine ⟨?_, Int.le_trans (Int.le_max_left _ _) h2, fun y hy => ?_⟩
    · rcases h1 with h1 | h1
      · rw [h1]
        by_cases c : i ≤ n
        · rw [Int.max_eq_right c]; exact .inr List.mem_cons_self
        · rw [Int.max_eq_left (by omega)]; exact .inl rfl
      · exact .inr (List.mem_cons_of_mem _ h1)
    · rcases List.mem_cons.mp hy with rfl | hy
      · exact Int.le_trans (Int.le_max_right _ _) h2
      · exact h3 y hy
theorem foldl_min : ∀ (ns : List Int) (i : Int), (ns.foldl min i = i ∨ ns.foldl min i ∈ ns) ∧ ns.foldl min i ≤ i ∧ ∀ y ∈ ns, ns.foldl min i ≤ y
  | [], i => ⟨.inl rfl, Int.le_refl _, by simp⟩
  | n :: ns, i => by
    obtain ⟨h1, h2, h3⟩ := foldl_min ns (min i n)
    simp only [List.foldl_cons]
    refine ⟨?_, Int.le_trans h2 (Int.min_le_left _ _), fun y hy => ?_⟩
    · rcases h1 with h1 | h1
      · rw [h1]
        by_cases c : i ≤ n
        · rw [Int.min_eq_left c]; exact .inl rfl
        · rw [Int.min_eq_right (by omega)]; exact .inr List.mem_cons_self
      · exact .inr (List.mem_cons_of_mem _ h1)
    · rcases List.mem_cons.mp hy with rfl | hy
      · exact Int.le_trans h2 (Int.min_le_right _ _)
      · exact h3 y hy
theorem maxG {K : Fr} : UnG K (rMax1 K) dMax1 := by
  intro x G H d rs Q s rx hd k
  obtain ⟨a, bs, e, rfl, h, hf, rfl⟩ := onInts_some s rx hd
  cases bs with
  | nil => cases hf
  | cons i is =>
    cases hf
    refine ⟨a, i :: is, rfl, h, by simp, fun m hm hy => ?_⟩
    obtain ⟨h1, h2, h3⟩ := foldl_max is i
    have e : m = is.foldl max i := by
      have a1 : is.foldl max i ≤ m := by
        rcases h1 with h1 | h1
        · rw [h1]; exact hy _ List.mem_cons_self
        · exact hy _ (List.mem_cons_of_mem _ h1)
      have a2 : m ≤ is.foldl max i := by
        rcases List.mem_cons.mp hm with rfl | hm
        · exact h2
        · exact h3 _ hm
      omega
    rw [e]
    exact k _ G H (Ext.refl s) val_int
theorem minG {K : Fr} : UnG K (rMin1 K) dMin1 := by
  intro x G H d rs Q s rx hd k
  obtain ⟨a, bs, e, rfl, h, hf, rfl⟩ := onInts_some s rx hd
  cases bs with
  | nil => cases hf
  | cons i is =>
    cases hf
    refine ⟨a, i :: is, rfl, h, by simp, fun m hm hy => ?_⟩
    obtain ⟨h1, h2, h3⟩ := foldl_min is i
    have e : m = is.foldl min i := by
      have a1 : m ≤ is.foldl min i := by
        rcases h1 with h1 | h1
        · rw [h1]; exact hy _ List.mem_cons_self
        · exact hy _ (List.mem_cons_of_mem _ h1)
      have a2 : is.foldl min i ≤ m := by
        rcases List.mem_cons.mp hm with rfl | hm
        · exact h2
        · exact h3 _ hm
      omega
    rw [e]
    exact k _ G H (Ext.refl s) val_int
/-- two ints -/
def dII2 (f : Int → Int → Int) : List D → Option Rs
  | [.int i, .int j] => some (.val (.int (f i j)))
  | _ => none
def rII2 (f : Int → Int → Int) : List V → Hp → VK → Prop := fun xs H Q => ∃ i j, xs = [.int i, .int j] ∧ Q (.int (f i j)) H
theorem ii2G {K : Fr} {f : Int → Int → Int} : LsG K (rII2 f) (dII2 f) := by
  intro vs G H ds rs Q s rp hd k
  cases rp with
  | nil => cases hd
  | cons h1 hs =>
    cases hs with
    | nil => rename_i d; cases d <;> cases hd
    | cons h2 hs =>
      cases hs with
      | cons h3 hs => rename_i v d v2 d2 v3 d3 vs ds; cases d <;> cases d2 <;> cases hd
      | nil =>
        rename_i v d v2 d2
        cases d <;> cases d2 <;> first
          | (cases hd; exact ⟨_, _, by rw [rp_int (H := H) (.inl h1), rp_int (H := H) (.inl h2)], k _ G H (Ext.refl s) val_int⟩)
          | cases hd
def fMax (i j : Int) : Int := if j > i then j else i
def fMin (i j : Int) : Int := if j < i then j else i
theorem cr_max2 (hc : X.calm = true) : CallR X (.builtin "max") (rII2 fMax) := call_max2 hc
theorem cr_min2 (hc : X.calm = true) : CallR X (.builtin "min") (rII2 fMin) := call_min2 hc

/-! ### repr, str -/
def sOf (x : String) : Str := Str.ofString x
/-- data whose text is known -/
def tells (d : D) : Bool := d.showable && !d.hasDict && decide (d.shown.length ≤ big) && decide (d.depth ≤ 64)
def dRepr : D → Option Rs
  | .bool b => some (.val (.str (if b then "True" else "False")))
  | .none => some (.val (.str "None"))
  | .int i => if decide (i.natAbs.log2 < 1920) then some (.val (.str (toString i))) else none
  | .tuple ds => if tells (.tuple ds) then some (.val (.str (PyData.shown (.tuple ds)))) else none
  | .list ds => if tells (.list ds) then some (.val (.str (PyData.shown (.list ds)))) else none
  | _ => none
def rRepr1 (K : Fr) : V → Hp → VK → Prop := fun x H Q => (∃ b, x = .bl b ∧ Q (.str (if b then "True" else "False")) H) ∨ (x = .non ∧ Q (.str "None") H) ∨ (∃ i, x = .int i ∧ i.natAbs.log2 < 1920 ∧ Q (.str (toString i)) H) ∨
  ∃ (a : Addr) (d : D), x = .ref a ∧ Dp K.k H x d ∧ tells d = true ∧ Q (.str d.shown) H
theorem cr_repr1 (g : X.A.guards = some []) (hu : X.A.units + 200 < cLine) : CallR X (.builtin "repr") (rB1 (rRepr1 X.wd)) := by
  rintro pins s σ H xs us Q I rr ⟨x, rfl, h⟩
  obtain ⟨u, rfl, ru⟩ := vals1 rr
  rcases h with ⟨i, rfl, q⟩ | ⟨rfl, q⟩ | ⟨i, rfl, hz, q⟩ | ⟨a, d, rfl, hd, ht, q⟩
  · cases (show u = Value.bool i from ru)
    exact PySem.P.repr_of_bool ⟨.str _, H, I.tok _, ⟨_, rfl⟩, q⟩
  · cases (show u = Value.none from ru)
    exact PySem.P.repr_of_none ⟨.str _, H, I.tok _, ⟨_, rfl⟩, q⟩
  · exact SkE.call_repr_int pins s σ H _ _ Q I rr ⟨i, rfl, hz, q⟩
  · obtain ⟨as, hr⟩ := Dp.reads I d _ _ hd ru
    cases (show u = Value.ref a from ru)
    unfold tells at ht
    simp only [Bool.and_eq_true, Bool.not_eq_true', decide_eq_true_eq] at ht
    obtain ⟨⟨⟨h1, h2⟩, h3⟩, h4⟩ := ht
    exact PySem.repr_of_reads' hr h1 (fun e => by rw [h2] at e; cases e) g (by omega) (fun _ _ e => e) (fun h' u tk hk => ⟨.str _, H, I.kept hk, ⟨_, rfl⟩, q⟩) (Nat.le_trans h3 big_line)
theorem reprG {K : Fr} : UnG K (rRepr1 K) dRepr := by
  intro x G H d rs Q s rx hd k
  cases d with
  | bool b => cases hd; exact .inl ⟨b, rp_bool rx, k _ G H (Ext.refl s) val_str⟩
  | none => cases hd; exact .inr (.inl ⟨rp_none rx, k _ G H (Ext.refl s) val_str⟩)
  | int i =>
    have hd' : (if decide (i.natAbs.log2 < 1920) then some (Rs.val (.str (toString i))) else none) = some rs := hd
    obtain ⟨c, hd'⟩ := if_some hd'
    cases hd'
    rw [decide_eq_true_eq] at c
    exact .inr (.inr (.inl ⟨i, rp_int rx, c, k _ G H (Ext.refl s) val_str⟩))
  | tuple ds =>
    have hd' : (if tells (.tuple ds) then some (Rs.val (.str (PyData.shown (.tuple ds)))) else none) = some rs := hd
    obtain ⟨c, hd'⟩ := if_some hd'
    cases hd'
    have q := rx.dq s rfl
    obtain ⟨a, xs, e, _⟩ := rp_tup rx
    exact .inr (.inr (.inr ⟨a, _, e, q.dp, c, k _ G H (Ext.refl s) val_str⟩))
  | list ds =>
    have hd' : (if tells (.list ds) then some (Rs.val (.str (PyData.shown (.list ds)))) else none) = some rs := hd
    obtain ⟨c, hd'⟩ := if_some hd'
    cases hd'
    have q := rx.dq s rfl
    obtain ⟨a, xs, e, _⟩ := rp_lst s rx
    exact .inr (.inr (.inr ⟨a, _, e, q.dp, c, k _ G H (Ext.refl s) val_str⟩))
  | _ => cases hd
end Z
end

section
set_option Elab.async false
set_option linter.all false
set_option maxRecDepth 100000
set_option maxHeartbeats 1000000
/-! Z8: sorted, isinstance. -/
namespace Z
open PySem L2
variable {X : Cx}

/-! ### sorted of a list or a tuple of data -/
section
open PySem.Spec PyProof.Rows
variable {prog : Program} {w : World} {A : Around} {E : Value → Shared → Prop} {s : Shared}
/-- what a list that takes up a sequence looks like -/
theorem take_seq {t : Addr} {T : String} {ob : Obj} {vs : List Value} {m : Nat} {Q : List Value → Shared → Prop} (hT : T = "list" ∨ T = "tuple") (ho : s.heap.get? t = some ob) (hc : ob.cls = .type T) (hd : ob.data = .seq vs.toArray m) (hz : vs.length ≤ sizeLine)
    (h : Q vs { s with heap := (s.heap.push (seqObj "list" #[] 0)).update s.heap.objs.size (Obj.mapSeq (· ++ vs.toArray)) }) : wpAny (model prog w) A (collect (.ref t)) Q E s := by
  have hz' : vs.toArray.size ≤ sizeLine := by rw [List.size_toArray]; exact hz
  have hn : (s.heap.push (seqObj "list" #[] 0)).get? s.heap.objs.size = some (seqObj "list" #[] 0) := Heap.get?_push_size _ rfl
  have hold : (s.heap.push (seqObj "list" #[] 0)).get? t = some ob := Heap.get?_push_of_some _ ho
  have tail : wpAny (model prog w) A (do
      let o ← load s.heap.objs.size
      match o.data with
      | .seq xs _ => pure xs.toList
      | _ => unsupported "internal:collect") Q E { s with heap := (s.heap.push (seqObj "list" #[] 0)).update s.heap.objs.size (Obj.mapSeq (· ++ vs.toArray)) } := by
    refine wpAny_bind (wpAny_load (get?_update_seq hn _) ?_)
    have e : ((#[] : Array Value) ++ vs.toArray).toList = vs := by simp
    show wpAny _ _ (pure ((#[] : Array Value) ++ vs.toArray).toList) Q E _
    rw [e]
    exact wpAny_pure h
  unfold collect
  refine wpAny_bind (wpAny_runValue (codeAny_builtin entry_proto_collect' ?_))
  show wpAny _ _ (newList [] >>= fun l => again (.builtin "list.__iadd__" ⟨[l, .ref t], []⟩)) _ _ s
  refine wpAny_bind (wpAny_newList (wpAny_pure ⟨Code.quiet_builtin _ (by decide +kernel), codeAny_builtin entry_list_iadd' ?_⟩))
  show wpAny _ _ (Builtin.List.listExtendWith (.ref s.heap.objs.size) (.ref t) (.ref s.heap.objs.size)) _ _ { s with heap := s.heap.push (seqObj "list" #[] 0) }
  refine wpAny_mono (wpAny_extend_seq (hsz := hz') (R := fun r s' => r = .ok (.ret (.ref s.heap.objs.size)) ∧ s' = { s with heap := (s.heap.push (seqObj "list" #[] 0)).update s.heap.objs.size (Obj.mapSeq (· ++ vs.toArray)) })
    (s := { s with heap := s.heap.push (seqObj "list" #[] 0) }) s.heap.objs.size t (.ref s.heap.objs.size) 0 hT hn hold hc hd ⟨rfl, rfl⟩) (fun fin s' q => ?_) (fun e s' q => absurd q.1 (by simp))
  cases fin with
  | done f => obtain ⟨e1, rfl⟩ := q; cases e1; exact tail
  | again c => exact ⟨q.1, codeAny_mono q.2 fun r s2 hr => by obtain ⟨rfl, rfl⟩ := hr; exact tail⟩
/-- sorted(xs), xs a list or a tuple -/
theorem sort_seq {t : Addr} {T : String} {ob : Obj} {vs : List Value} {m : Nat} {β : Type} {R : Value → β → Prop} {enc : β → PyData} {bs : List β} {Q : Value → Shared → Prop} (hT : T = "list" ∨ T = "tuple") (ho : s.heap.get? t = some ob) (hc : ob.cls = .type T) (hd : ob.data = .seq vs.toArray m)
    (e : PySem.W.EachIs R vs bs) (er : PySem.W.EachIs (fun v b => ∃ as, Reads s.heap v (enc b) as) vs bs) (hal : PySem.W.AllAlike (bs.map enc)) (hk : PySem.W.Sortable (bs.map enc)) (hL : bs.length ≤ sizeLine) (hu : ∀ b, b ∈ bs → A.units + 2 + (enc b).depth < cLine)
    (h : ∀ out, out.length = bs.length → PySem.W.EachIs R out (bs.mergeSort (PySem.W.dataLe false enc)) → Q (.ref (s.heap.objs.size + 1)) { s with heap := sortedAll s.heap vs (List.toArray out) }) : wpAny (model prog w) A (call (.builtin "sorted") [.ref t]) Q E s := by
  have hz : vs.length ≤ sizeLine := by rw [e.length]; exact hL
  have er' : PySem.W.EachIs (fun v b => ∃ as, Reads (PySem.W.sortingHeap (PySem.W.copyHeap s.heap vs) (s.heap.objs.size + 1) vs) v (enc b) as) vs bs := er.mono fun _ _ ⟨as, r⟩ => ⟨as, PyProof.Rows.Reads.keeps (fun _ _ => PySem.W.sorting_copy_old) r⟩
  refine call_function_entry_kw kind_sorted plain_sorted entry_sorted (args_sorted1 _) ?_
  unfold Builtin.«sorted»
  refine wpAny_bind (m := checkCount "sorted" 1 1 _) (wpAny_pure ?_)
  refine wpAny_bind (take_seq hT ho hc hd hz ?_)
  refine wpAny_bind (wpAny_newList ?_ hz)
  have hsz : ((s.heap.push (seqObj "list" #[] 0)).update s.heap.objs.size (Obj.mapSeq (· ++ vs.toArray))).objs.size = s.heap.objs.size + 1 := by
    rw [Heap.size_update, size_push']
  show wpAny _ _ _ _ _ { s with heap := PySem.W.copyHeap s.heap vs }
  rw [hsz]
  refine wpAny_bind (wpAny_holding (wpAny_call_entry slot_list_sort ⟨_, PySem.W.copyHeap_at s.heap vs, rfl⟩ entry_list_sort ?body (args_list_sort _)))
  case body =>
    have S := PySem.W.SortsAt.data (A := A.in1.in1) (prog := prog) (w := w) (s := { s with heap := PySem.W.sortingHeap (PySem.W.copyHeap s.heap vs) (s.heap.objs.size + 1) vs }) (PySem.W.each_map (R := fun v d => ∃ as, Reads (PySem.W.sortingHeap (PySem.W.copyHeap s.heap vs) (s.heap.objs.size + 1) vs) v d as) enc er') hal hk (PySem.W.bound_map hu)
    refine PySem.W.list_sort_vals (s := { s with heap := PySem.W.copyHeap s.heap vs }) (PySem.W.copyHeap_at s.heap vs) S hz ⟨_, rfl, ?_⟩
    refine wpAny_pure ⟨_, rfl, ?_⟩
    exact h _ (by rw [PySem.W.sortVals_length false rfl]; exact e.length) (PySem.W.sortVals_data false e er' hal)
end
abbrev Pd := V × D
def pdR (v : Value) (p : Pd) : Prop := RelV p.1 v
theorem each_of {K : Fr} {H : Hp} : ∀ {xs : List V} {ds : List D} {its : List Value}, DqAll K.k H xs ds → Vals xs its → PySem.W.EachIs pdR its (xs.zip ds)
  | _, _, _, .nil, .nil => .nil
  | _, _, _, .cons h hs, .cons r rs => .cons r (each_of hs rs)
theorem each_reads {pins : List (Addr × Obj)} {σ : St} {H : Hp} {s : Shared} (I : Inv X pins σ H s) : ∀ {xs : List V} {ds : List D} {its : List Value}, DqAll X.K H xs ds → Vals xs its →
    PySem.W.EachIs (fun v (p : Pd) => ∃ as, Reads s.heap v p.2 as) its (xs.zip ds)
  | _, _, _, .nil, .nil => .nil
  | _, _, _, .cons h hs, .cons r rs => .cons (Dp.reads I _ _ _ h.dp r) (each_reads I hs rs)
theorem zip_snd {K : Fr} {H : Hp} : ∀ {xs : List V} {ds : List D}, DqAll K.k H xs ds → (xs.zip ds).map (·.2) = ds
  | _, _, .nil => rfl
  | _, _, .cons h hs => by simp [zip_snd hs]
theorem zip_mem {K : Fr} {H : Hp} : ∀ {xs : List V} {ds : List D}, DqAll K.k H xs ds → ∀ p ∈ xs.zip ds, Dq K.k H p.1 p.2
  | _, _, .nil, p, h => by simp at h
  | _, _, .cons h hs, p, hp => by
    simp only [List.zip_cons_cons, List.mem_cons] at hp
    rcases hp with rfl | hp
    · exact h
    · exact zip_mem hs p hp
theorem dq_pairs {K : Fr} {H : Hp} : ∀ {l : List Pd}, (∀ p ∈ l, Dq K.k H p.1 p.2) → DqAll K.k H (l.map (·.1)) (l.map (·.2))
  | [], _ => .nil
  | p :: l, h => .cons (h p List.mem_cons_self) (dq_pairs fun q hq => h q (List.mem_cons_of_mem _ hq))
theorem vals_pairs : ∀ {l : List Pd} {out : List Value}, PySem.W.EachIs pdR out l → Vals (l.map (·.1)) out
  | _, _, .nil => .nil
  | _, _, .cons r rs => .cons r (vals_pairs rs)
def tupD : D → Bool
  | .tuple (_ :: _) => true
  | _ => false
def plainD : D → Bool
  | .none => false
  | .tuple _ => false
  | _ => true
def sortsD (ds : List D) : Bool := (ds.all fun d => ds.all fun e => PySem.W.alike d e) && (ds.all tupD || ds.all plainD) && ds.all fun d => decide (d.depth ≤ 64)
def leD : D → D → Bool := PySem.W.dataLe false (fun d : D => d)
def sortD (ds : List D) : List D := ds.mergeSort leD
def dSorted : D → Option Rs
  | .list ds => if sortsD ds then some (.new (.list (sortD ds))) else none
  | .tuple ds => if sortsD ds then some (.new (.list (sortD ds))) else none
  | _ => none
def rSortedD (K : Fr) : V → Hp → VK → Prop := fun x H Q => ∃ a xs ds G, x = .ref a ∧ (SqT K.k H a xs ∨ Rd H a (.lst xs)) ∧ Same G H ∧ DqAll K.k G xs ds ∧ sortsD ds = true ∧ ∀ ys p, H p = none → DqAll K.k G ys (sortD ds) → Q (.ref p) (upd H p (.lst ys))
theorem sortsD_ok {ds : List D} (h : sortsD ds = true) : PySem.W.AllAlike ds ∧ PySem.W.Sortable ds ∧ ∀ d ∈ ds, d.depth ≤ 64 := by
  unfold sortsD at h
  rw [Bool.and_eq_true, Bool.and_eq_true, Bool.or_eq_true] at h
  obtain ⟨⟨h1, h2⟩, h3⟩ := h
  refine ⟨fun d hd e he => List.all_eq_true.mp (List.all_eq_true.mp h1 d hd) e he, ?_, fun d hd => of_decide_eq_true (List.all_eq_true.mp h3 d hd)⟩
  rcases h2 with h2 | h2
  · refine .inl fun d hd => ?_
    have q := List.all_eq_true.mp h2 d hd
    cases d <;> try cases q
    rename_i xs
    cases xs with
    | nil => cases q
    | cons x r => exact ⟨x, r, rfl⟩
  · refine .inr fun d hd => ?_
    have q := List.all_eq_true.mp h2 d hd
    cases d with
    | none => cases q
    | tuple _ => cases q
    | bool _ => exact ⟨(fun z => nomatch z), fun xs z => nomatch z⟩
    | int _ => exact ⟨(fun z => nomatch z), fun xs z => nomatch z⟩
    | str _ => exact ⟨(fun z => nomatch z), fun xs z => nomatch z⟩
    | list _ => exact ⟨(fun z => nomatch z), fun xs z => nomatch z⟩
    | dict _ => exact ⟨(fun z => nomatch z), fun xs z => nomatch z⟩
theorem cr_sorted (hu : X.A.units + 70 < cLine) : CallR X (.builtin "sorted") (rB1 (rSortedD X.wd)) := by
  rintro pins s σ H xs us Q I rr ⟨x, rfl, a, xs, ds, G, rfl, hs, sm, hg, hok, k⟩
  obtain ⟨u, rfl, ru⟩ := vals1 rr
  cases (show u = Value.ref a from ru)
  obtain ⟨o1, o2, o3⟩ := sortsD_ok hok
  have hq : DqAll X.K H xs ds := dpAll_mono (K := X.wd) sm hg
  have go : ∀ (its : List Value) (T : String) (ob : Obj) (n : Nat), T = "list" ∨ T = "tuple" → s.heap.get? a = some ob → ob.cls = .type T → ob.data = .seq its.toArray n → Vals xs its → its.length ≤ sizeLine →
      wpAny (model X.prog X.w) X.A (call (.builtin "sorted") [.ref a]) (EP X pins σ Q) X.xe s := by
    intro its T ob n hT ho hc hd rv hz
    have hz2 : (xs.zip ds).length ≤ sizeLine := by
      rw [List.length_zip, dpAll_len (K := X.wd) hq, Nat.min_self, ← dpAll_len (K := X.wd) hq, rv.length]; exact hz
    have hsn : (xs.zip ds).map (fun p : Pd => p.2) = ds := zip_snd (K := X.wd) hq
    refine sort_seq (enc := fun p : Pd => p.2) hT ho hc hd (each_of (K := X.wd) hq rv) (each_reads I hq rv) (by rw [hsn]; exact o1) (by rw [hsn]; exact o2) hz2 (fun b hb => ?_) fun out hl eo => ?_
    · have := o3 b.2 (by rw [← hsn]; exact List.mem_map.mpr ⟨b, hb, rfl⟩)
      omega
    · generalize em : (xs.zip ds).mergeSort (PySem.W.dataLe false fun p : Pd => p.2) = l at eo
      have hm : ∀ p ∈ l, Dq X.K G p.1 p.2 := fun p hp => zip_mem (K := X.wd) hg p (by rw [← em] at hp; exact (List.mergeSort_perm _ _).mem_iff.mp hp)
      have hl2 : l.map (·.2) = sortD ds := by
        have e : (((xs.zip ds).mergeSort (PySem.W.dataLe false fun p : Pd => p.2)).map fun p : Pd => p.2) = ((xs.zip ds).map fun p : Pd => p.2).mergeSort leD := List.map_mergeSort fun _ _ _ _ => rfl
        rw [em] at e
        rw [e, hsn]
        rfl
      have vo := vals_pairs eo
      have q1 := dq_pairs (K := X.wd) hm
      rw [hl2] at q1
      obtain ⟨ep, he⟩ := PyProof.Rows.sortedAll_at s.heap its out.toArray
      refine ⟨.ref _, upd H (s.heap.objs.size + 1) (.lst (l.map (·.1))), I.laid (t' := s.toks) (fun _ _ => PyProof.Rows.sortedAll_old) (Nat.le_succ _) ⟨?_, out, ep, vo, he⟩, rfl, k _ _ (I.hok.fresh (Nat.le_succ _)) q1⟩
      rw [vo.length, hl]; exact hz2
  rcases hs with hs | hs
  · obtain ⟨its, rv, ⟨o, ho, hc, n, hd⟩, hz⟩ := I.tuple hs
    exact go its "tuple" o n (.inr rfl) ho hc hd rv (by rw [← rv.length]; exact hz)
  · obtain ⟨its, rv, hl, hz⟩ := I.list (.inl hs)
    obtain ⟨o, ho, hc, n, hd⟩ := hl.isList
    exact go its "list" o n (.inl rfl) ho hc hd rv (by rw [← rv.length]; exact hz)
theorem sortedG {K : Fr} : UnG K (rSortedD K) dSorted := by
  intro x G H d rs Q s rx hd k
  have fin : ∀ a xs ds, DqAll K.k G xs ds → (if sortsD ds then some (Rs.new (.list (sortD ds))) else none) = some rs → (SqT K.k H a xs ∨ Rd H a (.lst xs)) → rSortedD K (.ref a) H Q := fun a xs ds h3 hd h2 => by
    obtain ⟨c, hd⟩ := if_some hd
    cases hd
    refine ⟨a, xs, ds, G, rfl, h2, s, h3, c, fun ys p n hy => ?_⟩
    exact k _ G _ (ext_own s n) ⟨p, _, rfl, upd_same, s.free n, n, .lst hy⟩
  cases d with
  | list ds =>
    obtain ⟨a, xs, rfl, h2, h3⟩ := rp_lst s rx
    exact fin a xs ds h3 hd (.inr h2)
  | tuple ds =>
    obtain ⟨a, xs, rfl, h2, h3⟩ := rp_tup rx
    exact fin a xs ds h3 hd (.inl (sqT_mono s h2))
  | _ => cases hd
end Z
end

section
set_option Elab.async false
set_option linter.all false
set_option maxRecDepth 100000
set_option maxHeartbeats 2000000
/-! Z9: sets of tuples of any keys. -/
namespace Z
open PySem L2

/-- an element of a set: a tuple, and the key that it is -/
abbrev El := Value × NestedKey
def NEl (h : Heap) (p : El) : Prop := NestedIs h p.2 p.1 ∧ p.2.depth ≤ 8 ∧ ∃ a, p.1 = .ref a
abbrev elRows (w : World) (L : List El) : List (Int × Value) := L.map fun p => (p.2.hash w, p.1)
abbrev elHash (w : World) (L : List El) : List Int := L.map fun p => p.2.hash w

section
variable {P : Program} {w : World} {A : Around} {E : Value → Shared → Prop} {s : Shared}
mutual
theorem ofA_key : ∀ (k : NestedKey) (v : Value) (n : Nat) (s : Shared), NestedIs s.heap k v → k.depth ≤ n → ∀ (A : Around) (E : Value → Shared → Prop) (Q : Bool → Shared → Prop), Q false s → wpAny (model P w) A (ofAClassStatement n v) Q E s
  | .none, _, n, s, x, _, A, E, Q, q => by cases x; cases n <;> exact wpAny_pure q
  | .num i, _, n, s, x, _, A, E, Q, q => by cases x <;> cases n <;> exact wpAny_pure q
  | .text y, _, n, s, x, _, A, E, Q, q => by cases x; cases n <;> exact wpAny_pure q
  | .tup ks, _, 0, s, x, hn, A, E, Q, q => by rw [NestedKey.depth] at hn; omega
  | .tup ks, _, n + 1, s, x, hn, A, E, Q, q => by
    cases x with
    | tup ho hc hd hi =>
      rename_i a o vs m
      rw [NestedKey.depth] at hn
      unfold ofAClassStatement
      refine wpAny_bind (wpAny_typeOf (T := "tuple") ⟨o, ho, hc⟩ ?_); dsimp only
      have e : (("tuple" : String) == "tuple") = true := by decide
      simp only [e, if_true, Bool.not_true, Bool.false_eq_true, if_false]
      try refine wpAny_bind (wpAny_pure ?_)
      try simp only [Bool.not_true, Bool.false_eq_true, if_false]
      refine wpAny_bind (wpAny_seqItems ho hd ?_); dsimp only
      refine wpAny_bind ?_; show wpAny _ _ (forIn vs _ _) _ _ s; rw [← Array.forIn_toList]
      have all := ofA_keys ks vs.toList n s hi (by omega)
      refine wpAny_forIn_list _ (fun rest r s' => r.1 = none ∧ s' = s ∧ ∀ v ∈ rest, v ∈ vs.toList) _ ?_ ?_ _ _ ⟨rfl, rfl, fun _ z => z⟩
      · rintro v rest r s' ⟨hr, rfl, sub⟩
        refine wpAny_bind (all v (sub v List.mem_cons_self) _ _ _ ?_); simp only [Bool.false_eq_true, if_false]
        exact wpAny_pure ⟨rfl, rfl, fun u hu => sub u (List.mem_cons_of_mem _ hu)⟩
      · rintro ⟨r1, r2⟩ s' ⟨hr, rfl, _⟩; simp only at hr; subst hr; exact wpAny_pure q
theorem ofA_keys : ∀ (ks : List NestedKey) (vs : List Value) (n : Nat) (s : Shared), NestedAll s.heap ks vs → NestedKey.depthAll ks ≤ n → ∀ v ∈ vs, ∀ (A : Around) (E : Value → Shared → Prop) (Q : Bool → Shared → Prop), Q false s → wpAny (model P w) A (ofAClassStatement n v) Q E s
  | [], _, n, s, x, _, v, hv => by cases x; cases hv
  | k :: ks, _, n, s, x, hn, v, hv => by
    cases x with
    | cons x1 x2 =>
      rw [NestedKey.depthAll] at hn
      rcases List.mem_cons.mp hv with rfl | hv
      · exact ofA_key k _ n s x1 (by omega)
      · exact ofA_keys ks _ n s x2 (by omega) v hv
end
mutual
theorem hBy_key : ∀ (k : NestedKey) (v : Value) (n : Nat) (s : Shared), NestedIs s.heap k v → ∀ (A : Around) (E : Value → Shared → Prop) (Q : Bool → Shared → Prop), (∀ b, Q b s) → wpAny (model P w) A (hashByValue n v) Q E s
  | .none, _, n, s, x, A, E, Q, q => by cases x; cases n <;> exact wpAny_pure (q _)
  | .num i, _, n, s, x, A, E, Q, q => by cases x <;> cases n <;> exact wpAny_pure (q _)
  | .text y, _, n, s, x, A, E, Q, q => by cases x; cases n <;> exact wpAny_pure (q _)
  | .tup ks, _, 0, s, x, A, E, Q, q => by cases x; exact wpAny_pure (q _)
  | .tup ks, _, n + 1, s, x, A, E, Q, q => by
    cases x with
    | tup ho hc hd hi =>
      rename_i a o vs m
      unfold hashByValue
      refine wpAny_bind (wpAny_specialOf (T := "tuple") ⟨o, ho, hc⟩ F.slot_tuple_hash.lookup ?_)
      show wpAny _ _ (seqItems? (.ref a) >>= _) _ _ s
      refine wpAny_bind (wpAny_seqItems ho hd ?_)
      refine wpAny_bind ?_; show wpAny _ _ (forIn vs _ _) _ _ s; rw [← Array.forIn_toList]
      have all := hBy_keys ks vs.toList n s hi
      refine wpAny_forIn_list _ (fun rest r s' => r.1 = none ∧ s' = s ∧ ∀ v ∈ rest, v ∈ vs.toList) _ ?_ ?_ _ _ ⟨rfl, rfl, fun _ z => z⟩
      · rintro v rest r s' ⟨hr, rfl, sub⟩
        refine wpAny_bind (all v (sub v List.mem_cons_self) _ _ _ fun b => ?_)
        cases b with
        | true => simp only [Bool.not_true, Bool.false_eq_true, if_false]; exact wpAny_pure ⟨rfl, rfl, fun u hu => sub u (List.mem_cons_of_mem _ hu)⟩
        | false => simp only [Bool.not_false, if_true]; exact wpAny_pure (wpAny_pure (q _))
      · rintro ⟨r1, r2⟩ s' ⟨hr, rfl, _⟩; simp only at hr; subst hr; exact wpAny_pure (q _)
theorem hBy_keys : ∀ (ks : List NestedKey) (vs : List Value) (n : Nat) (s : Shared), NestedAll s.heap ks vs → ∀ v ∈ vs, ∀ (A : Around) (E : Value → Shared → Prop) (Q : Bool → Shared → Prop), (∀ b, Q b s) → wpAny (model P w) A (hashByValue n v) Q E s
  | [], _, n, s, x, v, hv => by cases x; cases hv
  | k :: ks, _, n, s, x, v, hv => by
    cases x with
    | cons x1 x2 =>
      rcases List.mem_cons.mp hv with rfl | hv
      · exact hBy_key k _ n s x1
      · exact hBy_keys ks _ n s x2 v hv
end
/-- looking for an element shows nothing -/
theorem seen_key {x : El} (hx : NEl s.heap x) {ys : List Value} (hy : ∀ y ∈ ys, ∃ k, NEl s.heap (y, k)) {Q : Bool → Shared → Prop} (q : Q false s) : wpAny (model P w) A (searchCouldBeSeen x.1 ys) Q E s := by
  obtain ⟨xv, xk⟩ := x
  obtain ⟨x1, x2, a, xe⟩ := hx
  simp only at x1 x2 xe
  subst xe
  unfold searchCouldBeSeen
  refine wpAny_bind ?_
  refine wpAny_forIn_list _ (fun rest r s' => r.1 = none ∧ s' = s ∧ ∀ y ∈ rest, y ∈ ys) _ ?_ ?_ _ _ ⟨rfl, rfl, fun _ z => z⟩
  · rintro v rest r s' ⟨hr, rfl, sub⟩
    have sub' : ∀ y ∈ rest, y ∈ ys := fun u hu => sub u (List.mem_cons_of_mem _ hu)
    obtain ⟨k, y1, y2, b, ye⟩ := hy v (sub v List.mem_cons_self)
    simp only at y1 y2 ye
    subst ye
    dsimp only
    by_cases hv : (a == b || (carriedByValue (.ref a) && carriedByValue (.ref b))) = true
    · exact wp_if_pos hv (wpAny_pure ⟨rfl, rfl, sub'⟩)
    · refine wp_if_neg hv (wpAny_bind (quiet_key xk _ 8 _ x1 x2 A _ _ ?_)); simp only [Bool.not_true, Bool.false_eq_true, if_false]
      refine wpAny_bind (quiet_key k _ 8 _ y1 y2 A _ _ ?_); simp only [Bool.not_true, Bool.false_eq_true, if_false]
      refine wpAny_bind (ofA_key xk _ 8 _ x1 x2 _ _ _ ?_); simp only [Bool.false_eq_true, if_false]
      refine wpAny_bind (ofA_key k _ 8 _ y1 y2 _ _ _ ?_); simp only [Bool.false_eq_true, if_false]
      exact wpAny_pure ⟨rfl, rfl, sub'⟩
  · rintro ⟨r1, r2⟩ s' ⟨hr, rfl, _⟩; simp only at hr; subst hr; exact wpAny_pure q

/-! ### the set -/
structure SetN (w : World) (h : Heap) (a : Addr) (L : List El) (es : Array (Int × Value)) (ep : Nat) (t : SetTable) : Prop where
  ob : ∃ o, h.get? a = some o ∧ o.ExactSet ∧ o.data = .set es ep t
  rows : es.toList = elRows w L
  tab : TabOk t (elHash w L)
  nd : (L.map (·.2)).Nodup
  el : ∀ p ∈ L, NEl h p
  led : w.params.followText "set-order" = true ∨ t.led = true
  room : L.length * 5 < t.mask * 3
  few : L.length < 64
theorem rows_size {L : List El} {es : Array (Int × Value)} (h : es.toList = elRows w L) : es.size = L.length := by
  rw [← Array.length_toList, h, List.length_map]
theorem rows_at {L : List El} {es : Array (Int × Value)} (h : es.toList = elRows w L) {i : Nat} {p : El} (e : L[i]? = some p) : es[i]? = some (p.2.hash w, p.1) := by
  rw [← Array.getElem?_toList, h, List.getElem?_map, e]; rfl
variable {a : Addr} {L : List El} {es : Array (Int × Value)} {ep : Nat} {t : SetTable}
theorem SetN.fits (R : SetN w s.heap a L es ep t) : t.fits es.size = true := by
  have h1 := R.tab.sz
  rw [List.length_map] at h1
  have h2 := rows_size R.rows
  have h3 := R.room
  have h4 : t.place.size = es.size ∧ t.place.size + 0 ≤ t.mask := by omega
  unfold SetTable.fits SetTable.fill
  rw [R.tab.dm, Bool.and_eq_true, beq_iff_eq, decide_eq_true_eq]
  exact h4
theorem SetN.odd (R : SetN w s.heap a L es ep t) : ¬ t.gaveWay = true := by
  unfold SetTable.gaveWay; rw [mask_odd R.tab.mok]; decide
/-- the start of a search for a hash, its n-th step -/
abbrev pr0 (m : Nat) (h : Int) : SetTable.Probe := runAt m (SetTable.bits h % (m + 1)) (SetTable.bits h)
theorem nth_plain (m : Nat) : ∀ (n : Nat) (p : SetTable.Probe), p.dummy = none → (nth m p n).dummy = none
  | 0, p, h => h
  | n + 1, p, h => nth_plain m n (adv m p) (by unfold adv; split <;> exact h)
theorem find_from (R : SetN w s.heap a L es ep t) {x : El} (hx : NEl s.heap x) (hu : A.units + 8 < cLine) {K : Nat} (hKf : K < 10 * SetTable.turns t.mask)
    (hK : way t.mask (x.2.hash w) K ∉ t.place.toList) (hKb : ∀ c, c < K → way t.mask (x.2.hash w) c ∈ t.place.toList) {Q : SetFound → Shared → Prop}
    (hin : x.2 ∈ L.map (·.2) → Q (.there none) s) (hout : x.2 ∉ L.map (·.2) → Q (.free (way t.mask (x.2.hash w) K) false) s) :
    ∀ (f c : Nat) (stand : Option SetTable.Probe), stand.getD (t.probeStart (x.2.hash w)) = nth t.mask (pr0 t.mask (x.2.hash w)) c → c ≤ K → K - c < f →
      (∀ (i : Nat) p, L[i]? = some p → p.2 = x.2 → ∃ c', c ≤ c' ∧ c' < K ∧ t.place.toList[i]? = some (way t.mask (x.2.hash w) c')) →
      wpAny (model P w) A (setSearchFrom a x.1 (x.2.hash w) true f stand) Q E s
  | 0, c, stand, _, _, hf, _ => absurd hf (Nat.not_lt_zero _)
  | f + 1, c, stand, hst, hc, hf, hre => by
    obtain ⟨o, ho, hex, hd⟩ := R.ob
    rw [setSearchFrom_succ]
    refine wpAny_bind (wpAny_setState_of ho hd R.fits ?_); dsimp only
    refine wp_if_neg R.odd ?_
    try refine wpAny_bind (wpAny_pure ?_)
    have sh : ∀ q, nth t.mask (nth t.mask (pr0 t.mask (x.2.hash w)) c) q = nth t.mask (pr0 t.mask (x.2.hash w)) (c + q) := fun q => (nth_add t.mask c _ q).symm
    have e1 : ∀ q, (nth t.mask (nth t.mask (pr0 t.mask (x.2.hash w)) c) q).j = way t.mask (x.2.hash w) (c + q) := fun q => congrArg SetTable.Probe.j (sh q)
    have eK : c + (K - c) = K := by omega
    have spec := go_spec t R.tab.ris R.tab.dm (fun i => (es[i]?.map (·.1)).getD 0) (x.2.hash w) (10 * SetTable.turns t.mask) (K - c) _ (nth_plain t.mask c (pr0 t.mask (x.2.hash w)) rfl) (by omega)
      (fun q hq => by rw [e1]; exact hKb (c + q) (by omega)) (by rw [e1, eK]; exact hK)
    have hashAt : ∀ (i : Nat) p, L[i]? = some p → (es[i]?.map (·.1)).getD 0 = p.2.hash w := fun i p hp => by
      have q := rows_at R.rows hp
      simp only [q, Option.map_some, Option.getD_some]
    rcases spec with ⟨q, i, hq, hi, hh, hno, hpr⟩ | ⟨hno, hpr⟩
    · have hpr' : t.probe (fun i => (es[i]?.map (·.1)).getD 0) (x.2.hash w) (stand.getD (t.probeStart (x.2.hash w))) = some (.candidate (way t.mask (x.2.hash w) (c + q)) i (nth t.mask (pr0 t.mask (x.2.hash w)) (c + (q + 1)))) := by
        rw [hst, ← e1, ← sh]; exact hpr
      rw [hpr']; dsimp only
      rw [e1] at hi
      have hil : i < L.length := by
        have h1 : i < t.place.toList.length := (List.getElem?_eq_some_iff.mp hi).1
        have h2 := R.tab.sz
        rw [List.length_map] at h2; rw [Array.length_toList] at h1; omega
      obtain ⟨p, hp⟩ : ∃ p, L[i]? = some p := ⟨_, List.getElem?_eq_getElem hil⟩
      have hmem : p ∈ L := List.mem_of_getElem? hp
      have hpt := R.el p hmem
      have rest : wpAny (model P w) A (searchRest a x.1 (x.2.hash w) true f es t (way t.mask (x.2.hash w) (c + q)) i (nth t.mask (pr0 t.mask (x.2.hash w)) (c + (q + 1)))) Q E s := by
        unfold searchRest
        rw [rows_at R.rows hp]; dsimp only
        have eqb : ∀ {A' : Around} {Q' : Bool → Shared → Prop}, A'.units + 8 < cLine → Q' (decide (p.2 = x.2)) s → wpAny (model P w) A' (eqBool p.1 x.1) Q' E s := fun hu' q => by
          have := hpt.2.1
          refine eqAt_key p.2 x.2 _ s _ _ hpt.1 hx.1 (by omega) _ _ _ _ ?_
          rw [← NestedKey.decide_eq]; exact q
        refine wpAny_bind (wpAny_holding (eqb hu ?_))
        refine wpAny_bind (wpAny_setState_of ho hd R.fits ?_); dsimp only
        by_cases hkk : p.2 = x.2
        · exact wp_if_pos (by simp [hkk]) (wpAny_pure (hin (List.mem_map.mpr ⟨p, hmem, hkk⟩)))
        · refine wp_if_neg (by simp [hkk]) ?_
          try refine wpAny_bind (wpAny_pure ?_)
          rw [sameMem]; dsimp only
          have hsl : t.slot (way t.mask (x.2.hash w) (c + q)) = .live i := slot_live R.tab.ris hi
          simp only [if_true, hsl, rows_at R.rows hp]
          obtain ⟨pa, pe⟩ := hpt.2.2
          rw [pe]
          refine wpAny_bind (wpAny_isSame_ref_self (wpAny_bind (wpAny_pure ?_))); simp only [if_true]
          refine wp_if_neg (by simp [hkk]) ?_
          refine find_from R hx hu hKf hK hKb hin hout f (c + (q + 1)) _ rfl (by omega) (by omega) fun i0 p0 h0 hk0 => ?_
          obtain ⟨c', a1, a2, a3⟩ := hre i0 p0 h0 hk0
          refine ⟨c', ?_, a2, a3⟩
          rcases Nat.lt_trichotomy c' (c + q) with z | z | z
          · exfalso
            refine hno (c' - c) i0 (by omega) (by rw [e1, show c + (c' - c) = c' by omega]; exact a3) ?_
            rw [hashAt i0 p0 h0, hk0]
          · exfalso
            rw [z] at a3
            have s0 := slot_live R.tab.ris a3
            rw [hsl] at s0
            injection s0 with s0
            rw [← s0, hp] at h0
            exact hkk ((congrArg Prod.snd (Option.some.inj h0)).trans hk0)
          · omega
      by_cases hl : t.led = true
      · refine wp_if_neg (by simp [hl]) ?_
        try refine wpAny_bind (wpAny_pure ?_)
        exact rest
      · refine wp_if_pos (by simp [hl]) (wpAny_bind (seen_key hx (fun y hy => ?_) ?_))
        · obtain ⟨e, he, ee⟩ := List.mem_map.mp hy
          have he1 : e ∈ es ∧ e.1 = x.2.hash w := by simpa using he
          have he2 : e ∈ es.toList := by simpa using he1.1
          rw [R.rows] at he2
          obtain ⟨p2, hp2, e2⟩ := List.mem_map.mp he2
          refine ⟨p2.2, ?_⟩
          rw [← ee, ← e2]; exact R.el p2 hp2
        · refine wp_if_neg (by decide) ?_
          try refine wpAny_bind (wpAny_pure ?_)
          exact rest
    · have hpr' : t.probe (fun i => (es[i]?.map (·.1)).getD 0) (x.2.hash w) (stand.getD (t.probeStart (x.2.hash w))) = some (.empty (way t.mask (x.2.hash w) K) none) := by
        have e2 : way t.mask (x.2.hash w) K = (nth t.mask (nth t.mask (pr0 t.mask (x.2.hash w)) c) (K - c)).j := by rw [e1, eK]
        rw [hst, e2]; exact hpr
      rw [hpr']; dsimp only
      refine wpAny_pure (hout fun hm => ?_)
      obtain ⟨p0, h0, hk0⟩ := List.mem_map.mp hm
      obtain ⟨i0, hi0⟩ := List.mem_iff_getElem?.mp h0
      obtain ⟨c', a1, a2, a3⟩ := hre i0 p0 hi0 hk0
      refine hno (c' - c) i0 (by omega) (by rw [e1, show c + (c' - c) = c' by omega]; exact a3) ?_
      rw [hashAt i0 p0 hi0, hk0]
theorem find_at (R : SetN w s.heap a L es ep t) {x : El} (hx : NEl s.heap x) (hu : A.units + 8 < cLine) {Q : SetFound → Shared → Prop} (hin : x.2 ∈ L.map (·.2) → Q (.there none) s)
    (hout : ∀ K, x.2 ∉ L.map (·.2) → way t.mask (x.2.hash w) K ∉ t.place.toList → (∀ c, c < K → way t.mask (x.2.hash w) c ∈ t.place.toList) → Q (.free (way t.mask (x.2.hash w) K) false) s) :
    wpAny (model P w) A (setSearch a x.1 (x.2.hash w) true) Q E s := by
  have hroom := R.room
  obtain ⟨K, hKf, hK, hKb⟩ := R.tab.first (by rw [List.length_map]; omega) (x.2.hash w)
  have hbig : K < 100000 := by
    have : 10 * SetTable.turns t.mask ≤ 1420 := by
      unfold SetTable.turns
      rcases R.tab.mok with e | e | e <;> omega
    omega
  unfold setSearch
  refine find_from R hx hu hKf hK hKb hin (fun hn => hout K hn hK hKb) 100000 0 none rfl (Nat.zero_le _) (by omega) fun i p hp hk => ?_
  have hi : (elHash w L)[i]? = some (x.2.hash w) := by rw [List.getElem?_map, hp, ← hk]; rfl
  have hil : i < t.place.toList.length := by
    have h1 : i < L.length := (List.getElem?_eq_some_iff.mp hp).1
    have h2 := R.tab.sz
    rw [List.length_map] at h2
    rw [Array.length_toList]; omega
  have hj := List.getElem?_eq_getElem hil
  obtain ⟨c, hc, e⟩ := R.tab.before hK hi hj
  exact ⟨c, Nat.zero_le _, hc, by rw [hj, e]⟩
end
end Z
end

section
set_option Elab.async false
set_option linter.all false
set_option maxRecDepth 100000
set_option maxHeartbeats 2000000
/-! ZA: adding to a set; set(..) of a sequence; how many it holds. -/
namespace Z
open PySem L2
section
variable {P : Program} {w : World} {A : Around} {E : Value → Shared → Prop} {s : Shared}
theorem nEl_same {h h' : Heap} {x : El} {a : Addr} {o : Obj} {es : Array (Int × Value)} {ep : Nat} {t : SetTable} (hx : NEl h x) (ho : h.get? a = some o) (hd : o.data = .set es ep t) (hs : Heap.SameBut a h h') : NEl h' x :=
  ⟨NestedIs.at (fun b ob vs n hb hc => (hs.2 b fun e => by subst e; rw [ho] at hb; cases hb; rw [hd] at hc; cases hc).trans hb) _ _ hx.1, hx.2⟩
theorem nEl_keep {h h' : Heap} {x : El} (hx : NEl h x) (hk : ∀ c o, h.get? c = some o → h'.get? c = some o) : NEl h' x := ⟨NestedIs.at (fun b ob vs n hb _ => hk b ob hb) _ _ hx.1, hx.2⟩
/-- rows laid in another order -/
theorem rows_order (L : List El) (es : Array (Int × Value)) (order : Array Nat) (hr : es.toList = elRows w L) (hp : order.toList.Perm (List.range L.length)) :
    ∃ L2, (order.filterMap (es[·]?)).toList = elRows w L2 ∧ L2.Perm L ∧ elHash w L2 = order.toList.map fun i => (es.map (·.1)).getD i 0 := by
  have ent : ∀ i (h : i < L.length), es[i]? = some ((L[i]).2.hash w, (L[i]).1) := fun i h => rows_at hr (List.getElem?_eq_getElem h)
  have hsz := rows_size hr
  have main : ∀ l : List Nat, (∀ i ∈ l, i < L.length) → l.filterMap (fun i => es[i]?) = elRows w (l.filterMap fun i => L[i]?) ∧ elHash w (l.filterMap fun i => L[i]?) = l.map fun i => (es.map (·.1)).getD i 0 := by
    intro l
    induction l with
    | nil => exact fun _ => ⟨rfl, rfl⟩
    | cons i l ih =>
      intro hl
      have hi := hl i List.mem_cons_self
      obtain ⟨e1, e3⟩ := ih fun j hj => hl j (List.mem_cons_of_mem _ hj)
      have g := List.getElem?_eq_getElem hi
      refine ⟨?_, ?_⟩
      · rw [List.filterMap_cons_some (ent i hi), List.filterMap_cons_some g, e1]; rfl
      · rw [List.filterMap_cons_some g, List.map_cons, ← e3]
        have e5 : (es.map (·.1))[i]? = some ((L[i]).2.hash w) := by rw [Array.getElem?_map, ent i hi]; rfl
        have e4 : (es.map (·.1)).getD i 0 = (L[i]).2.hash w := by simp [Array.getD_eq_getD_getElem?, e5]
        rw [e4]; rfl
  obtain ⟨e1, e3⟩ := main order.toList fun i hi => List.mem_range.mp (hp.mem_iff.mp hi)
  refine ⟨order.toList.filterMap fun i => L[i]?, by simpa using e1, ?_, e3⟩
  have full : ∀ n, n ≤ L.length → (List.range n).filterMap (fun i => L[i]?) = L.take n := by
    intro n
    induction n with
    | zero => exact fun _ => rfl
    | succ n ih =>
      intro hn
      have hlt : n < L.length := hn
      rw [List.range_succ, List.filterMap_append, ih (Nat.le_of_lt hlt), List.take_succ, List.getElem?_eq_getElem hlt, List.filterMap_cons_some (List.getElem?_eq_getElem hlt)]; rfl
  have h1 := hp.filterMap fun i => L[i]?
  rw [full L.length (Nat.le_refl _), List.take_length] at h1
  exact h1
variable {a : Addr} {L : List El} {es : Array (Int × Value)} {ep : Nat} {t : SetTable}
theorem lay_anew {o : Obj} (ho : s.heap.get? a = some o) (hex : o.ExactSet) (hd : o.data = .set es ep t) (hrows : es.toList = elRows w L) (hsz : t.place.size = es.size) (hdm : t.dummies = #[]) (hfl : es.size ≤ t.mask)
    (nd : (L.map (·.2)).Nodup) (el : ∀ p ∈ L, NEl s.heap p) (ld : w.params.followText "set-order" = true ∨ t.led = true) (few : L.length < 64) {wanted M : Nat}
    (hw : SetTable.sizeAbove wanted - 1 = M) (hM : MaskOk M) (hw2 : SetTable.sizeAbove wanted ≤ 128) (hn : L.length * 5 < M * 3) {Q : Unit → Shared → Prop}
    (hQ : ∀ h' L' es' ep' t', Heap.SameBut a s.heap h' → SetN w h' a L' es' ep' t' → L'.Perm L → Q () { s with heap := h' }) : wpAny (model P w) A (setRelay a wanted) Q E s := by
  have hsl := rows_size hrows
  have hfits : t.fits es.size = true := by
    have h4 : t.place.size = es.size ∧ t.place.size + 0 ≤ t.mask := by omega
    unfold SetTable.fits SetTable.fill
    rw [hdm, Bool.and_eq_true, beq_iff_eq, decide_eq_true_eq]
    exact h4
  obtain ⟨t', order, e, hp, T, em, el', ep', ed⟩ := relaid_ok t (hs := es.map (·.1)) (wanted := wanted) hw hM (by rw [Array.size_map, hsl]; omega)
  rw [Array.size_map, hsl] at hp
  obtain ⟨L2, r1, r2, r3⟩ := rows_order L es order hrows hp
  rw [← r3] at T
  have hs2 : (order.filterMap (es[·]?)).size = es.size := by rw [rows_size r1, r2.length_eq, hsl]
  rw [setRelay_eq]
  refine wpAny_bind (wpAny_setState_of ho hd hfits ?_); dsimp only
  refine wp_if_neg (by rw [sizeLine_eq]; omega) ?_
  try refine wpAny_bind (wpAny_pure ?_)
  rw [e]; dsimp only
  refine wpAny_bind ?_
  refine wp_if_neg (by rw [hs2]; simp) ?_
  try refine wpAny_bind (wpAny_pure ?_)
  refine wpAny_pure ?_; dsimp only
  refine wpAny_storeSet_of ho hd ?_ (by rw [hs2, hsl, sizeLine_eq]; omega)
  have sb : Heap.SameBut a s.heap (s.heap.update a (Obj.putSet (order.filterMap (es[·]?)) t')) := Heap.SameBut.update ..
  refine hQ _ L2 (order.filterMap (es[·]?)) (ep + 1) t' sb ⟨⟨_, store_at ho hd, ⟨hex.1, hex.2.1, hex.2.2⟩, rfl⟩, r1, T, (r2.map (·.2)).nodup_iff.mpr nd, fun p hpm => nEl_same (el p (r2.mem_iff.mp hpm)) ho hd sb, by rw [el']; exact ld, ?_, by rw [r2.length_eq]; exact few⟩ r2
  rw [r2.length_eq, em]; exact hn
/-- an element added -/
theorem add_key (R : SetN w s.heap a L es ep t) {x : El} (hx : NEl s.heap x) (hu : A.units + 8 < cLine) (hfew : L.length + 1 < 64) {Q : Bool → Shared → Prop}
    (hQ : ∀ b h' L' es' ep' t', Heap.SameBut a s.heap h' → SetN w h' a L' es' ep' t' → (x.2 ∈ L.map (·.2) → L' = L) → (x.2 ∉ L.map (·.2) → L'.Perm (x :: L)) → Q b { s with heap := h' }) :
    wpAny (model P w) A (setAddHashed a x.1 (x.2.hash w)) Q E s := by
  obtain ⟨o, ho, hex, hd⟩ := R.ob
  have hsl := rows_size R.rows
  have hroom := R.room
  unfold setAddHashed
  refine wpAny_holding ?_
  rw [show (100000 : Nat) = 99999 + 1 from rfl, setAddHashedIn_succ]
  refine wpAny_bind (wpAny_setState_of ho hd R.fits ?_); dsimp only
  have nscan : ¬ byScan x.1 es = true := by
    obtain ⟨b, e⟩ := hx.2.2
    rw [e]; simp [byScan, Value.scannable]
  refine wp_if_neg nscan ?_
  try refine wpAny_bind (wpAny_pure ?_)
  refine wpAny_bind (find_at R hx hu (fun hm => ?_) fun K hm hK hb => ?_)
  · exact wpAny_pure (hQ false s.heap L es ep t (Heap.SameBut.refl a s.heap) R (fun _ => rfl) fun z => absurd hm z)
  · dsimp only
    refine wpAny_bind (wpAny_setState_of ho hd R.fits ?_); dsimp only
    obtain ⟨q1, q2, q3, q4, q5, q6, q7, q8, q9⟩ := R.tab.put hK hb
    generalize hpt : t.put (way t.mask (x.2.hash w) K) = pt at q1 q3 q4 q5 q6 q7 q8 q9 ⊢
    obtain ⟨t1, p⟩ := pt
    dsimp only at q1 q3 q4 q5 q6 q7 q8 q9 ⊢
    subst q1
    have hin : (SetTable.insertAt es (SetTable.below t.place (way t.mask (x.2.hash w) K)) (x.2.hash w, x.1)).toList = elRows w (L.take (SetTable.below t.place (way t.mask (x.2.hash w) K)) ++ x :: L.drop (SetTable.below t.place (way t.mask (x.2.hash w) K))) := by
      rw [SetTable.toList_insertAt, R.rows]; unfold elRows; rw [List.map_append, List.map_cons, List.map_take, List.map_drop]
    generalize hpp : SetTable.below t.place (way t.mask (x.2.hash w) K) = p at q2 q3 hin ⊢
    have pm := put_perm L p x
    have hlen : (L.take p ++ x :: L.drop p).length = L.length + 1 := pm.length_eq
    have hhs : elHash w (L.take p ++ x :: L.drop p) = (elHash w L).take p ++ x.2.hash w :: (elHash w L).drop p := by
      unfold elHash; rw [List.map_append, List.map_cons, List.map_take, List.map_drop]
    rw [← hhs] at q3
    have nd1 : ((L.take p ++ x :: L.drop p).map (·.2)).Nodup := by
      refine (pm.map (·.2)).nodup_iff.mpr ?_
      rw [List.map_cons]; exact List.nodup_cons.mpr ⟨hm, R.nd⟩
    have hes : (SetTable.insertAt es p (x.2.hash w, x.1)).size = L.length + 1 := by rw [rows_size hin, hlen]
    generalize SetTable.insertAt es p (x.2.hash w, x.1) = es1 at hin hes ⊢
    generalize L.take p ++ x :: L.drop p = L1 at pm hlen q3 nd1 hin
    -- the rest, whatever becomes of the mark
    have tail : ∀ t2 : SetTable, t2.place = t1.place → t2.mask = t1.mask → t2.dummies = t1.dummies → t2.led = t1.led → t2.tooFull = t1.tooFull → TabOk t2 (elHash w L1) →
        wpAny (model P w) A (do
          storeSet a es1 t2
          if !false && t2.tooFull then setRelay a (SetTable.grown (es.size + 1))
          return true) Q E s := by
      intro t2 z1 z2 z3 z4 z5 z6
      refine wpAny_bind (wpAny_storeSet_of ho hd ?_ (by rw [hes, sizeLine_eq]; omega))
      have sb : Heap.SameBut a s.heap (s.heap.update a (Obj.putSet es1 t2)) := Heap.SameBut.update ..
      have ho1 := store_at (es' := es1) (t' := t2) ho hd
      generalize s.heap.update a (Obj.putSet es1 t2) = h1 at sb ho1 ⊢
      have el1 : ∀ p ∈ L1, NEl h1 p := fun p hp => by
        rcases List.mem_cons.mp (pm.mem_iff.mp hp) with e | hp
        · rw [e]; exact nEl_same hx ho hd sb
        · exact nEl_same (R.el p hp) ho hd sb
      have ld1 : w.params.followText "set-order" = true ∨ t2.led = true := by rw [z4, q5]; exact R.led
      have hmk : t2.mask = t.mask := z2.trans q4
      have tf : t2.tooFull = decide ((L.length + 1) * 5 ≥ t.mask * 3) := by
        rw [z5]; unfold SetTable.tooFull; rw [q9, List.length_map, q4]
      by_cases hf : t2.tooFull = true
      · first
          | (refine wpAny_bind ?_; refine wp_if_pos (by simp [hf]) ?_)
          | (refine wp_if_pos (by simp [hf]) ?_; refine wpAny_bind ?_)
        have hfull : (L.length + 1) * 5 ≥ t.mask * 3 := by rw [tf, decide_eq_true_eq] at hf; exact hf
        rw [hsl]
        have hsz1 : t2.place.size = es1.size := by
          have h := z6.sz
          rw [List.length_map, hlen] at h
          rw [h, hes]
        have cases2 : (t.mask = 7 ∧ L.length = 4) ∨ (t.mask = 31 ∧ L.length = 18) := by
          rcases R.tab.mok with e | e | e <;> rw [e] at hroom hfull
          · exact .inl ⟨e, by omega⟩
          · exact .inr ⟨e, by omega⟩
          · omega
        have go : ∀ M, SetTable.sizeAbove (SetTable.grown (L.length + 1)) - 1 = M → MaskOk M → SetTable.sizeAbove (SetTable.grown (L.length + 1)) ≤ 128 → (L.length + 1) * 5 < M * 3 →
            wpAny (model P w) A (setRelay a (SetTable.grown (L.length + 1))) (fun _ s' => wpAny (model P w) A (pure true) Q E s') E { s with heap := h1 } := fun M y1 y2 y3 y4 =>
          lay_anew (s := { s with heap := h1 }) ho1 ⟨hex.1, hex.2.1, hex.2.2⟩ rfl hin hsz1 z6.dm (by rw [hes, hmk]; rcases cases2 with ⟨e, e2⟩ | ⟨e, e2⟩ <;> omega) nd1 el1 ld1 (by rw [hlen]; exact hfew) y1 y2 y3 (by rw [hlen]; exact y4)
            fun h2 L2 es2 ep2 t3 sb2 R2 pm2 => wpAny_pure (hQ true h2 L2 es2 ep2 t3 (sb.trans sb2) R2 (fun z => absurd z hm) fun _ => pm2.trans pm)
        rcases cases2 with ⟨_, e2⟩ | ⟨_, e2⟩
        · exact go 31 (by rw [e2, size_20]) (.inr (.inl rfl)) (by rw [e2, size_20]; decide) (by omega)
        · exact go 127 (by rw [e2, size_76]) (.inr (.inr rfl)) (by rw [e2, size_76]; decide) (by omega)
      · first
          | refine wp_if_neg (by simp [hf]) ?_
          | (refine wpAny_bind ?_; refine wp_if_neg (by simp [hf]) ?_; refine wpAny_pure ?_)
        refine wpAny_pure (hQ true h1 L1 es1 (ep + 1) t2 sb ⟨⟨_, ho1, ⟨hex.1, hex.2.1, hex.2.2⟩, rfl⟩, hin, z6, nd1, el1, ld1, ?_, by rw [hlen]; exact hfew⟩ (fun z => absurd z hm) fun _ => pm)
        rw [tf, decide_eq_true_eq] at hf
        rw [hlen, hmk]; omega
    have out : ∀ b : Bool, wpAny (model P w) A (do
          let t := if b then t1 else { t1 with plain := false }
          storeSet a es1 t
          if !false && t.tooFull then setRelay a (SetTable.grown (es.size + 1))
          return true) Q E s := fun b => by
      cases b with
      | true => exact tail t1 rfl rfl rfl rfl rfl q3
      | false => exact tail { t1 with plain := false } rfl rfl rfl rfl rfl ⟨q3.ris, q3.dm, q3.sz, q3.mok, q3.bd, q3.reach⟩
    by_cases hpl : t1.plain = true
    · first
        | (refine wpAny_bind ?_; refine wp_if_pos hpl ?_; exact hBy_key _ _ _ _ hx.1 _ _ _ fun b => out b)
        | exact wp_if_pos hpl (wpAny_bind (hBy_key _ _ _ _ hx.1 _ _ _ fun b => out b))
    · first
        | (refine wpAny_bind ?_; refine wp_if_neg hpl ?_; exact wpAny_pure (out true))
        | exact wp_if_neg hpl (wpAny_bind (wpAny_pure (out true)))
end
end Z
end

section
set_option Elab.async false
set_option linter.all false
set_option maxRecDepth 100000
set_option maxHeartbeats 4000000
/-! ZB: set(..) of a list or a tuple, by what adding does. -/
namespace Z
open PySem L2
/-- a set just made -/
abbrev fset (w : World) : Obj := { cls := .type "set", dict := none, data := .set #[] 0 (.fresh 0 0 (!w.params.followText "set-order")) }
/-- what becomes of the set at S while the items are added; T i: the first i are in -/
structure Fills (P : Program) (w : World) (h0 : Heap) (S : Addr) (items : Array Value) (T : Nat → Heap → Prop) : Prop where
  zero : ∀ h', (∀ b o, h0.get? b = some o → h'.get? b = some o) → h'.get? S = some (fset w) → T 0 h'
  keep : ∀ i h h', T i h → (∀ o, h.get? S = some o → h'.get? S = some o) → (∀ b o, h0.get? b = some o → h'.get? b = some o) → T i h'
  add : ∀ (i : Nat) (v : Value) (s : Shared) (A : Around) (E : Value → Shared → Prop) (Q : Bool → Shared → Prop), items[i]? = some v → T i s.heap → (∀ b o, h0.get? b = some o → s.heap.get? b = some o) → A.units + 8 < cLine →
    (∀ b h' tk, Heap.SameBut S s.heap h' → T (i + 1) h' → s.toks ≤ tk → Q b { s with heap := h', toks := tk }) → wpAny (model P w) A (setAdd S v) Q E s
section
variable {P : Program} {w : World} {A : Around} {E : Value → Shared → Prop} {s : Shared}
theorem fill_loop {I : Addr} {fp wr : List Addr} {G : Array GenState → Array GenState → Prop} {items : Array Value} {Pv : Nat → Value → Prop} {St : Nat → Shared → Prop} {R : Result → Shared → Prop}
    (W : WalksS P w A.in1 I fp wr G items.size Pv St) (S : Addr) (hSf : S ∉ fp) (hval : ∀ i v, Pv i v → items[i]? = some v) {h0 : Heap} {T : Nat → Heap → Prop} (F0 : Fills P w h0 S items T) (hS0 : h0.get? S = none) (hw0 : ∀ b ∈ wr, h0.get? b = none) (hu : A.in1.units + 8 < cLine) :
    ∀ (k i : Nat) (s : Shared), items.size - i = k → i ≤ items.size → St i s → (∀ b o, h0.get? b = some o → s.heap.get? b = some o) → T i s.heap →
      (∀ s', Moved (S :: wr) G s s' → T items.size s'.heap → (∀ b o, h0.get? b = some o → s'.heap.get? b = some o) → R (.ok (.ret .none)) s') →
      codeAny (model P w) A (.builtin "set.update.loop" ⟨[.ref S, .ref I], []⟩) R s := by
  have hSw : S ∉ wr := fun h => hSf (W.sub _ h)
  have hsub : ∀ b ∈ wr, b ∈ S :: wr := fun b hb => List.mem_cons_of_mem _ hb
  have keepM : ∀ {s s' : Shared}, Moved wr G s s' → (∀ b o, h0.get? b = some o → s.heap.get? b = some o) → ∀ b o, h0.get? b = some o → s'.heap.get? b = some o := fun hm hkp b o e =>
    hm.heap b o (fun hb => by rw [hw0 b hb] at e; cases e) (hkp b o e)
  intro k
  induction k with
  | zero =>
    intro i s hk' hi hst hkp hT hR
    have hin : i = items.size := by omega
    subst hin
    refine codeAny_builtin PyProof.Rows.F.entry_set_update_loop ?_
    rw [Around.under_plainId PyProof.Rows.F.plain_set_update_loop _]
    show wpAny _ A.in1 (pyNext (.ref I) >>= _) _ _ s
    refine wpAny_bind (W.done s _ _ hst fun s' hm => ?_)
    have kp := keepM hm hkp
    exact wpAny_pure (hR s' (hm.mono hsub) (F0.keep _ _ _ hT (fun o e => hm.heap S o hSw e) kp) kp)
  | succ k ih =>
    intro i s hk' hi hst hkp hT hR
    have hlt : i < items.size := by omega
    refine codeAny_builtin PyProof.Rows.F.entry_set_update_loop ?_
    rw [Around.under_plainId PyProof.Rows.F.plain_set_update_loop _]
    show wpAny _ A.in1 (pyNext (.ref I) >>= _) _ _ s
    refine wpAny_bind (W.item i s _ _ hlt hst fun v s' hP hst' hm => ?_)
    have kp := keepM hm hkp
    show wpAny _ A.in1 (holding [v] (setAdd S v) >>= _) _ _ s'
    refine wpAny_bind (wpAny_holding ?_)
    refine F0.add i v s' A.in1 _ _ (hval i v hP) (F0.keep _ _ _ hT (fun o e => hm.heap S o hSw e) kp) kp hu fun b h' tk hsb hT2 ht => ?_
    have kp2 : ∀ b o, h0.get? b = some o → h'.get? b = some o := fun b o e => (hsb.2 b (fun z => by rw [z, hS0] at e; cases e)).trans (kp b o e)
    have stay : ∀ b, b ≠ S → ∀ o, s'.heap.get? b = some o → h'.get? b = some o := fun b hb o e => by rw [hsb.2 b hb]; exact e
    refine wpAny_pure ⟨plainId_quiet PyProof.Rows.F.plain_set_update_loop _, ih (i + 1) _ (by omega) hlt (W.frame _ s' _ _ hst' ht fun b hb o e => stay b (fun z => hSf (by rw [← z]; exact hb)) o e) kp2 hT2 fun s2 hm2 hT3 kp3 => ?_⟩
    exact hR s2 (Moved.trans W.gtrans ((hm.mono hsub).then_heap ht fun b o hb e => stay b (fun z => hb (by rw [z]; exact List.mem_cons_self)) o e) hm2) hT3 kp3

/-- set(xs), xs a list or a tuple -/
theorem call_fill {T : String} {l : Addr} {items : Array Value} {Tf : Nat → Heap → Prop} {Q : Value → Shared → Prop} (hT : T = "list" ∨ T = "tuple") (hh : A.handled = none) (hl : ∃ o n, s.heap.get? l = some o ∧ o.cls = .type T ∧ o.data = .seq items n) (F0 : Fills P w s.heap s.heap.objs.size items Tf) (hu : A.units + 16 < cLine)
    (h : ∀ (h' : Heap) (tk : Nat), Tf items.size h' → (∀ b o, s.heap.get? b = some o → h'.get? b = some o) → Q (.ref s.heap.objs.size) { s with heap := h', toks := tk }) :
    wpAny (model P w) A (call (.type "set") [.ref l]) Q E s := by
  obtain ⟨c, tl, hmro⟩ := F.called_set.mro
  have hmade := F.called_set.made
  have hsub := F.called_set.sub
  refine wpAny_call (codeAny_of_tree ?_)
  show wpAny _ _ (callAny (.type "set") _) _ _ _
  refine wpAny_pure ⟨Code.quiet_builtin _ (by decide +kernel), codeAny_builtin F.entry_type_call ?_⟩
  rw [Around.under_plain (weight_type_call_type "set" [.ref l] []) rfl]
  have h1 := F.called_set.notType
  have h2 := F.called_set.canCreate
  have hct := F.typeCall_set_1 (.ref l)
  repeat (any_goals (first | assumption | wp_step))
  refine codeAny_mono (code_set_led1 (.ref l) (E := E) (Q₁ := fun obj s₁ => obj = .ref s.heap.objs.size ∧ s₁ = { s with heap := s.heap.push (fset w) }) ⟨rfl, rfl⟩) fun r s₁ hr => ?_
  cases r with
  | error e => exact hr
  | ok fl =>
    cases fl with
    | ret obj =>
      obtain ⟨rfl, rfl⟩ := hr
      have hS : (s.heap.push (fset w)).get? s.heap.objs.size = some (fset w) := Heap.get?_push_size _ rfl
      have hTy : Shared.TypeIs { s with heap := s.heap.push (fset w) } (.ref s.heap.objs.size) "set" := ⟨_, hS, rfl⟩
      have hli := F.called_set.init.lookup
      have hbi := F.called_set.init.bind (.ref s.heap.objs.size)
      repeat (any_goals (first | assumption | wp_step))
      refine codeAny_mono (codeAny_call_builtin (R := wants (fun r s₂ => r = .none ∧ ∃ h' tk, s₂ = { s with heap := h', toks := tk } ∧ Tf items.size h' ∧ (∀ b o, s.heap.get? b = some o → h'.get? b = some o)) E) F.called_set.init.plain F.entry_set_init (check_set_init_1 hTy ?_)) fun r₂ s₂ hr₂ => ?_
      · obtain ⟨ol, nl, hol, hcl, hdl⟩ := hl
        obtain ⟨ocls, odict, odata, oslots⟩ := ol
        simp only at hcl hdl
        subst hcl; subst hdl
        have hlS : l < s.heap.objs.size := Heap.lt_size hol
        have hh3 : A.in1.in1.in1.handled = none := by simp [hh]
        have hz1 : (s.heap.push (fset w)).objs.size = s.heap.objs.size + 1 := Heap.size_push ..
        have hneI : l ≠ (s.heap.push (fset w)).objs.size := by rw [hz1]; exact Nat.ne_of_lt (Nat.lt_succ_of_lt hlS)
        have hSf : s.heap.objs.size ∉ [(s.heap.push (fset w)).objs.size, l] := by
          rw [hz1]; simp only [List.mem_cons, List.mem_singleton, List.not_mem_nil, or_false, not_or]
          exact ⟨Nat.ne_of_lt (Nat.lt_succ_self _), Nat.ne_of_gt hlS⟩
        have none_of : ∀ b, s.heap.objs.size ≤ b → s.heap.get? b = none := fun b hb => by
          cases q : s.heap.get? b with
          | none => rfl
          | some o => exact absurd (Nat.lt_of_lt_of_le (Heap.lt_size q) hb) (Nat.lt_irrefl _)
        rcases hT with rfl | rfl
        · have hol' : (s.heap.push (fset w)).get? l = some { cls := .type "list", dict := odict, data := .seq items nl, slots := oslots } := Heap.get?_push_of_some _ hol
          have hsls := F.sub_list_set
          have hslf := F.sub_list_frozenset
          have hne : (Value.type "list" == Value.type "dict") = false := by decide
          have hl1 : (s.heap.push (fset w)).IsList l items := ⟨_, hol', rfl, nl, rfl⟩
          unfold Builtin.«set.__init__» noKeywords Builtin.Frozenset.updateFrom
          generalize hPI : pyIter = PI
          wp_walk
          subst hPI
          refine wpAny_pyIter_list hl1 ?_
          refine wpAny_bind (wpAny_runValue ?_)
          refine fill_loop (items := items) ((Walks.list hh3 _ l hneI items).toS) s.heap.objs.size hSf (fun i v e => e) F0 (none_of _ (Nat.le_refl _)) (fun b hb => none_of b (by rw [List.mem_singleton.mp hb, hz1]; exact Nat.le_succ _)) (by simp [Around.in1] at hu ⊢; omega) (items.size - 0) 0 _ (by omega) (Nat.zero_le _)
            ⟨⟨_, Heap.get?_push_size _ rfl, rfl, rfl⟩, (hl1.push _)⟩ (fun b o e => Heap.get?_push_of_some _ (Heap.get?_push_of_some _ e)) (F0.zero _ (fun b o e => Heap.get?_push_of_some _ (Heap.get?_push_of_some _ e)) (Heap.get?_push_of_some _ hS)) ?hR
          case hR =>
            intro s' hm hT' kp
            obtain ⟨h', g2, d', tk', os'⟩ := s'
            have eg : g2 = s.gens := hm.gens
            have ed : d' = s.drawn := hm.drawn
            have eo : os' = s.os := hm.os
            subst eg; subst ed; subst eo
            refine wpAny_pure ?_
            exact wpAny_pure ⟨rfl, h', tk', rfl, hT', kp⟩
        · have hol' : (s.heap.push (fset w)).get? l = some { cls := .type "tuple", dict := odict, data := .seq items nl, slots := oslots } := Heap.get?_push_of_some _ hol
          have hsls := F.sub_tuple_set
          have hslf := F.sub_tuple_frozenset
          have hne : (Value.type "tuple" == Value.type "dict") = false := by decide
          have hl1 : (s.heap.push (fset w)).IsTuple l items := ⟨_, hol', rfl, nl, rfl⟩
          unfold Builtin.«set.__init__» noKeywords Builtin.Frozenset.updateFrom
          generalize hPI : pyIter = PI
          wp_walk
          subst hPI
          refine wpAny_pyIter_tuple hl1 ?_
          refine wpAny_bind (wpAny_runValue ?_)
          refine fill_loop (items := items) ((Walks.tuple hh3 _ l hneI items).toS) s.heap.objs.size hSf (fun i v e => e) F0 (none_of _ (Nat.le_refl _)) (fun b hb => none_of b (by rw [List.mem_singleton.mp hb, hz1]; exact Nat.le_succ _)) (by simp [Around.in1] at hu ⊢; omega) (items.size - 0) 0 _ (by omega) (Nat.zero_le _)
            ⟨⟨_, Heap.get?_push_size _ rfl, rfl, rfl⟩, (hl1.push _)⟩ (fun b o e => Heap.get?_push_of_some _ (Heap.get?_push_of_some _ e)) (F0.zero _ (fun b o e => Heap.get?_push_of_some _ (Heap.get?_push_of_some _ e)) (Heap.get?_push_of_some _ hS)) ?hR
          case hR =>
            intro s' hm hT' kp
            obtain ⟨h', g2, d', tk', os'⟩ := s'
            have eg : g2 = s.gens := hm.gens
            have ed : d' = s.drawn := hm.drawn
            have eo : os' = s.os := hm.os
            subst eg; subst ed; subst eo
            refine wpAny_pure ?_
            exact wpAny_pure ⟨rfl, h', tk', rfl, hT', kp⟩
      · cases r₂ with
        | error e => exact hr₂
        | ok fl₂ =>
          cases fl₂ with
          | ret r =>
            obtain ⟨rfl, h', tk, rfl, hT', hk'⟩ := hr₂
            repeat (any_goals (first | assumption | wp_step))
            exact h _ _ hT' hk'
          | _ => exact hr₂.elim
    | _ => exact hr.elim
end
end Z
end

section
set_option Elab.async false
set_option linter.all false
set_option maxRecDepth 100000
set_option maxHeartbeats 2000000
/-! ZC: how many different things a sequence has. -/
namespace Z
open PySem L2
variable {X : Cx}
section
variable {α : Type} [DecidableEq α]
def see (acc : List α) (x : α) : List α := if x ∈ acc then acc else x :: acc
def seen (l : List α) : List α := l.foldl see []
theorem seen_snoc (l : List α) (x : α) : seen (l ++ [x]) = see (seen l) x := by unfold seen; rw [List.foldl_append]; rfl
theorem mem_foldl_see (x : α) : ∀ (l acc : List α), x ∈ l.foldl see acc ↔ x ∈ acc ∨ x ∈ l
  | [], acc => by simp
  | y :: l, acc => by
    rw [List.foldl_cons, mem_foldl_see x l]
    unfold see
    by_cases h : y ∈ acc
    · rw [if_pos h, List.mem_cons]
      constructor
      · rintro (a | a)
        · exact .inl a
        · exact .inr (.inr a)
      · rintro (a | a | a)
        · exact .inl a
        · subst a; exact .inl h
        · exact .inr a
    · rw [if_neg h, List.mem_cons, List.mem_cons]
      constructor
      · rintro ((a | a) | a)
        · exact .inr (.inl a)
        · exact .inl a
        · exact .inr (.inr a)
      · rintro (a | a | a)
        · exact .inl (.inr a)
        · exact .inl (.inl a)
        · exact .inr a
theorem mem_seen {x : α} {l : List α} : x ∈ seen l ↔ x ∈ l := by unfold seen; rw [mem_foldl_see]; simp
def memB (x : α) (l : List α) : Bool := decide (x ∈ l)
theorem memB_iff {x : α} {l : List α} : memB x l = true ↔ x ∈ l := by unfold memB; exact decide_eq_true_iff
theorem memB_snoc (x y : α) (l : List α) : (memB y l || decide (y = x)) = memB y (l ++ [x]) := by
  unfold memB
  rw [← Bool.decide_or]
  congr 1
  rw [List.mem_append, List.mem_singleton]
theorem see_len (l : List α) (x : α) : (see (seen l) x).length = if memB x l = true then (seen l).length else (seen l).length + 1 := by
  unfold see
  by_cases c : x ∈ l
  · rw [if_pos (mem_seen.mpr c), if_pos (memB_iff.mpr c)]
  · rw [if_neg fun m => c (mem_seen.mp m), if_neg fun m => c (memB_iff.mp m)]; rfl
theorem take_snoc {l : List α} {i : Nat} {x : α} (h : l[i]? = some x) : l.take (i + 1) = l.take i ++ [x] := by rw [List.take_succ, h]; rfl
end
theorem size_at {items : Array Value} {n : Nat} (h : items.size = n) : items.toList.length = n := by rw [Array.length_toList]; exact h
section
variable {P : Program} {w : World}
/-- tuples go in -/
def FillN (w : World) (h0 : Heap) (S : Addr) (ks : List NestedKey) (i : Nat) (h : Heap) : Prop :=
  ∃ L es ep t, SetN w h S L es ep t ∧ (∀ p ∈ L, NEl h0 p) ∧ (∀ k, k ∈ L.map (·.2) ↔ k ∈ ks.take i) ∧ L.length = (seen (ks.take i)).length ∧ L.length ≤ i
theorem fills_n {h0 : Heap} {S : Addr} {items : Array Value} {ks : List NestedKey} (hl : items.size = ks.length) (hk : ∀ (i : Nat) v k, items[i]? = some v → ks[i]? = some k → NEl h0 (v, k)) (few : ks.length < 64) (hS : h0.get? S = none) : Fills P w h0 S items (FillN w h0 S ks) := by
  refine ⟨fun h' k ho => ?_, fun i h h' ⟨L, es, ep, t, R, e1, e2, e3, e4⟩ ho kp => ?_, fun i v s A E Q hi ⟨L, es, ep, t, R, e1, e2, e3, e4⟩ kp hu q => ?_⟩
  · refine ⟨[], #[], 0, _, ⟨⟨_, ho, ⟨rfl, rfl, rfl⟩, rfl⟩, rfl, ⟨List.Pairwise.nil, rfl, rfl, .inl rfl, fun x hx => (by cases hx), fun i h j hi => (by simp at hi)⟩, List.nodup_nil, fun p hp => (by cases hp), ?_, by show 0 * 5 < 7 * 3; decide, by show 0 < 64; decide⟩, fun p hp => (by cases hp), fun k => by simp, by simp [seen], Nat.le_refl _⟩
    show _ ∨ (!w.params.followText "set-order") = true
    cases w.params.followText "set-order"
    · exact .inr rfl
    · exact .inl rfl
  · obtain ⟨o, h1, h2⟩ := R.ob
    exact ⟨L, es, ep, t, ⟨⟨o, ho o h1, h2⟩, R.rows, R.tab, R.nd, fun p hp => nEl_keep (e1 p hp) kp, R.led, R.room, R.few⟩, e1, e2, e3, e4⟩
  · have hin : i < ks.length := by rw [← hl]; exact (Array.getElem?_eq_some_iff.mp hi).1
    have ek : ks[i]? = some ks[i] := List.getElem?_eq_getElem hin
    generalize ks[i] = k at ek
    have x0 := hk i v k hi ek
    have hx := nEl_keep x0 kp
    unfold setAdd
    refine wpAny_holding ?_
    have hd : k.depth ≤ 8 := x0.2.1
    refine wpAny_bind (pyHash_key k v A s _ hx.1 (by omega) ?_)
    refine add_key (s := { s with toks := s.toks + k.draws }) (x := (v, k)) R hx hu (by omega) fun b h' L' es' ep' t' sb R' c1 c2 => q b h' _ sb ⟨L', es', ep', t', R', ?_⟩ (Nat.le_add_right _ _)
    rw [take_snoc ek, seen_snoc]
    unfold see
    by_cases c : k ∈ L.map (·.2)
    · have z : k ∈ seen (ks.take i) := mem_seen.mpr ((e2 k).mp c)
      rw [c1 c, if_pos z]
      refine ⟨e1, fun y => ?_, e3, by omega⟩
      rw [e2 y, List.mem_append, List.mem_singleton]
      exact ⟨.inl, fun h => h.elim id fun e => by rw [e]; exact (e2 k).mp c⟩
    · have z : k ∉ seen (ks.take i) := fun m => c ((e2 k).mpr (mem_seen.mp m))
      have pm := c2 c
      rw [if_neg z]
      refine ⟨fun p hp => ?_, fun y => ?_, by rw [pm.length_eq, List.length_cons, List.length_cons, e3], by rw [pm.length_eq, List.length_cons]; omega⟩
      · rcases List.mem_cons.mp (pm.mem_iff.mp hp) with rfl | hp
        · exact x0
        · exact e1 p hp
      · rw [(pm.map (·.2)).mem_iff, List.map_cons, List.mem_cons, List.mem_append, List.mem_singleton, e2 y]
        exact ⟨fun h => h.elim .inr .inl, fun h => h.elim .inr .inl⟩
/-- whole numbers and texts go in -/
def FillK (P : Program) (w : World) (S : Addr) (ks : List Key) (i : Nat) (h : Heap) : Prop := h.SetOf (mixKind P w) S (fun k => memB k (ks.take i)) (seen (ks.take i)).length
theorem seen_le {α : Type} [DecidableEq α] (l : List α) : (seen l).length ≤ l.length := by
  have : ∀ (l acc : List α), (l.foldl see acc).length ≤ acc.length + l.length := by
    intro l
    induction l with
    | nil => intro acc; simp
    | cons x l ih =>
      intro acc
      rw [List.foldl_cons]
      have := ih (see acc x)
      have h2 : (see acc x).length ≤ acc.length + 1 := by unfold see; split <;> simp
      simp only [List.length_cons]; omega
  simpa [seen] using this l []
theorem fills_k {h0 : Heap} {S : Addr} {items : Array Value} {ks : List Key} (hl : items.size = ks.length) (hk : ∀ (i : Nat) v k, items[i]? = some v → ks[i]? = some k → keyIs k v = true) (few : ks.length + 1 < scanBound) : Fills P w h0 S items (FillK P w S ks) := by
  refine ⟨fun h' k ho => ?_, fun i h h' R ho kp => ?_, fun i v s A E Q hi R kp hu q => ?_⟩
  · exact ⟨_, #[], 0, _, ho, ⟨rfl, rfl, rfl⟩, rfl, fun e he => (by simp at he), fun k => by simp [memB], by unfold scanBound; decide, by rfl, by simp [seen]⟩
  · obtain ⟨o, es, ep, t, h1, h2⟩ := R
    exact ⟨o, es, ep, t, ho o h1, h2⟩
  · have hin : i < ks.length := by rw [← hl]; exact (Array.getElem?_eq_some_iff.mp hi).1
    have ek : ks[i]? = some ks[i] := List.getElem?_eq_getElem hin
    generalize ks[i] = k at ek
    have x0 := hk i v k hi ek
    unfold setAdd
    refine wpAny_holding ?_
    refine wpAny_bind ((mixKind P w).pyHash x0 ?_)
    have hn := seen_le (ks.take i)
    have hn2 : (ks.take i).length ≤ ks.length := by rw [List.length_take]; exact Nat.min_le_right _ _
    have hsc : v.scannable = true := by
      rcases keyIs_shape x0 with ⟨j, t, _, rfl⟩ | ⟨y, t, _, rfl⟩ <;> rfl
    refine wpAny_setAddHashed_of (knd := mixKind P w) (s := { s with toks := s.toks + 1 }) x0 hsc R (by omega) fun h' sb R' => q _ h' _ sb ?_ (Nat.le_succ _)
    unfold FillK
    rw [take_snoc ek, seen_snoc]
    have e1 : (fun k' => memB k' (ks.take i) || decide (k' = k)) = fun k' => memB k' (ks.take i ++ [k]) := funext fun y => memB_snoc k y _
    rw [e1] at R'
    rw [see_len]
    exact R'
end
def keysD : List D → Option (List Key)
  | [] => some []
  | d :: ds => match keyD d, keysD ds with
    | some k, some ks => some (k :: ks)
    | _, _ => none
/-- how many different things there are: numbers and texts, or tuples -/
def setLen (ds : List D) : Option Nat := if decide (ds.length < 60) then match keysD ds with
    | some ks => some (seen ks).length
    | none => if ds.all isTup then match nks ds with
        | some ks => if ks.all fun k => decide (k.depth ≤ 8) then some (seen ks).length else none
        | none => none
      else none
  else none
def rLenSet (K : Fr) : V → Hp → VK → Prop := fun x H Q => ∃ a xs ds n, x = .ref a ∧ (SqT K.k H a xs ∨ Rd H a (.lst xs)) ∧ DqAll K.k H xs ds ∧ setLen ds = some n ∧ Q (.int n) H
theorem keysD_is {K : Fr} {H : Hp} : ∀ {ds : List D} {vs : List V} {us : List Value} {ks : List Key}, DqAll K.k H vs ds → Vals vs us → keysD ds = some ks → ds.length = ks.length ∧ ∀ (i : Nat) v k, us[i]? = some v → ks[i]? = some k → keyIs k v = true
  | [], _, _, _, .nil, .nil, e => by simp only [keysD] at e; cases e; exact ⟨rfl, fun i v k h => by simp at h⟩
  | d :: ds, _, _, _, .cons h hs, .cons r rs, e => by
    unfold keysD at e
    cases q : keyD d with
    | none => simp only [q] at e; cases e
    | some k =>
      cases q2 : keysD ds with
      | none => simp only [q, q2] at e; cases e
      | some ks =>
        simp only [q, q2] at e; cases e
        obtain ⟨l, f⟩ := keysD_is hs rs q2
        refine ⟨by simp [l], fun i v k' hv hk => ?_⟩
        cases i with
        | succ i => exact f i v k' (by simpa using hv) (by simpa using hk)
        | zero =>
          simp only [List.getElem?_cons_zero] at hv hk
          cases hv; cases hk
          cases h with
          | int j => obtain ⟨t, rfl⟩ := r; simp only [keyD] at q; cases q; simp [keyIs, Value.isInt]
          | str y => obtain ⟨t, rfl⟩ := r; simp only [keyD] at q; cases q; simp [keyIs, Value.isStrOf]
          | non => simp [keyD] at q
          | bl _ => simp [keyD] at q
          | lst _ _ => simp [keyD] at q
          | tup _ _ => simp [keyD] at q
theorem nks_len : ∀ {ds : List D} {ks : List NestedKey}, nks ds = some ks → ds.length = ks.length
  | [], _, e => by simp only [nks] at e; cases e; rfl
  | d :: ds, _, e => by
    unfold nks at e
    cases q : nk d with
    | none => simp only [q] at e; cases e
    | some k =>
      cases q2 : nks ds with
      | none => simp only [q, q2] at e; cases e
      | some ks => simp only [q, q2] at e; cases e; simp [nks_len q2]
theorem all_at {h : Heap} : ∀ {ks : List NestedKey} {us : List Value}, NestedAll h ks us → ∀ (i : Nat) v k, us[i]? = some v → ks[i]? = some k → NestedIs h k v
  | _, _, .nil, i, v, k, h, _ => by simp at h
  | _, _, .cons a b, 0, v, k, h1, h2 => by simp at h1 h2; rw [← h1, ← h2]; exact a
  | _, _, .cons a b, i + 1, v, k, h1, h2 => all_at b i v k (by simpa using h1) (by simpa using h2)
theorem refs_at {K : Fr} {H : Hp} : ∀ {ds : List D} {vs : List V} {us : List Value}, DqAll K.k H vs ds → Vals vs us → ds.all isTup = true → ∀ (i : Nat) v, us[i]? = some v → ∃ a, v = .ref a
  | [], _, _, .nil, .nil, _, i, v, h => by simp at h
  | d :: ds, _, _, .cons h hs, .cons r rs, e, i, v, hv => by
    rw [List.all_cons, Bool.and_eq_true] at e
    cases i with
    | succ i => exact refs_at hs rs e.2 i v (by simpa using hv)
    | zero =>
      simp only [List.getElem?_cons_zero] at hv
      cases hv
      cases h with
      | tup _ _ => exact ⟨_, r⟩
      | _ => simp [isTup] at e
def tLenSet (K : Fr) (te : TE) : TE := fun σ H Q => te σ H fun x H1 => rLenSet K x H1 Q
theorem pe_lenSet {a : Expr} {ta : TE} {p p2 q pos : Pos} (hc : X.calm = true) (hu : X.A.units + 70 < cLine) (hg : Gl X "len") (hm : X.mg "len" = none) (hg2 : Gl X "set") (hm2 : X.mg "set" = none) (ha : PE X a ta)
    (na : starEach [a] X.env = (false, eval a X.env) :: starEach [] X.env := by rfl) : PE X (.Call (.Name "len" p) [.Call (.Name "set" p2) [a] [] q] [] pos) (tLenSet X.wd ta) := by
  refine ⟨fun pins s σ H Q I h => PyProof.Rows.Call_ (ld_blt I hg hm PySem.boot_len ?_)⟩
  refine PyProof.Rows.callWith_builtin1 (PyProof.Rows.args_cons ?_ rfl) rfl rfl
  refine PyProof.Rows.Call_ (ld_blt I hg2 hm2 PyProof.Rows.boot_set ?_)
  refine PyProof.Rows.callWith_type1 (PyProof.Rows.args_cons (thn (ha.run pins s σ H _ I h) fun v s1 ⟨x, H1, I1, r1, q1⟩ => PyProof.Rows.args_nil ?_) na) na rfl
  obtain ⟨l, xs, ds, n, rfl, hs, hq, hn, q1⟩ := q1
  cases r1
  have hnone : s1.heap.get? s1.heap.objs.size = none := by
    cases q : s1.heap.get? s1.heap.objs.size with
    | none => rfl
    | some o => exact absurd (Heap.lt_size q) (Nat.lt_irrefl _)
  have fin : ∀ (h' : Heap) (tk : Nat), (∃ o es ep t, h'.get? s1.heap.objs.size = some o ∧ o.ExactSet ∧ o.data = .set es ep t ∧ t.fits es.size = true ∧ es.size = n) → n < 64 → (∀ b o, s1.heap.get? b = some o → h'.get? b = some o) →
      wpAny (model X.prog X.w) X.A (call (.builtin "len") [.ref s1.heap.objs.size]) (EP X pins σ Q) X.xe { s1 with heap := h', toks := tk } := fun h' tk ⟨o, es, ep, t, ho, hex, hd, hf, hsz⟩ hlt hk => by
    have I2 : Inv X pins σ H1 { s1 with heap := h', toks := tk } := I1.kept hk
    exact call_len_set ho hex hd hf (by rw [hsz]; omega) ⟨.int n, H1, I2.tok _, ⟨_, by rw [hsz]⟩, q1⟩
  have go : ∀ (its : List Value) (T : String) (ob : Obj) (m : Nat), T = "list" ∨ T = "tuple" → s1.heap.get? l = some ob → ob.cls = .type T → ob.data = .seq its.toArray m → Vals xs its →
      wpAny (model X.prog X.w) X.A (call (.type "set") [.ref l]) (fun v s' => wpAny (model X.prog X.w) X.A (call (.builtin "len") [v]) (EP X pins σ Q) X.xe s') X.xe s1 := by
    intro its T ob m hT ho hc' hd rv
    have hlen : its.toArray.size = ds.length := by rw [List.size_toArray, ← rv.length, dpAll_len (K := X.wd) hq]
    unfold setLen at hn
    obtain ⟨c, hn⟩ := if_some hn
    rw [decide_eq_true_eq] at c
    cases e1 : keysD ds with
    | some ks =>
      rw [e1] at hn; cases hn
      obtain ⟨z1, z2⟩ := keysD_is (K := X.wd) hq rv e1
      have few : ks.length + 1 < scanBound := by rw [← z1]; unfold scanBound; omega
      refine call_fill (Tf := FillK X.prog X.w s1.heap.objs.size ks) hT (I1.ok.hd hc) ⟨ob, m, ho, hc', hd⟩ (fills_k (by rw [hlen, z1]) (fun i v k hv hk => z2 i v k (by simpa using hv) hk) few) (by omega) fun h' tk hT' kp => fin h' tk ?_ ?_ kp
      · obtain ⟨o, es, ep, t, y1, y2, y3, _, _, _, y4, y5⟩ := hT'
        rw [hlen, z1, List.take_length] at y5
        exact ⟨o, es, ep, t, y1, y2, y3, y4, y5⟩
      · have := seen_le ks; omega
    | none =>
      rw [e1] at hn
      dsimp only at hn
      obtain ⟨ct, hn⟩ := if_some hn
      cases e2 : nks ds with
      | none => rw [e2] at hn; cases hn
      | some ks =>
        rw [e2] at hn
        dsimp only at hn
        obtain ⟨cd, hn⟩ := if_some hn
        cases hn
        have z1 := nks_len e2
        have na := nested_all I1 hq rv e2
        refine call_fill (Tf := FillN X.w s1.heap s1.heap.objs.size ks) hT (I1.ok.hd hc) ⟨ob, m, ho, hc', hd⟩ (fills_n (by rw [hlen, z1]) (fun i v k hv hk => ?_) (by omega) hnone) (by omega) fun h' tk hT' kp => fin h' tk ?_ ?_ kp
        · have hv' : its[i]? = some v := by simpa using hv
          exact ⟨all_at na i v k hv' hk, of_decide_eq_true (List.all_eq_true.mp cd k (List.mem_of_getElem? hk)), refs_at (K := X.wd) hq rv ct i v hv'⟩
        · obtain ⟨L, es, ep, t, R, _, _, y, _⟩ := hT'
          obtain ⟨o, y1, y2, y3⟩ := R.ob
          rw [hlen, z1, List.take_length] at y
          exact ⟨o, es, ep, t, y1, y2, y3, SetN.fits (s := { s1 with heap := h' }) R, by rw [rows_size R.rows, y]⟩
        · have := seen_le ks; omega
  rcases hs with hs | hs
  · obtain ⟨its, rv, ⟨o, ho, hc', m, hd⟩, hz⟩ := I1.tuple hs
    exact wpAny_mono (go its "tuple" o m (.inr rfl) ho hc' hd rv) (fun v s' z => PyProof.Rows.args_nil z) fun _ _ e => e
  · obtain ⟨its, rv, hl, hz⟩ := I1.list (.inl hs)
    obtain ⟨o, ho, hc', m, hd⟩ := hl.isList
    exact wpAny_mono (go its "list" o m (.inl rfl) ho hc' hd rv) (fun v s' z => PyProof.Rows.args_nil z) fun _ _ e => e
def dLenSet : D → Option Rs
  | .list ds => match setLen ds with
    | some n => some (.val (.int n))
    | none => none
  | .tuple ds => match setLen ds with
    | some n => some (.val (.int n))
    | none => none
  | _ => none
theorem lenSetG {K : Fr} : UnG K (rLenSet K) dLenSet := by
  intro x G H d rs Q s rx hd k
  cases d with
  | list ds =>
    obtain ⟨a, xs, rfl, h2, h3⟩ := rp_lst s rx
    have hd' : (match setLen ds with | some n => some (Rs.val (.int n)) | none => none) = some rs := hd
    cases q : setLen ds with
    | none => rw [q] at hd'; cases hd'
    | some n => rw [q] at hd'; cases hd'; exact ⟨a, xs, ds, n, rfl, .inr h2, dpAll_mono s h3, q, k _ G H (Ext.refl s) val_int⟩
  | tuple ds =>
    obtain ⟨a, xs, rfl, h2, h3⟩ := rp_tup rx
    have hd' : (match setLen ds with | some n => some (Rs.val (.int n)) | none => none) = some rs := hd
    cases q : setLen ds with
    | none => rw [q] at hd'; cases hd'
    | some n => rw [q] at hd'; cases hd'; exact ⟨a, xs, ds, n, rfl, .inl (sqT_mono s h2), dpAll_mono s h3, q, k _ G H (Ext.refl s) val_int⟩
  | _ => cases hd
theorem lenSet_of {K : Fr} {m : M Res} : ∀ σ H Q, tE K (mUn dLenSet m) σ H Q → tLenSet K (tE K m) σ H Q := tUn_of lenSetG
end Z
end

section
set_option Elab.async false
set_option linter.all false
set_option maxRecDepth 100000
set_option maxHeartbeats 2000000
/-! ZD: what is walked; isinstance. -/
namespace Z
open PySem L2
variable {X : Cx} {tg : Expr}

/-! ### a list, a tuple, a text, walked -/
def iSeq (K : PySem.W.Frag) (tl : TE) : TI := fun σ H R => tl σ H fun x H1 => (∃ a, x = .ref a ∧ (∃ xs, SqL K H1 a xs) ∧ R (Itl K a) H1) ∨ (∃ a, x = .ref a ∧ (∃ xs, SqT K H1 a xs) ∧ R (Itt K a) H1) ∨ ∃ z, x = .str z ∧ R (Its z) H1
theorem pi_seq {l : Expr} {tl : TE} (hl : PE X l tl) : PI X tg l (iSeq X.K tl) := by
  refine ⟨fun pins s σ H R I h => thn (hl.run pins s σ H _ I h) fun v s1 ⟨x, H1, I1, r1, q1⟩ => ?_⟩
  rcases q1 with ⟨a, rfl, ⟨xs, hq⟩, q⟩ | ⟨a, rfl, ⟨xs, hq⟩, q⟩ | ⟨z, rfl, q⟩
  · cases r1
    obtain ⟨its, rv, p, hz⟩ := I1.list hq
    exact wpAny_pyIter_list p.isList (pi_one (tk := s1.toks) I1 _ (turn_list a _) ⟨_, Heap.get?_push_size _ rfl, rfl, rfl⟩ q)
  · cases r1
    obtain ⟨its, rv, p, hz⟩ := I1.tuple hq
    exact wpAny_pyIter_tuple (show s1.heap.IsTuple a its.toArray from p) (pi_one (tk := s1.toks) I1 _ (turn_tuple a _) ⟨_, Heap.get?_push_size _ rfl, rfl, rfl⟩ q)
  · obtain ⟨t, rfl⟩ := r1
    cases ha : z.cps.all (· < 128)
    · exact wpAny_pyIter_wide ha (pi_one (tk := s1.toks) I1 _ (turn_str _ z t "str_iterator" (.inr rfl)) ⟨_, Heap.get?_push_size _ rfl, rfl, rfl⟩ q)
    · exact wpAny_pyIter_ascii ha (pi_one (tk := s1.toks) I1 _ (turn_str _ z t "str_ascii_iterator" (.inl rfl)) ⟨_, Heap.get?_push_size _ rfl, rfl, rfl⟩ q)
def signs (z : Str) : List D := z.cps.toList.map fun c => .str ⟨#[c]⟩
def itemsD : D → Option (List D)
  | .list ds => some ds
  | .tuple ds => some ds
  | .str z => some (signs z)
  | _ => none
/-- e: its items; the thing is shared from now on -/
def mItems (m : M Res) : M (List D) := bnd (mShare m) fun d ρ => match itemsD d with
  | some ds => some (ds, ρ)
  | none => none
theorem seqL_of {K : Fr} {G : Hp} {v : V} {ds : List D} (h : Rp K G v (.list ds)) : ∃ a xs, v = V.ref a ∧ Rd G a (.lst xs) ∧ DqAll K.k G xs ds := by
  cases h with
  | dat h => cases h with
    | lst h1 h2 => exact ⟨_, _, rfl, h1, h2⟩
  | con h1 h2 => cases h2 with
    | lst h => exact ⟨_, _, rfl, Or.inl h1, h⟩
theorem walks_lst {K : Fr} {T : List (Addr × HO)} {G : Hp} {a : Addr} {xs : List V} {ds : List D} (h : Rd G a (.lst xs)) (hd : DqAll K.k G xs ds) : Walks K T G ds (Itl K.k a) := by
  intro G1 H1 g h1 _
  have r1 : SqL K.k H1 a xs := .inl (Evl.ex_rd h1 (Evl.ex_rd g h))
  refine ⟨fun i d ed => ?_, fun i hi => ⟨xs, r1, by rw [dpAll_len hd]; exact hi⟩⟩
  obtain ⟨v, hv, q⟩ := dpAll_get' hd ed
  refine ⟨⟨xs, v, r1, hv⟩, fun x H2 ⟨e, y⟩ => ?_⟩
  subst e
  have z := y xs r1
  rw [hv] at z
  cases z
  exact ⟨G1, Ext.refl h1, .dat (dp_mono g q)⟩
theorem walks_tup {K : Fr} {T : List (Addr × HO)} {G : Hp} {a : Addr} {xs : List V} {ds : List D} (h : SqT K.k G a xs) (hd : DqAll K.k G xs ds) : Walks K T G ds (Itt K.k a) := by
  intro G1 H1 g h1 _
  have r1 : SqT K.k H1 a xs := sqT_mono h1 (sqT_mono g h)
  refine ⟨fun i d ed => ?_, fun i hi => ⟨xs, r1, by rw [dpAll_len hd]; exact hi⟩⟩
  obtain ⟨v, hv, q⟩ := dpAll_get' hd ed
  refine ⟨⟨xs, v, r1, hv⟩, fun x H2 ⟨e, y⟩ => ?_⟩
  subst e
  have z := y xs r1
  rw [hv] at z
  cases z
  exact ⟨G1, Ext.refl h1, .dat (dp_mono g q)⟩
theorem walks_str {K : Fr} {T : List (Addr × HO)} {G : Hp} {z : Str} : Walks K T G (signs z) (Its z) := by
  intro G1 H1 g h1 _
  refine ⟨fun i d ed => ?_, fun i hi => by
    have : z.cps.size ≤ i := by simpa [signs] using hi
    exact this⟩
  unfold signs at ed
  rw [List.getElem?_map] at ed
  cases q : z.cps.toList[i]? with
  | none => rw [q] at ed; cases ed
  | some c =>
    rw [q] at ed
    cases ed
    rw [Array.getElem?_toList] at q
    refine ⟨(Array.getElem?_eq_some_iff.mp q).1, fun x H2 ⟨e, c', e1, e2⟩ => ?_⟩
    subst e
    rw [q] at e1
    cases e1
    subst e2
    exact ⟨G1, Ext.refl h1, .dat (.str _)⟩
theorem tI_share {K : Fr} {m : M Res} {σ : St} {H : Hp} {R : D → V → Cn → Rho → Hp → Hp → Prop} {f : D → Rho → Option (List D × Rho)} {Rx : It → Hp → Prop} (h : tI K (bnd (mShare m) f) σ H Rx)
    (k : ∀ C ρ G d v H ds ρ', Sta K C σ ρ G H → Rp K G v d → f d ρ = some (ds, ρ') → (∀ J G' H', Sta K C σ ρ' G' H' → Same G G' → Walks K C.T G' ds J → Rx J H') → R d v C ρ G H) :
    tE K m σ H fun v H1 => ∃ d C ρ G, R d v C ρ G H1 := by
  obtain ⟨C, ρ, G, ds, ρ', S, e, kk⟩ := h
  obtain ⟨d, ρ1, e1, e⟩ := bnd_some e
  obtain ⟨r, ρ0, e0, e1⟩ := bnd_some e1
  refine ⟨C, ρ, G, r, ρ0, S, e0, fun v G1 H1 S1 g1 r1 => ?_⟩
  obtain ⟨G2, S2, g2, rp⟩ := S1.demote r1 e1
  exact ⟨d, C, ρ1, G2, k C ρ1 G2 d v H1 ds ρ' S2 rp e fun J G' H' S' g' w => kk J G' H' S' ((g1.trans g2).trans g') w⟩
theorem items_of {K : Fr} {m : M Res} : ∀ σ H R, tI K (mItems m) σ H R → iSeq K.k (tE K m) σ H R := by
  rintro σ H Rx ⟨C, ρ, G, ds, ρ', S, e, kk⟩
  obtain ⟨d, ρ1, e1, e⟩ := bnd_some e
  obtain ⟨r, ρ0, e0, e1⟩ := bnd_some e1
  refine ⟨C, ρ, G, r, ρ0, S, e0, fun v G1 H1 S1 g1 r1 => ?_⟩
  obtain ⟨G2, S2, g2, rp⟩ := S1.demote r1 e1
  have go : ∀ J, Walks K C.T G2 ds J → itemsD d = some ds → Rx J H1 := fun J w hi => by
    rw [hi] at e; cases e
    exact kk J G2 H1 S2 (g1.trans g2) w
  cases q : itemsD d with
  | none => rw [q] at e; cases e
  | some ds' =>
    rw [q] at e
    cases e
    cases d <;> simp only [itemsD] at q <;> try cases q
    · obtain ⟨z, hz⟩ : ∃ z, v = V.str z ∧ _ := ⟨_, rp_str (H := H1) (.inl rp), trivial⟩
      exact .inr (.inr ⟨_, rp_str (H := H1) (.inl rp), go _ walks_str rfl⟩)
    · obtain ⟨a, xs, rfl, h1, h2⟩ := seqL_of rp
      exact .inl ⟨a, rfl, ⟨xs, .inl (Evl.ex_rd S2.fm.gh h1)⟩, go _ (walks_lst h1 h2) rfl⟩
    · obtain ⟨a, xs, rfl, h1, h2⟩ := rp_tup (H := H1) (.inl rp)
      exact .inr (.inl ⟨a, rfl, ⟨xs, sqT_mono S2.fm.gh h1⟩, go _ (walks_tup h1 h2) rfl⟩)
theorem di_seq {e : Expr} {m : M Res} (h : DE X e m) : DI X tg e (mItems m) := (pi_seq h).imp items_of

/-! ### range -/
def rangeD (lo hi : Int) : List D := (List.range (hi - lo).toNat).map fun (i : Nat) => .int (lo + (i : Int))
def mRange1 (m : M (List D)) : M (List D) := bnd m fun ds ρ => match ds with
  | [.int j] => if decide (-(2 ^ 62) ≤ j ∧ j < 2 ^ 62) then some (rangeD 0 j, ρ) else none
  | _ => none
def mRange2 (m : M (List D)) : M (List D) := bnd m fun ds ρ => match ds with
  | [.int i, .int j] => if decide ((-(2 ^ 62) ≤ i ∧ i < 2 ^ 62) ∧ -(2 ^ 62) ≤ j ∧ j < 2 ^ 62) then some (rangeD i j, ρ) else none
  | _ => none
theorem walks_rng {K : Fr} {T : List (Addr × HO)} {G : Hp} {lo hi' : Int} : Walks K T G (rangeD lo hi') (Itr lo (hi' - lo).toNat) := by
  intro G1 H1 g h1 _
  refine ⟨fun i d ed => ?_, fun i hi => by
    have : (hi' - lo).toNat ≤ i := by simpa [rangeD] using hi
    exact this⟩
  unfold rangeD at ed
  rw [List.getElem?_map] at ed
  by_cases hl : i < (hi' - lo).toNat
  · rw [List.getElem?_range hl] at ed
    cases ed
    refine ⟨hl, fun x H2 ⟨e, e2⟩ => ?_⟩
    subst e e2
    exact ⟨G1, Ext.refl h1, .dat (.int _)⟩
  · rw [List.getElem?_eq_none (by simpa using Nat.le_of_not_lt hl)] at ed
    cases ed
theorem ints1 {K : Fr} {G : Hp} {vs : List V} {j : Int} (h : RpAll K G vs [.int j]) : vs = [.int j] := by
  cases h with
  | cons h hs => cases hs; rw [rp_int (H := G) (.inl h)]
theorem ints2 {K : Fr} {G : Hp} {vs : List V} {i j : Int} (h : RpAll K G vs [.int i, .int j]) : vs = [.int i, .int j] := by
  cases h with
  | cons h hs => rw [rp_int (H := G) (.inl h), ints1 hs]
theorem range1_of {K : Fr} {m : M (List D)} : ∀ σ H R, tI K (mRange1 m) σ H R → iRng1 (tL K m) σ H R := by
  rintro σ H Rx ⟨C, ρ, G, ds, ρ', S, e, kk⟩
  obtain ⟨as, ρ1, e1, e⟩ := bnd_some e
  refine ⟨C, ρ, G, as, ρ1, S, e1, fun vs G1 H1 S1 g1 rp => ?_⟩
  split at e
  · rename_i j
    obtain ⟨c, e⟩ := if_some e
    cases e
    rw [decide_eq_true_eq] at c
    refine ⟨j, ints1 rp, c.1, c.2, ?_⟩
    have w : Walks K C.T G1 (rangeD 0 j) (Itr 0 (j - 0).toNat) := walks_rng
    rw [Int.sub_zero] at w
    exact kk _ G1 H1 S1 g1 w
  · cases e
theorem range2_of {K : Fr} {m : M (List D)} : ∀ σ H R, tI K (mRange2 m) σ H R → iRng2 (tL K m) σ H R := by
  rintro σ H Rx ⟨C, ρ, G, ds, ρ', S, e, kk⟩
  obtain ⟨as, ρ1, e1, e⟩ := bnd_some e
  refine ⟨C, ρ, G, as, ρ1, S, e1, fun vs G1 H1 S1 g1 rp => ?_⟩
  split at e
  · rename_i i j
    obtain ⟨c, e⟩ := if_some e
    cases e
    rw [decide_eq_true_eq] at c
    exact ⟨i, j, ints2 rp, ⟨c.1.1, c.1.2, c.2.1, c.2.2⟩, kk _ G1 H1 S1 g1 walks_rng⟩
  · cases e
end Z
end

section
set_option Elab.async false
set_option linter.all false
set_option maxRecDepth 100000
set_option maxHeartbeats 2000000
/-! ZDO: a comprehension over an own list, which stays one's own. -/
namespace Z
open PySem L2
/-- slot i's own list is walked, and is out of sight meanwhile -/
def mLcH (i : Nat) (mi : M (List D)) (f : D → Rho → Option Rho) (tt : M Bool) (te : M Res) (vs : List Nat) : M Res := fun ρ => match ρ[i]? with
  | some (.ow (.list ds)) => match mLc (fun ρ => some (ds, ρ)) f tt te vs (ρ.set i .no) with
    | some (r, ρ') => match ρ'[i]? with
      | some .no => some (r, ρ'.set i (.ow (.list ds)))
      | _ => none
    | none => none
  | _ => mLc mi f tt te vs ρ
theorem mLc_fr {mi : M (List D)} {f : D → Rho → Option Rho} {tt : M Bool} {te : M Res} {vs : List Nat} {ρ ρ' : Rho} {r : Res} (h : mLc mi f tt te vs ρ = some (r, ρ')) : ∃ ds ρ1 acc ρE, mi ρ = some (ds, ρ1) ∧ noOwn vs ρ1 = true ∧ lcL f tt te vs ds [] ρ1 = some (acc, ρE) ∧ r = .fr (.list acc) ∧ ρ' = backR vs 0 ρ1 (wipeR vs 0 ρE) := by
  unfold mLc at h
  cases q : mi ρ with
  | none => rw [q] at h; cases h
  | some p =>
    obtain ⟨ds, ρ1⟩ := p
    rw [q] at h
    dsimp only at h
    obtain ⟨c, h⟩ := if_some h
    cases q2 : lcL f tt te vs ds [] ρ1 with
    | none => rw [q2] at h; cases h
    | some p =>
      obtain ⟨acc, ρE⟩ := p
      rw [q2] at h
      cases h
      exact ⟨ds, ρ1, acc, ρE, rfl, c, q2, rfl, rfl⟩
def tIH (K : Fr) (i : Nat) (mi : M (List D)) : TI := fun σ H R => tI K mi σ H R ∨ iSeq K.k (tVar i) σ H R
theorem lcH_of {K : Fr} {i : Nat} {mi : M (List D)} {js vs : List Nat} {f : D → Rho → Option Rho} {tt : M Bool} {te : M Res} (hj : ∀ j ∈ js, j ∈ vs) : ∀ σ H Q, tE K (mLcH i mi f tt te vs) σ H Q → tLc (tIH K i mi) (gA K js f) (tT K tt) (tE K te) vs σ H Q := by
  rintro σ H Q ⟨C, ρ, G, rr, ρ', S, e, k⟩
  have usual : mLc mi f tt te vs ρ = some (rr, ρ') → tLc (tIH K i mi) (gA K js f) (tT K tt) (tE K te) vs σ H Q := fun e =>
    .inl (lc_of hj σ H Q ⟨C, ρ, G, rr, ρ', S, e, k⟩)
  unfold mLcH at e
  cases q : ρ[i]? with
  | none => rw [q] at e; exact usual e
  | some s =>
    rw [q] at e
    cases s with
    | no => exact usual e
    | sh d => exact usual e
    | mp d => exact usual e
    | ow d =>
      cases d with
      | list ds =>
        dsimp only at e
        cases q2 : mLc (fun ρ => some (ds, ρ)) f tt te vs (ρ.set i .no) with
        | none => rw [q2] at e; cases e
        | some p =>
          obtain ⟨r, ρe⟩ := p
          rw [q2] at e
          dsimp only at e
          cases q3 : ρe[i]? with
          | none => rw [q3] at e; cases e
          | some s2 =>
            rw [q3] at e
            cases s2 with
            | no =>
              cases e
              obtain ⟨ds', ρ1, acc, ρE, e1, nown, e2, rfl, rfl⟩ := mLc_fr q2
              cases e1
              obtain ⟨a, o, h1, h2, h3, h4, h5⟩ := S.ok i _ q
              have hs := joined h1
              have hi : i < ρ.length := (List.getElem?_eq_some_iff.mp q).1
              have own_of : ∀ j b, Owns σ (ρ.set i .no) j b → j ≠ i ∧ Owns σ ρ j b := fun j b ⟨s, z1, z2, z3⟩ => by
                by_cases hji : i = j
                · subst hji
                  rw [List.getElem?_set_self hi] at z1
                  cases z1; cases z2
                · rw [List.getElem?_set_ne hji] at z1
                  exact ⟨fun e => hji e.symm, s, z1, z2, z3⟩
              have me : Owns σ ρ i a := ⟨_, q, rfl, hs⟩
              have S1 : Sta K { C with T := (a, o) :: C.T } σ (ρ.set i .no) G H := by
                refine ⟨⟨S.fm.gh, S.fm.g0, S.fm.keep, S.fm.new, S.fm.mst⟩, by simpa using S.len, fun j s ej => ?_, fun j l b o1 o2 => S.inj j l b (own_of j b o1).2 (own_of l b o2).2, fun p hp => ?_⟩
                · by_cases hji : i = j
                  · subst hji
                    rw [List.getElem?_set_self hi] at ej
                    cases ej; trivial
                  · rw [List.getElem?_set_ne hji] at ej
                    exact S.ok j s ej
                · rcases List.mem_cons.mp hp with e | hp
                  · subst e
                    exact ⟨h2, h3, h5, fun j hj => (own_of j a hj).1 (S.inj j i a (own_of j a hj).2 me)⟩
                  · obtain ⟨z1, z2, z3, z4⟩ := S.tmp p hp
                    exact ⟨z1, z2, z3, fun j hj => z4 j (own_of j _ hj).2⟩
              have pa : ∀ p ∈ C.T, p.1 ≠ a := fun p hp ea => (S.tmp p hp).2.2.2 i (by rw [ea]; exact me)
              cases h4 with
              | lst hd =>
                rename_i xs
                refine .inr ⟨_, hs, .inl ⟨a, rfl, ⟨xs, .inl (.inl h2)⟩, ?_⟩⟩
                refine lc_walk (js := js) (f := f) hj S1 (C := { C with T := (a, .lst xs) :: C.T }) (ds := ds) (J := Itl K.k a) ?_ nown e2 fun v G' H' S' g' r' => ?_
                · intro G1 H1 g h1' ht
                  have r1 : SqL K.k H1 a xs := .inl (.inl (ht _ List.mem_cons_self))
                  refine ⟨fun n d ed => ?_, fun n hn => ⟨xs, r1, by rw [dpAll_len hd]; exact hn⟩⟩
                  obtain ⟨v, hv, z⟩ := dpAll_get' hd ed
                  refine ⟨⟨xs, v, r1, hv⟩, fun x H2 ⟨e, y⟩ => ?_⟩
                  subst e
                  have z2 := y xs r1
                  rw [hv] at z2
                  cases z2
                  exact ⟨G1, Ext.refl h1', .dat (dp_mono g z)⟩
                · obtain ⟨t1, t2, t3, t4⟩ := S'.tmp (a, .lst xs) List.mem_cons_self
                  have hl : i < (backR vs 0 (ρ.set i .no) (wipeR vs 0 ρE)).length := (List.getElem?_eq_some_iff.mp q3).1
                  have own2 : ∀ j b, Owns σ ((backR vs 0 (ρ.set i .no) (wipeR vs 0 ρE)).set i (.ow (.list ds))) j b → (j = i ∧ b = a) ∨ Owns σ (backR vs 0 (ρ.set i .no) (wipeR vs 0 ρE)) j b := fun j b ⟨s, z1, z2, z3⟩ => by
                    by_cases hji : i = j
                    · subst hji
                      rw [hs] at z3
                      cases z3
                      exact .inl ⟨rfl, rfl⟩
                    · rw [List.getElem?_set_ne hji] at z1
                      exact .inr ⟨s, z1, z2, z3⟩
                  refine k v G' H' ⟨⟨S'.fm.gh, S'.fm.g0, S'.fm.keep, S'.fm.new, S'.fm.mst⟩, by simpa using S'.len, fun j s ej => ?_, fun j l b o1 o2 => ?_, fun p hp => ?_⟩ g' ?_
                  · by_cases hji : i = j
                    · subst hji
                      rw [List.getElem?_set_self hl] at ej
                      cases ej
                      exact ⟨a, .lst xs, h1, t1, t2, .lst (dpAll_mono g' hd), t3⟩
                    · rw [List.getElem?_set_ne hji] at ej
                      have z := S'.ok j s ej
                      cases s <;> exact z
                  · rcases own2 j b o1 with ⟨rfl, rfl⟩ | o1
                    · rcases own2 l b o2 with ⟨rfl, _⟩ | o2
                      · rfl
                      · exact (t4 l o2).elim
                    · rcases own2 l b o2 with ⟨rfl, rfl⟩ | o2
                      · exact (t4 j o1).elim
                      · exact S'.inj j l b o1 o2
                  · obtain ⟨z1, z2, z3, z4⟩ := S'.tmp p (List.mem_cons_of_mem _ hp)
                    refine ⟨z1, z2, z3, fun j hj => ?_⟩
                    rcases own2 j _ hj with ⟨_, e⟩ | hj
                    · exact pa p hp e
                    · exact z4 j hj
                  · obtain ⟨b, u, z1, z2, z3, z4, z5, z6, z7⟩ := r'
                    refine ⟨b, u, z1, z2, z3, z4, z5, fun j hj => ?_, fun p hp => z7 p (List.mem_cons_of_mem _ hp)⟩
                    rcases own2 j _ hj with ⟨_, e⟩ | hj
                    · exact z7 (a, .lst xs) List.mem_cons_self e.symm
                    · exact z6 j hj
            | _ => cases e
      | _ => exact usual e
end Z
end

section
set_option Elab.async false
set_option linter.all false
set_option maxRecDepth 100000
set_option maxHeartbeats 2000000
/-! ZE: enumerate. -/
namespace Z
open PySem L2
section
open PySem.Spec PyProof.Rows PySem.W
set_option maxHeartbeats 1000000 in
theorem enum_new {v : Value} {o : Obj} {H : Heap → Prop} (B : Begins v o H) :
    Meets (Builtin.«enumerate.__new__» ⟨[.type "enumerate", v], []⟩) (fun _ R s => H s.heap ∧
      R (.ok (.ret (.ref (s.heap.push o).objs.size))) { s with heap := (s.heap.push o).push { cls := .type "enumerate", data := .fields #[.none, .bool false, .ref s.heap.objs.size, rawInt 0, .none, .none] } }) :=
  .of_wp fun prog w A R s h => by
    obtain ⟨hp, g, d, tk, os⟩ := s
    obtain ⟨h1, h⟩ := h
    have hsub := sub_enumerate
    have q1 : ∀ {A' : Around} {E : Value → Shared → Prop} {Q : Value → Shared → Prop}, Q (.ref hp.objs.size) ⟨hp.push o, g, d, tk, os⟩ → wpAny (model prog w) A' (pyIter v) Q E ⟨hp, g, d, tk, os⟩ := fun q => B.iter prog w _ _ ⟨hp, g, d, tk, os⟩ _ h1 q
    wp_walk using q1
    refine wpAny_stack_any fun st => wpAny_pure ?_
    split
    · rename_i c _ _ _ _ _
      cases (c == Value.type "enumerate") <;> (wp_walk using q1; exact ⟨_, rfl, h⟩)
    · wp_walk using q1
      exact ⟨_, rfl, h⟩
theorem enum_call {prog : Program} {w : World} {A : Around} {E : Value → Shared → Prop} {s : Shared} {v : Value} {o : Obj} {H : Heap → Prop} {Q : Value → Shared → Prop} (B : Begins v o H) (h1 : H s.heap)
    (h : ∀ h', IsEnum h' (s.heap.objs.size + 1) s.heap.objs.size 0 .none → h'.get? s.heap.objs.size = some o → (∀ b o, s.heap.get? b = some o → h'.get? b = some o) → Q (.ref (s.heap.objs.size + 1)) { s with heap := h' }) :
    wpAny (model prog w) A (call (.type "enumerate") [v]) Q E s := by
  refine callType_new F.called_enumerate (by decide) (F.typeCall_enumerate_1 _) (F.newCall_enumerate_1 _) (fun obj => F.args_object_init_2 obj _) F.entry_enumerate_new (enum_new B) ⟨h1, ?_⟩
  have hz : (s.heap.push o).objs.size = s.heap.objs.size + 1 := Heap.size_push ..
  show _ ∧ _
  rw [hz]
  have he : IsEnum ((s.heap.push o).push { cls := .type "enumerate", data := .fields #[.none, .bool false, .ref s.heap.objs.size, rawInt 0, .none, .none] }) (s.heap.objs.size + 1) s.heap.objs.size 0 .none := by
    have z := Heap.get?_push_size (s.heap.push o) (o := { cls := .type "enumerate", data := .fields #[.none, .bool false, .ref s.heap.objs.size, rawInt 0, .none, .none] }) rfl
    rw [hz] at z; exact z
  exact ⟨⟨_, he, rfl⟩, h _ he (Heap.get?_push_of_some _ (Heap.get?_push_size _ B.free)) fun b o x => Heap.get?_push_of_some _ (Heap.get?_push_of_some _ x)⟩
end
/-- a sequence at a: a list or a tuple -/
def SqA (K : PySem.W.Frag) (H : Hp) (a : Addr) (xs : List V) : Prop := SqL K H a xs ∨ SqT K H a xs
def IteA (tl : Bool) (K : PySem.W.Frag) (a : Addr) : It :=
  ⟨fun i H => ∃ (xs : List V) (x : V), (if tl then SqL K H a xs else SqT K H a xs) ∧ xs[i]? = some x, fun i H v H' => ∃ T x ob, v = .ref T ∧ H T = none ∧ ob.dict = none ∧ H' = upd H T (.frz ob (.tup [.int (i : Nat), x])) ∧ ∀ xs, (if tl then SqL K H a xs else SqT K H a xs) → xs[i]? = some x, fun i H => ∃ xs : List V, (if tl then SqL K H a xs else SqT K H a xs) ∧ xs.length ≤ i⟩
variable {X : Cx} {tg : Expr}
theorem turn_enumT {P : Program} {w : World} {K : PySem.W.Frag} {elts : List Expr} {kk : Nat} {tpos : Pos} (a e it : Addr) :
    Turn P w K (.Tuple elts kk tpos) (IteA false K a) [e, it] e (fun i h => (∃ old, IsEnum h e it ((i : Nat) : Int) old) ∧ h.IsTupleIter it a i ∧ e ≠ it) where
  mem := by simp
  obj := fun i h st b hb => by
    obtain ⟨⟨old, he⟩, ⟨o, ho, hc, hd⟩, _⟩ := st
    rcases (by simpa using hb : b = e ∨ b = it) with rfl | rfl
    · exact ⟨_, he, fun v q => nomatch q⟩
    · exact ⟨o, ho, fun v q => by rw [hd] at q; cases q⟩
  keep := fun i h h' st k => let ⟨⟨old, he⟩, hi, hne⟩ := st; ⟨⟨old, k e (by simp) _ he⟩, hi.at fun o q => k it (by simp) o q, hne⟩
  item := by
    intro X hP hw hK hc i pins s σ H E I hf st hg
    subst hP hw hK
    obtain ⟨⟨old, he⟩, hit, hne⟩ := st
    obtain ⟨xs, x, hq, hx⟩ := hg
    simp only [Bool.false_eq_true, if_false] at hq
    obtain ⟨its, rv, p, hz⟩ := I.tuple hq
    obtain ⟨u, hu, ru⟩ := rv.get hx
    have hel : e < s.heap.objs.size := Heap.lt_size he
    have hil : it < s.heap.objs.size := by obtain ⟨_, q, _⟩ := hit; exact Heap.lt_size q
    have p' : s.heap.IsTuple a its.toArray := p
    have hae : a ≠ it := by
      rintro rfl
      obtain ⟨o1, q1, c1, _⟩ := hit
      obtain ⟨o2, q2, c2, _⟩ := p'
      rw [q1] at q2; cases q2
      rw [c1] at c2
      exact absurd c2 (by decide)
    have hef : e ∉ [it, a] := by
      simp only [List.mem_cons, List.not_mem_nil, or_false, not_or]
      refine ⟨hne, ?_⟩
      rintro rfl
      obtain ⟨o2, q2, c2, _⟩ := p'
      have he' : s.heap.get? e = some _ := he
      rw [he'] at q2; cases q2
      injection (show Value.type "enumerate" = Value.type "tuple" from c2) with c3
      exact absurd c3 (by decide)
    refine wpAny_pyNext_enum_itemD (Draws.tuple (A := X.A.in1) (by simpa using I.ok.hd hc) it a hae its.toArray) he ⟨hit, p'⟩ (i := i) (by simpa using (List.getElem?_eq_some_iff.mp hu).1) hne hef fun y h' tk hy ho hst hT hsz hk => ?_
    have ey : y = u := by
      have : its.toArray[i]? = some u := by simpa using hu
      rw [this] at hy; exact (Option.some.inj hy).symm
    subst ey
    refine ⟨_, rfl, wpAny_letOwnedTupleGo_enum (s := { s with heap := h', toks := tk + 1 }) ho fun h'' he' sb => ?_⟩
    have hT2 : h''.get? s.heap.objs.size = some { cls := .type "tuple", data := .seq #[.int i tk, y] } := (sb.2 _ (Nat.ne_of_gt hel)).trans hT
    have new : ObjOk X.prog X.w (upd H s.heap.objs.size (.frz { cls := .type "tuple", data := .seq #[.int i tk, y] } (.tup [.int (i : Nat), x]))) h'' s.heap.objs.size (.frz { cls := .type "tuple", data := .seq #[.int i tk, y] } (.tup [.int (i : Nat), x])) :=
      ⟨hT2, by show 2 ≤ sizeLine; decide, [.int i tk, y], .cons ⟨_, rfl⟩ (.cons ru .nil), ⟨_, hT2, rfl, _, rfl⟩⟩
    have I1 : Inv X pins σ (upd H s.heap.objs.size (.frz { cls := .type "tuple", data := .seq #[.int i tk, y] } (.tup [.int (i : Nat), x]))) { s with heap := h'', toks := tk + 1 } :=
      I.turnedNew (ch := [e, it]) (fun b ob hb q => (sb.2 b (fun z => hb (by simp [z]))).trans (hk b ob (fun z => hb (by simp [z])) (fun z => hb (by simp [z])) q)) hf (Nat.le_refl _) new
    refine ⟨.ref s.heap.objs.size, _, I1, rfl, ⟨_, x, _, rfl, I.hok.fresh (Nat.le_refl _), rfl, rfl, fun ys hy' => ?_⟩, ⟨⟨y, ?_⟩, hst.1.at fun o q => (sb.2 it (Ne.symm hne)).trans q, hne⟩, fun b hb => ?_⟩
    · simp only [Bool.false_eq_true, if_false] at hy'
      rw [I.tuple_inj hy' hq]; exact hx
    · have e1 : ((i + 1 : Nat) : Int) = (i : Int) + 1 := by omega
      rw [e1]; exact he'
    · have hb' : b < s.heap.objs.size := by
        rcases (by simpa using hb : b = e ∨ b = it) with z | z
        · rw [z]; exact hel
        · rw [z]; exact hil
      rw [upd_ne (Nat.ne_of_lt hb')]
      exact (hf b hb).1
  done := by
    intro X hP hw hK hc i pins s σ H E I hf st hg
    subst hP hw hK
    obtain ⟨⟨old, he⟩, hit, hne⟩ := st
    obtain ⟨xs, hq, hx⟩ := hg
    simp only [Bool.false_eq_true, if_false] at hq
    obtain ⟨its, rv, p, hz⟩ := I.tuple hq
    obtain ⟨f0, f1, f2, f3, f4, f5⟩ := hf it (by simp)
    have hl := rv.length
    have p' : s.heap.IsTuple a its.toArray := p
    have hT : s.TypeIs (.ref e) "enumerate" := ⟨_, he, rfl⟩
    unfold pyNext
    refine wpAny_bind (wpAny_attempt (wpAny_callSpecial?_slot (name := Str.ofString "__next__") hT PySem.F.slot_enumerate_next
      (wpAny_call_entry PySem.F.slot_enumerate_next hT PySem.F.entry_enumerate_next ?_ (PySem.F.args_enumerate_next_1 _))))
    show wpAny _ _ (field (.ref e) 2 >>= _) _ _ _
    refine wpAny_bind (wpAny_field he rfl (x := .ref it) rfl ?_)
    refine wpAny_bind (wpAny_nextOf_tuple_end (by simpa using I.ok.hd hc) hit p' (by simp; omega) fun h' x he' hx' => ?_)
    obtain ⟨o, ho, hc2⟩ := hx'
    refine wpAny_bind (wpAny_isInstance (T := "StopIteration") (b := true) ⟨o, ho, hc2⟩ isSubtype_stop ?_)
    exact wpAny_pure ⟨rfl, I.turned (t' := s.toks) (fun b o hb q => he' b o hb q) f0 f1 f3 f4 f5⟩
  self := fun A i s Q E st h => let ⟨⟨_, he⟩, _⟩ := st; wpAny_pyIter_enum he h
theorem turn_enumL {P : Program} {w : World} {K : PySem.W.Frag} {elts : List Expr} {kk : Nat} {tpos : Pos} (a e it : Addr) :
    Turn P w K (.Tuple elts kk tpos) (IteA true K a) [e, it] e (fun i h => (∃ old, IsEnum h e it ((i : Nat) : Int) old) ∧ h.IsListIter it a i ∧ e ≠ it) where
  mem := by simp
  obj := fun i h st b hb => by
    obtain ⟨⟨old, he⟩, ⟨o, ho, hc, hd⟩, _⟩ := st
    rcases (by simpa using hb : b = e ∨ b = it) with rfl | rfl
    · exact ⟨_, he, fun v q => nomatch q⟩
    · exact ⟨o, ho, fun v q => by rw [hd] at q; cases q⟩
  keep := fun i h h' st k => let ⟨⟨old, he⟩, hi, hne⟩ := st; ⟨⟨old, k e (by simp) _ he⟩, hi.at fun o q => k it (by simp) o q, hne⟩
  item := by
    intro X hP hw hK hc i pins s σ H E I hf st hg
    subst hP hw hK
    obtain ⟨⟨old, he⟩, hit, hne⟩ := st
    obtain ⟨xs, x, hq, hx⟩ := hg
    simp only [if_true] at hq
    obtain ⟨its, rv, p, hz⟩ := I.list hq
    obtain ⟨u, hu, ru⟩ := rv.get hx
    have hel : e < s.heap.objs.size := Heap.lt_size he
    have hil : it < s.heap.objs.size := by obtain ⟨_, q, _⟩ := hit; exact Heap.lt_size q
    have p' : s.heap.IsList a its.toArray := p.isList
    have hae : a ≠ it := by
      rintro rfl
      obtain ⟨o1, q1, c1, _⟩ := hit
      obtain ⟨o2, q2, c2, _⟩ := p'
      rw [q1] at q2; cases q2
      rw [c1] at c2
      exact absurd c2 (by decide)
    have hef : e ∉ [it, a] := by
      simp only [List.mem_cons, List.not_mem_nil, or_false, not_or]
      refine ⟨hne, ?_⟩
      rintro rfl
      obtain ⟨o2, q2, c2, _⟩ := p'
      have he' : s.heap.get? e = some _ := he
      rw [he'] at q2; cases q2
      injection (show Value.type "enumerate" = Value.type "list" from c2) with c3
      exact absurd c3 (by decide)
    refine wpAny_pyNext_enum_itemD (Draws.list (A := X.A.in1) (by simpa using I.ok.hd hc) it a hae its.toArray) he ⟨hit, p'⟩ (i := i) (by simpa using (List.getElem?_eq_some_iff.mp hu).1) hne hef fun y h' tk hy ho hst hT hsz hk => ?_
    have ey : y = u := by
      have : its.toArray[i]? = some u := by simpa using hu
      rw [this] at hy; exact (Option.some.inj hy).symm
    subst ey
    refine ⟨_, rfl, wpAny_letOwnedTupleGo_enum (s := { s with heap := h', toks := tk + 1 }) ho fun h'' he' sb => ?_⟩
    have hT2 : h''.get? s.heap.objs.size = some { cls := .type "tuple", data := .seq #[.int i tk, y] } := (sb.2 _ (Nat.ne_of_gt hel)).trans hT
    have new : ObjOk X.prog X.w (upd H s.heap.objs.size (.frz { cls := .type "tuple", data := .seq #[.int i tk, y] } (.tup [.int (i : Nat), x]))) h'' s.heap.objs.size (.frz { cls := .type "tuple", data := .seq #[.int i tk, y] } (.tup [.int (i : Nat), x])) :=
      ⟨hT2, by show 2 ≤ sizeLine; decide, [.int i tk, y], .cons ⟨_, rfl⟩ (.cons ru .nil), ⟨_, hT2, rfl, _, rfl⟩⟩
    have I1 : Inv X pins σ (upd H s.heap.objs.size (.frz { cls := .type "tuple", data := .seq #[.int i tk, y] } (.tup [.int (i : Nat), x]))) { s with heap := h'', toks := tk + 1 } :=
      I.turnedNew (ch := [e, it]) (fun b ob hb q => (sb.2 b (fun z => hb (by simp [z]))).trans (hk b ob (fun z => hb (by simp [z])) (fun z => hb (by simp [z])) q)) hf (Nat.le_refl _) new
    refine ⟨.ref s.heap.objs.size, _, I1, rfl, ⟨_, x, _, rfl, I.hok.fresh (Nat.le_refl _), rfl, rfl, fun ys hy' => ?_⟩, ⟨⟨y, ?_⟩, hst.1.at fun o q => (sb.2 it (Ne.symm hne)).trans q, hne⟩, fun b hb => ?_⟩
    · simp only [if_true] at hy'
      rw [I.list_inj hy' hq]; exact hx
    · have e1 : ((i + 1 : Nat) : Int) = (i : Int) + 1 := by omega
      rw [e1]; exact he'
    · have hb' : b < s.heap.objs.size := by
        rcases (by simpa using hb : b = e ∨ b = it) with z | z
        · rw [z]; exact hel
        · rw [z]; exact hil
      rw [upd_ne (Nat.ne_of_lt hb')]
      exact (hf b hb).1
  done := by
    intro X hP hw hK hc i pins s σ H E I hf st hg
    subst hP hw hK
    obtain ⟨⟨old, he⟩, hit, hne⟩ := st
    obtain ⟨xs, hq, hx⟩ := hg
    simp only [if_true] at hq
    obtain ⟨its, rv, p, hz⟩ := I.list hq
    obtain ⟨f0, f1, f2, f3, f4, f5⟩ := hf it (by simp)
    have hl := rv.length
    have p' : s.heap.IsList a its.toArray := p.isList
    have hT : s.TypeIs (.ref e) "enumerate" := ⟨_, he, rfl⟩
    unfold pyNext
    refine wpAny_bind (wpAny_attempt (wpAny_callSpecial?_slot (name := Str.ofString "__next__") hT PySem.F.slot_enumerate_next
      (wpAny_call_entry PySem.F.slot_enumerate_next hT PySem.F.entry_enumerate_next ?_ (PySem.F.args_enumerate_next_1 _))))
    show wpAny _ _ (field (.ref e) 2 >>= _) _ _ _
    refine wpAny_bind (wpAny_field he rfl (x := .ref it) rfl ?_)
    refine wpAny_bind (wpAny_nextOf_list_end (by simpa using I.ok.hd hc) hit p' (by simp; omega) fun h' x he' hx' => ?_)
    obtain ⟨o, ho, hc2⟩ := hx'
    refine wpAny_bind (wpAny_isInstance (T := "StopIteration") (b := true) ⟨o, ho, hc2⟩ isSubtype_stop ?_)
    exact wpAny_pure ⟨rfl, I.turned (t' := s.toks) (fun b o hb q => he' b o hb q) f0 f1 f3 f4 f5⟩
  self := fun A i s Q E st h => let ⟨⟨_, he⟩, _⟩ := st; wpAny_pyIter_enum he h
def iEnumA (K : PySem.W.Frag) (ta : TA) : TI := fun σ H R => ta σ H fun vs H1 => ∃ a xs, vs = [.ref a] ∧ ((SqL K H1 a xs ∧ R (IteA true K a) H1) ∨ (SqT K H1 a xs ∧ R (IteA false K a) H1))
theorem pi_enumA {e : Expr} {ta : TA} {p pos tpos : Pos} {elts : List Expr} {kk : Nat} (hg : Gl X "enumerate") (hm : X.mg "enumerate" = none) (ha : PA X [e] ta) (hs : starEach [e] X.env = [(false, eval e X.env)] := by rfl) :
    PI X (.Tuple elts kk tpos) (.Call (.Name "enumerate" p) [e] [] pos) (iEnumA X.K ta) := by
  refine ⟨fun pins s σ H R I h => PyProof.Rows.Call_ (ld_blt I hg hm PyProof.Rows.boot_enumerate (PyProof.Rows.callWith_type1 (thn (ha.run pos pins s σ H _ I h) fun us s1 ⟨vs, H1, I1, r1, q1⟩ => ?_) hs rfl))⟩
  obtain ⟨a, xs, ex, q1⟩ := q1
  subst ex
  cases r1 with
  | cons r rr =>
    cases rr
    cases r
    have fresh : ∀ b, b ∈ [s1.heap.objs.size + 1, s1.heap.objs.size] → FpOk X pins H1 b := fun b hb => by
      have hle : s1.heap.objs.size ≤ b := by
        rcases (by simpa using hb : b = s1.heap.objs.size + 1 ∨ b = s1.heap.objs.size) with z | z
        · rw [z]; exact Nat.le_add_right _ _
        · rw [z]; exact Nat.le_refl _
      exact I1.fpOk hle (I1.hok.fresh hle)
    rcases q1 with ⟨hq, q⟩ | ⟨hq, q⟩
    · obtain ⟨its, rv, p', hz⟩ := I1.list hq
      refine call_enumerate_list p'.isList fun h' he hit hsz hk => wpAny_pyIter_enum he ?_
      exact ⟨s1.heap.objs.size + 1, [s1.heap.objs.size + 1, s1.heap.objs.size], _, _, H1, rfl, I1.kept (t' := s1.toks) hk, turn_enumL a (s1.heap.objs.size + 1) s1.heap.objs.size, ⟨⟨.none, he⟩, hit, Nat.succ_ne_self _⟩, fresh, q⟩
    · obtain ⟨its, rv, p', hz⟩ := I1.tuple hq
      refine enum_call (begins_tuple a its.toArray) (show s1.heap.IsTuple a its.toArray from p') fun h' he hit hk => wpAny_pyIter_enum he ?_
      exact ⟨s1.heap.objs.size + 1, [s1.heap.objs.size + 1, s1.heap.objs.size], _, _, H1, rfl, I1.kept (t' := s1.toks) hk, turn_enumT a (s1.heap.objs.size + 1) s1.heap.objs.size, ⟨⟨.none, he⟩, ⟨_, hit, rfl, rfl⟩, Nat.succ_ne_self _⟩, fresh, q⟩
def numbered (ds : List D) : List D := ds.zipIdx.map fun p => .tuple [.int (p.2 : Int), p.1]
def mEnum (m : M (List D)) : M (List D) := bnd m fun as ρ => match as with
  | [.list ds] => some (numbered ds, ρ)
  | [.tuple ds] => some (numbered ds, ρ)
  | _ => none
theorem numbered_at {ds : List D} {i : Nat} {d : D} (h : (numbered ds)[i]? = some d) : ∃ e, ds[i]? = some e ∧ d = .tuple [.int (i : Int), e] := by
  unfold numbered at h
  rw [List.getElem?_map, List.getElem?_zipIdx] at h
  cases q : ds[i]? with
  | none => rw [q] at h; cases h
  | some e => rw [q] at h; simp at h; exact ⟨e, rfl, h.symm⟩
theorem walks_enum {K : Fr} {T : List (Addr × HO)} {G : Hp} {xs : List V} {ds : List D} {J : It} {Sq : Hp → List V → Prop} (hd : DqAll K.k G xs ds) (r : ∀ H1, Same G H1 → Sq H1 xs) (go : ∀ i H, (∃ (xs : List V) (x : V), Sq H xs ∧ xs[i]? = some x) → J.go i H)
    (yl : ∀ i H v H', J.yld i H v H' → ∃ T x ob, v = .ref T ∧ H T = none ∧ ob.dict = none ∧ H' = upd H T (.frz ob (.tup [.int (i : Nat), x])) ∧ ∀ xs, Sq H xs → xs[i]? = some x) (st : ∀ i H, (∃ xs : List V, Sq H xs ∧ xs.length ≤ i) → J.stop i H) : Walks K T G (numbered ds) J := by
  intro G1 H1 g h1 _
  have r1 := r H1 (g.trans h1)
  refine ⟨fun i d ed => ?_, fun i hi => st i H1 ⟨xs, r1, by rw [dpAll_len hd]; simpa [numbered] using hi⟩⟩
  obtain ⟨e, he, rfl⟩ := numbered_at ed
  obtain ⟨v, hv, q⟩ := dpAll_get' hd he
  refine ⟨go i H1 ⟨xs, v, r1, hv⟩, fun x H2 y => ?_⟩
  obtain ⟨T, z, ob, rfl, n, hob, rfl, f⟩ := yl i H1 x H2 y
  have := f xs r1
  rw [hv] at this; cases this
  obtain ⟨x1, x2⟩ := new_tup (K := K) (vs := [.int (i : Nat), v]) (ds := [.int (i : Int), e]) h1 n hob (.cons (.int _) (.cons (dp_mono g q) .nil))
  exact ⟨_, x1, x2⟩
theorem enum_of {K : Fr} {m : M (List D)} : ∀ σ H R, tI K (mEnum m) σ H R → iEnumA K.k (tL K m) σ H R := by
  rintro σ H Rx ⟨C, ρ, G, ds, ρ', S, e, kk⟩
  obtain ⟨as, ρ1, e1, e⟩ := bnd_some e
  refine ⟨C, ρ, G, as, ρ1, S, e1, fun vs G1 H1 S1 g1 rp => ?_⟩
  split at e
  · rename_i ds'
    cases e
    cases rp with
    | cons h hs =>
      cases hs
      obtain ⟨a, xs, rfl, h1, h2⟩ := seqL_of h
      refine ⟨a, xs, rfl, .inl ⟨.inl (Evl.ex_rd S1.fm.gh h1), kk _ G1 H1 S1 g1 (walks_enum (Sq := fun H xs => SqL K.k H a xs) h2 (fun H' g => .inl (Evl.ex_rd g h1)) (fun i H z => by simpa [IteA] using z) (fun i H v H' z => by simpa [IteA] using z) fun i H z => by simpa [IteA] using z)⟩⟩
  · rename_i ds'
    cases e
    cases rp with
    | cons h hs =>
      cases hs
      obtain ⟨a, xs, rfl, h1, h2⟩ := rp_tup (H := H1) (.inl h)
      refine ⟨a, xs, rfl, .inr ⟨sqT_mono S1.fm.gh h1, kk _ G1 H1 S1 g1 (walks_enum (Sq := fun H xs => SqT K.k H a xs) h2 (fun H' g => sqT_mono g h1) (fun i H z => by simpa [IteA] using z) (fun i H v H' z => by simpa [IteA] using z) fun i H z => by simpa [IteA] using z)⟩⟩
  · cases e
end Z
end

section
set_option Elab.async false
set_option linter.all false
set_option maxRecDepth 100000
set_option maxHeartbeats 2000000
/-! ZF: isinstance, chained comparisons, what changes a list. -/
namespace Z
open PySem L2
variable {X : Cx}

/-! ### isinstance(x, T), T a built-in type -/
def tyD : D → String
  | .none => "NoneType"
  | .bool _ => "bool"
  | .int _ => "int"
  | .str _ => "str"
  | .list _ => "list"
  | .tuple _ => "tuple"
  | .dict _ => "dict"
def tyNames : List String := ["NoneType", "bool", "int", "str", "list", "tuple"]
def tyAsked : List String := ["bool", "int", "str", "list", "tuple", "dict"]
def tyIn (a b : String) : Bool := a == b || (a == "bool" && b == "int")
theorem kitB_all : (tyNames.all fun a => tyAsked.all fun b => kitB a b == some (tyIn a b)) = true := by decide +kernel
theorem kitB_ok {a b : String} (ha : a ∈ tyNames) (hb : b ∈ tyAsked) : kitB a b = some (tyIn a b) := by
  have h := List.all_eq_true.mp (List.all_eq_true.mp kitB_all a ha) b hb
  exact eq_of_beq h
def dIsi (T : String) (d : D) : Option Rs := if !isDict d && decide (T ∈ tyAsked) then some (.val (.bool (tyIn (tyD d) T))) else none
theorem tyD_mem {d : D} (h : isDict d = false) : tyD d ∈ tyNames := by
  cases d with
  | dict _ => cases h
  | none => decide
  | bool _ => show "bool" ∈ tyNames; decide
  | int _ => show "int" ∈ tyNames; decide
  | str _ => show "str" ∈ tyNames; decide
  | list _ => show "list" ∈ tyNames; decide
  | tuple _ => show "tuple" ∈ tyNames; decide
theorem tyx_of {K : Fr} {H : Hp} {v : V} {d : D} (h : Dq K.k H v d) : TyX K.k H v (.type (tyD d)) := by
  cases h with
  | non => exact .base .non
  | bl b => exact .base (.bl b)
  | int i => exact .base (.int i)
  | str x => exact .base (.str x)
  | lst h _ =>
    rcases h with h | ⟨o, h⟩
    · exact .base (.lst h)
    · exact .base (.frz h)
  | tup h _ =>
    rcases h with ⟨o, h, _⟩ | ⟨o, its, n, h1, h2, _⟩
    · exact .fTuple h
    · exact .kTuple h1 h2
def rIsi1 (K : Fr) (T : String) : V → Hp → VK → Prop := fun x H Q => rIsi K.k [x, .ty T] H Q
theorem isiG {K : Fr} {T : String} : UnG K (rIsi1 K T) (dIsi T) := by
  intro x G H d rs Q s rx hd k
  unfold dIsi at hd
  obtain ⟨c, hd⟩ := if_some hd
  cases hd
  rw [Bool.and_eq_true, Bool.not_eq_true', decide_eq_true_eq] at c
  exact ⟨x, .ty T, _, _, _, rfl, .ty T, tyx_of (rx.dq s c.1), kit_ty (kitB_ok (tyD_mem c.1) c.2), k _ G H (Ext.refl s) val_bl⟩
theorem isi_of {K : Fr} {T : String} {m : M Res} : ∀ σ H Q, tE K (mUn (dIsi T) m) σ H Q → tCB (rIsi K.k) (tCons (tE K m) (tCons (tC (.ty T)) tNil)) σ H Q := fun σ H Q h => by
  obtain ⟨C, ρ, G, rr, ρ', S, e, k⟩ := tUn_of (isiG (K := K) (T := T)) σ H Q h
  exact ⟨C, ρ, G, rr, ρ', S, e, k⟩

/-! ### a < b < c -/
def mChain (g g' : D → D → Option Rs) (ma mb mc : M Res) : M Res := bnd ma fun ra => bnd mb fun rb ρ => match rb with
  | .sh e => match look ρ ra with
    | some d => match g d e with
      | some (.val (.bool true)) => (bnd mc fun rc ρ' => match look ρ' rc with
          | some f => match g' e f with
            | some r => some (r.res, ρ')
            | none => none
          | none => none) ρ
      | some (.val (.bool false)) => some (.sh (.bool false), ρ)
      | _ => none
    | none => none
  | _ => none
theorem chain_of {K : Fr} {r r' : R2} {g g' : D → D → Option Rs} (hg : OpG K r g) (hg' : OpG K r' g') {ma mb mc : M Res} : ∀ σ H Q, tE K (mChain g g' ma mb mc) σ H Q → tChain r r' (tE K ma) (tE K mb) (tE K mc) σ H Q := by
  rintro σ H Q ⟨C, ρ, G, rr, ρ', S, e, k⟩
  obtain ⟨ra, ρ1, e1, e⟩ := bnd_some e
  obtain ⟨rb, ρ2, e2, e⟩ := bnd_some e
  refine ⟨C, ρ, G, ra, ρ1, S, e1, fun v G1 H1 S1 g1 r1 => ?_⟩
  obtain ⟨C', S1', hold⟩ := r1.hold S1
  refine ⟨C', ρ1, G1, rb, ρ2, S1', e2, fun u G2 H2 S2' g2 r2' => ?_⟩
  obtain ⟨S2, r1', back⟩ := hold ρ2 G2 H2 S2' g2
  cases rb with
  | fr d => cases e
  | bw i => cases e
  | sh e0 =>
    have r2 : Rp K G2 u e0 := r2'
    dsimp only at e
    cases q1 : look ρ2 ra with
    | none => simp only [q1] at e; cases e
    | some d =>
      simp only [q1] at e
      cases q3 : g d e0 with
      | none => rw [q3] at e; cases e
      | some rs =>
        rw [q3] at e
        cases rs with
        | new _ => cases e
        | val x =>
          cases x <;> try cases e
          rename_i b
          refine hg v u G2 H2 d e0 _ _ S2.fm.gh (r1'.read S2 q1) (.inl r2) q3 fun w G3 H3 x ok => ?_
          have ok' : Rp K G3 w (.bool b) := ok
          refine ⟨b, rp_bool (H := H3) (.inl ok'), ?_⟩
          have S3 := S2.ext x
          cases b with
          | false =>
            simp only [Bool.false_eq_true, if_false]
            cases e
            exact k _ G3 H3 S3 ((g1.trans g2).trans x.g) (Rp.dat (.bl false))
          | true =>
            simp only [if_true]
            dsimp only at e
            obtain ⟨rc, ρ3, e3, e⟩ := bnd_some e
            refine ⟨C, ρ2, G3, rc, ρ3, S3, e3, fun z G4 H4 S4 g4 r4 => ?_⟩
            cases q4 : look ρ3 rc with
            | none => simp only [q4] at e; cases e
            | some f =>
              simp only [q4] at e
              cases q5 : g' e0 f with
              | none => rw [q5] at e; cases e
              | some rs2 =>
                rw [q5] at e; cases e
                exact hg' u z G4 H4 e0 f rs2 Q S4.fm.gh (.inl (rp_mono g4 (rp_mono x.g r2))) (r4.read S4 q4) q5 fun w2 G5 H5 x5 ok5 => k w2 G5 H5 (S4.ext x5) ((((g1.trans g2).trans x.g).trans g4).trans x5.g) (rok_of_rs S4 x5 ok5)

/-! ### what changes a list -/
theorem con_lst {K : Fr} {G : Hp} {a : Addr} {o : HO} {ds : List D} (h : Con K G a o (.list ds)) : ∃ xs, o = .lst xs ∧ DqAll K.k G xs ds := by
  cases h with
  | lst h => exact ⟨_, rfl, h⟩
def mtAppend : D → List D → Option (D × D)
  | .list ds, [e] => if !isDict e && decide (ds.length < big) then some (.list (ds ++ [e]), .none) else none
  | _, _ => none
theorem appendG {K : Fr} : MtG K rAppend mtAppend := by
  intro xs G H a o d ds d' rd Q s ha hn hc rp hg k
  cases d <;> try cases hg
  rename_i zs
  obtain ⟨vs, rfl, hz⟩ := con_lst hc
  cases rp with
  | nil => cases hg
  | cons h hs =>
    cases hs with
    | cons _ _ => cases hg
    | nil =>
      have hg' : (if !isDict _ && decide (zs.length < big) then some (PyData.list (zs ++ [_]), PyData.none) else none) = some (d', rd) := hg
      obtain ⟨c, hg'⟩ := if_some hg'
      cases hg'
      rw [Bool.and_eq_true, Bool.not_eq_true', decide_eq_true_eq] at c
      exact ⟨a, vs, _, rfl, rfl, ha, by rw [dpAll_len hz]; exact Nat.lt_of_lt_of_le c.2 big_line, k _ _ (.lst (dpAll_append hz (.cons (h.dq c.1) .nil))) (Rp.dat .non)⟩
/-- xs.extend(ys), ys a list -/
def rExtendR : V → List V → Hp → VK → Prop := fun x vs H Q => ∃ l b xs zs, x = V.ref l ∧ vs = [V.ref b] ∧ H l = some (.lst xs) ∧ Rd H b (.lst zs) ∧ xs.length + zs.length ≤ sizeLine ∧ Q .non (upd H l (.lst (xs ++ zs)))
theorem mt_extendR : MtM X "list.extend" rExtendR := by
  intro pins s σ H x vs v us Q I rx rv h
  obtain ⟨l, b, xs, zs, rfl, rfl, hH, hB, hz, q⟩ := h
  cases rx
  obtain ⟨u, rfl, ru⟩ := rv.one
  cases ru
  obtain ⟨z, its, n, r, hl, e⟩ := I.lstM hH
  obtain ⟨z2, its2, n2, r2, e2⟩ : zs.length ≤ sizeLine ∧ ∃ (its2 : List Value) (n2 : Nat), Vals zs its2 ∧ s.heap.get? b = some { cls := .type "list", data := .seq its2.toArray n2 } := hB.ok I.hok
  have hl2 := r2.length
  have hsz : its.toArray.size + its2.toArray.size ≤ sizeLine := by rw [List.size_toArray, List.size_toArray]; omega
  have hlong : ¬ (!its.toArray.isEmpty && Builtin.List.listTooLong (its.toArray.size + its2.toArray.size)) = true := by
    rw [notLongL hsz, Bool.and_false]; exact Bool.false_ne_true
  refine call_meets PySem.F.slot_list_extend ⟨_, e, rfl⟩ PySem.F.entry_list_extend (PySem.F.args_list_extend_2 _ _) (AutoSeq1.list_extend_list_list_0 l its.toArray n b its2.toArray n2 hlong (by rw [List.size_toArray]; omega) (by omega)) ⟨e, e2, ?_⟩
  exact ⟨.non, _, I.lset (its' := its ++ its2) hH e (by simp) (r.append r2) (by rw [List.length_append]; omega), rfl, q⟩
def mtExtend : D → List D → Option (D × D)
  | .list ds, [.list es] => if decide (ds.length + es.length < big) then some (.list (ds ++ es), .none) else none
  | _, _ => none
theorem extendG {K : Fr} : MtG K rExtendR mtExtend := by
  intro xs G H a o d ds d' rd Q s ha hn hc rp hg k
  cases d <;> try cases hg
  rename_i zs
  obtain ⟨vs, rfl, hz⟩ := con_lst hc
  cases rp with
  | nil => cases hg
  | cons h hs =>
    cases hs with
    | cons _ _ => rename_i d0 _ _ _ _ _ _; cases d0 <;> cases hg
    | nil =>
      rename_i v d
      cases d <;> try cases hg
      rename_i es
      have hg' : (if decide (zs.length + es.length < big) then some (PyData.list (zs ++ es), PyData.none) else none) = some (d', rd) := hg
      obtain ⟨c, hg'⟩ := if_some hg'
      cases hg'
      rw [decide_eq_true_eq] at c
      obtain ⟨b, ys, rfl, h1, h2⟩ := rp_lst s (Or.inl h)
      exact ⟨a, b, vs, ys, rfl, rfl, ha, h1, by rw [dpAll_len hz, dpAll_len h2]; exact Nat.le_trans (Nat.le_of_lt c) big_line, k _ _ (.lst (dpAll_append hz h2)) (Rp.dat .non)⟩
def mtPop : D → List D → Option (D × D)
  | .list ds, [] => match ds.getLast? with
    | some e => some (.list ds.dropLast, e)
    | none => none
  | _, _ => none
theorem popG {K : Fr} : MtG K rPop mtPop := by
  intro xs G H a o d ds d' rd Q s ha hn hc rp hg k
  cases d <;> try cases hg
  rename_i zs
  obtain ⟨vs, rfl, hz⟩ := con_lst hc
  cases rp with
  | cons _ _ => cases hg
  | nil =>
    have hg' : (match zs.getLast? with | some e => some (PyData.list zs.dropLast, e) | none => none) = some (d', rd) := hg
    cases q : zs.getLast? with
    | none => rw [q] at hg'; cases hg'
    | some e =>
      rw [q] at hg'; cases hg'
      rw [List.getLast?_eq_getElem?] at q
      obtain ⟨v, hv, hq⟩ := dpAll_get' hz q
      rw [← dpAll_len hz] at hv
      exact ⟨a, vs, v, rfl, rfl, ha, hv, k _ _ (.lst (dpAll_dropLast hz)) (Rp.dat hq)⟩
def mtPopAt : D → List D → Option (D × D)
  | .list ds, [.int i] => if decide (-(2 ^ 63) ≤ i ∧ i < 2 ^ 63) then match seqIndex? i ds.length with
      | some j => match ds[j]? with
        | some e => some (.list (ds.eraseIdx j), e)
        | none => none
      | none => none
    else none
  | _, _ => none
theorem popAtG {K : Fr} : MtG K rPopAt mtPopAt := by
  intro xs G H a o d ds d' rd Q s ha hn hc rp hg k
  cases d <;> try cases hg
  rename_i zs
  obtain ⟨vs, rfl, hz⟩ := con_lst hc
  cases rp with
  | nil => cases hg
  | cons h hs =>
    cases hs with
    | cons _ _ => rename_i d0 _ _ _ _ _ _; cases d0 <;> cases hg
    | nil =>
      rename_i v d
      cases d <;> try cases hg
      rename_i i
      have hg' : (if decide (-(2 ^ 63) ≤ i ∧ i < 2 ^ 63) then match seqIndex? i zs.length with
        | some j => match zs[j]? with
          | some e => some (PyData.list (zs.eraseIdx j), e)
          | none => none
        | none => none
        else none) = some (d', rd) := hg
      obtain ⟨c, hg'⟩ := if_some hg'
      rw [decide_eq_true_eq] at c
      cases q : seqIndex? i zs.length with
      | none => rw [q] at hg'; cases hg'
      | some j =>
        rw [q] at hg'
        dsimp only at hg'
        cases q2 : zs[j]? with
        | none => rw [q2] at hg'; cases hg'
        | some e =>
          rw [q2] at hg'; cases hg'
          obtain ⟨w, hw, hq⟩ := dpAll_get' hz q2
          exact ⟨a, vs, i, j, w, rfl, by rw [rp_int (H := H) (.inl h)], ha, c.1, c.2, by rw [dpAll_len hz]; exact q, hw, k _ _ (.lst (dpAll_erase j hz)) (Rp.dat hq)⟩
def rPopX : V → List V → Hp → VK → Prop := fun x vs H Q => rPop x vs H Q ∨ rPopAt x vs H Q
theorem mt_popX : MtM X "list.pop" rPopX := by
  intro pins s σ H x vs v us Q I rx rv h
  rcases h with h | h
  · exact mt_pop pins s σ H x vs v us Q I rx rv h
  · exact mt_popAt pins s σ H x vs v us Q I rx rv h
def orM (g g' : D → List D → Option (D × D)) (d : D) (ds : List D) : Option (D × D) := match g d ds with
  | some z => some z
  | none => g' d ds
theorem MtG.or {K : Fr} {r r' : V → List V → Hp → VK → Prop} {g g' : D → List D → Option (D × D)} (h : MtG K r g) (h' : MtG K r' g') : MtG K (fun x vs H Q => r x vs H Q ∨ r' x vs H Q) (orM g g') := by
  intro xs G H a o d ds d' rd Q s ha hn hc rp hg k
  unfold orM at hg
  cases q : g d ds with
  | some z => rw [q] at hg; cases hg; exact .inl (h xs G H a o d ds d' rd Q s ha hn hc rp q k)
  | none => rw [q] at hg; exact .inr (h' xs G H a o d ds d' rd Q s ha hn hc rp hg k)
end Z
end

section
set_option Elab.async false
set_option linter.all false
set_option maxRecDepth 100000
set_option maxHeartbeats 2000000
/-! ZG: dicts over data. -/
namespace Z
open PySem L2
variable {X : Cx}

/-! ### contents by keys -/
def eqK (a b : D) : Bool := match nk a, nk b with
  | some x, some y => decide (x = y)
  | _, _ => false
def valD (kvs : List (D × D)) (k : D) : Option D := (kvs.find? fun q => eqK q.1 k).map (·.2)
def hasD (kvs : List (D × D)) (k : D) : Bool := kvs.any fun q => eqK q.1 k
def putD (kvs : List (D × D)) (k e : D) : List (D × D) := if hasD kvs k then kvs.map (fun q => if eqK q.1 k then (q.1, e) else q) else kvs ++ [(k, e)]
def allK (kvs : List (D × D)) : Bool := kvs.all fun q => (keyD q.1).isSome
def allN (kvs : List (D × D)) : Bool := kvs.all fun q => isTup q.1
def nkOk (d : D) : Bool := isTup d && match nk d with
  | some k => decide (k.depth ≤ 8)
  | none => false
theorem any_find {α : Type} (f : α → Bool) : ∀ l : List α, l.any f = (l.find? f).isSome
  | [] => rfl
  | x :: l => by
    rw [List.any_cons, List.find?_cons]
    cases f x with
    | true => rfl
    | false => simpa using any_find f l
theorem keyN_inj {a b : Key} (h : keyN a = keyN b) : a = b := by
  cases a <;> cases b <;> simp only [keyN] at h <;> first
    | (injection h with h; rw [h])
    | cases h
theorem eqK_key {d e : D} {a b : Key} (h : keyD d = some a) (h' : keyD e = some b) : eqK d e = decide (a = b) := by
  unfold eqK
  rw [(nk_of_keyD h).1, (nk_of_keyD h').1]
  dsimp only
  by_cases c : a = b
  · rw [c]; simp
  · rw [decide_eq_false c, decide_eq_false fun e => c (keyN_inj e)]
theorem eqK_nk {d e : D} {a b : NestedKey} (h : nk d = some a) (h' : nk e = some b) : eqK d e = decide (a = b) := by
  unfold eqK
  rw [h, h']
section
variable {K : Fr} {G : Hp}
theorem kv_val {k : D} {key : Key} (hk : keyD k = some key) : ∀ {kv : List (Key × V)} {kvs : List (D × D)}, KvR K G kv kvs → (valV kv key = none ∧ valD kvs k = none) ∨ ∃ v d, valV kv key = some v ∧ valD kvs k = some d ∧ Dq K.k G v d
  | _, _, .nil => .inl ⟨rfl, rfl⟩
  | p :: ps, q :: qs, .cons h hs => by
    have e := eqK_key h.1 hk
    by_cases c : p.1 = key
    · rw [decide_eq_true c] at e
      exact .inr ⟨p.2, q.2, valV_pos c, by simp [valD, List.find?_cons, e], h.2⟩
    · rw [decide_eq_false c] at e
      rw [valV_neg c, show valD (q :: qs) k = valD qs k by simp [valD, List.find?_cons, e]]
      exact kv_val hk hs
theorem kv_has {k : D} {key : Key} (hk : keyD k = some key) {kv : List (Key × V)} {kvs : List (D × D)} (h : KvR K G kv kvs) : (valV kv key).isSome = hasD kvs k := by
  have e : hasD kvs k = (valD kvs k).isSome := by unfold hasD valD; rw [Option.isSome_map]; exact any_find _ _
  rw [e]
  rcases kv_val hk h with ⟨a, b⟩ | ⟨v, d, a, b, _⟩ <;> rw [a, b] <;> rfl
theorem kv_put {k e : D} {key : Key} {v : V} (hk : keyD k = some key) (hv : Dq K.k G v e) {kv : List (Key × V)} {kvs : List (D × D)} (h : KvR K G kv kvs) : KvR K G (putK kv key v) (putD kvs k e) := by
  unfold putK putD
  rw [valV_any, kv_has hk h]
  by_cases c : hasD kvs k = true
  · rw [if_pos c, if_pos c]
    clear c
    induction h with
    | nil => exact .nil
    | @cons p q ps qs h t ih =>
      rw [List.map_cons, List.map_cons]
      refine .cons ?_ ih
      have e := eqK_key h.1 hk
      by_cases c : p.1 = key
      · rw [decide_eq_true c] at e
        rw [if_pos c, if_pos e]; exact ⟨h.1, hv⟩
      · rw [decide_eq_false c] at e
        rw [if_neg c, if_neg (by rw [e]; decide)]; exact h
  · rw [if_neg c, if_neg c]
    exact Paired.snoc h ⟨hk, hv⟩
def valN (xs : List NRow) (k : NestedKey) : Option V := (xs.find? fun x => decide (x.1 = k)).map (·.2.2)
def hasN (xs : List NRow) (k : NestedKey) : Bool := xs.any fun x => decide (x.1 = k)
def putN (xs : List NRow) (k : NestedKey) (p : Addr) (v : V) : List NRow := if hasN xs k then xs.map (fun x => if x.1 = k then (x.1, x.2.1, v) else x) else xs ++ [(k, p, v)]
theorem nv_val {k : D} {key : NestedKey} (hk : nk k = some key) : ∀ {xs : List NRow} {kvs : List (D × D)}, NvR K G xs kvs → (valN xs key = none ∧ valD kvs k = none) ∨ ∃ v d, valN xs key = some v ∧ valD kvs k = some d ∧ Dq K.k G v d
  | _, _, .nil => .inl ⟨rfl, rfl⟩
  | p :: ps, q :: qs, .cons h hs => by
    have e := eqK_nk h.1 hk
    by_cases c : p.1 = key
    · rw [decide_eq_true c] at e
      exact .inr ⟨p.2.2, q.2, by simp [valN, List.find?_cons, c], by simp [valD, List.find?_cons, e], h.2.2.2.2⟩
    · rw [decide_eq_false c] at e
      rw [show valN (p :: ps) key = valN ps key by simp [valN, List.find?_cons, c], show valD (q :: qs) k = valD qs k by simp [valD, List.find?_cons, e]]
      exact nv_val hk hs
theorem hasN_val (xs : List NRow) (k : NestedKey) : hasN xs k = (valN xs k).isSome := by unfold hasN valN; rw [Option.isSome_map]; exact any_find _ _
theorem hasD_val (kvs : List (D × D)) (k : D) : hasD kvs k = (valD kvs k).isSome := by unfold hasD valD; rw [Option.isSome_map]; exact any_find _ _
theorem nv_has {k : D} {key : NestedKey} (hk : nk k = some key) {xs : List NRow} {kvs : List (D × D)} (h : NvR K G xs kvs) : hasN xs key = hasD kvs k := by
  rw [hasN_val, hasD_val]
  rcases nv_val hk h with ⟨a, b⟩ | ⟨v, d, a, b, _⟩ <;> rw [a, b] <;> rfl
theorem nv_put {k e : D} {key : NestedKey} {p : Addr} {v : V} (hk : nk k = some key) (ht : isTup k = true) (hd : key.depth ≤ 8) (hp : Dq K.k G (.ref p) k) (hv : Dq K.k G v e) {xs : List NRow} {kvs : List (D × D)} (h : NvR K G xs kvs) : NvR K G (putN xs key p v) (putD kvs k e) := by
  unfold putN putD
  rw [nv_has hk h]
  by_cases c : hasD kvs k = true
  · rw [if_pos c, if_pos c]
    clear c
    induction h with
    | nil => exact .nil
    | @cons p' q ps qs h t ih =>
      rw [List.map_cons, List.map_cons]
      refine .cons ?_ ih
      have e := eqK_nk h.1 hk
      by_cases c : p'.1 = key
      · rw [decide_eq_true c] at e
        rw [if_pos c, if_pos e]; exact ⟨h.1, h.2.1, h.2.2.1, h.2.2.2.1, hv⟩
      · rw [decide_eq_false c] at e
        rw [if_neg c, if_neg (by rw [e]; decide)]; exact h
  · rw [if_neg c, if_neg c]
    exact Paired.snoc h ⟨hk, ht, hd, hp, hv⟩
end
theorem putD_ne {kvs : List (D × D)} {k e : D} : putD kvs k e ≠ [] := by
  unfold putD
  by_cases c : hasD kvs k = true
  · rw [if_pos c]
    cases kvs with
    | nil => cases c
    | cons _ _ => simp
  · rw [if_neg c]; simp

/-! ### a dict by tuples in the heap (an empty one too) -/
def NAt (K : Fr) (H : Hp) (a : Addr) (xs : List NRow) (kvs : List (D × D)) : Prop := (H a = some (hN K a xs) ∧ NvR K H xs kvs) ∨ (H a = some (.dK []) ∧ xs = [] ∧ kvs = [])
section
variable {pins : List (Addr × Obj)} {σ : St} {H : Hp} {s : Shared}
theorem nAt (I : Inv X pins σ H s) {a : Addr} {xs : List NRow} {kvs : List (D × D)} (h : NAt X.wd H a xs kvs) : xs.length ≤ sizeLine ∧ (a == sysModules) = false ∧ ∃ ys, Paired nVal xs ys ∧ s.heap.DictOfH (nestedKind X.prog X.w) a ys := by
  rcases h with ⟨h, c⟩ | ⟨h, rfl, rfl⟩
  · exact hN_at I h c
  · obtain ⟨z, hm, vs, rel, o, es, ep, ho, hx, hd, he⟩ := dk_of I.hok h
    cases rel
    refine ⟨Nat.zero_le _, hm, [], .nil, o, es, ep, ho, hx, hd, ?_, fun x hx => (by cases hx), List.nodup_nil⟩
    have w := he.2.1
    generalize es.toList = l at w ⊢
    cases l with
    | nil => rfl
    | cons _ _ => exact absurd w (by first | exact id | (intro z; cases z))
theorem nVal_at : ∀ {xs : List NRow} {ys : List NVal}, Paired nVal xs ys → ∀ k, RelO (valN xs k) ((atKey ys k).map (·.2))
  | _, _, .nil, _ => True.intro
  | x :: xs, y :: ys, .cons h hs, k => by
    by_cases c : x.1 = k
    · have e1 : valN (x :: xs) k = some x.2.2 := by simp [valN, List.find?_cons, c]
      have e2 : atKey (y :: ys) k = some y.2 := by simp [atKey, List.find?_cons, h.1.symm.trans c]
      rw [e1, e2]; exact h.2.2
    · have e1 : valN (x :: xs) k = valN xs k := by simp [valN, List.find?_cons, c]
      have c' : ¬ y.1 = k := fun z => c (h.1.trans z)
      have e2 : atKey (y :: ys) k = atKey ys k := by simp [atKey, List.find?_cons, c']
      rw [e1, e2]; exact nVal_at hs k
theorem nVal_has {xs : List NRow} {ys : List NVal} (h : Paired nVal xs ys) (k : NestedKey) : hasN xs k = (atKey ys k).isSome := by
  rw [hasN_val, (nVal_at h k).isSome_eq, Option.isSome_map]
theorem nVal_put {xs : List NRow} {ys : List NVal} (h : Paired nVal xs ys) (k : NestedKey) {p : Addr} {v : V} {u : Value} (r : RelV v u) : Paired nVal (putN xs k p v) (storedH ys k p u) := by
  unfold putN storedH
  rw [nVal_has h k]
  by_cases c : (atKey ys k).isSome = true
  · rw [if_pos c, if_pos c]
    clear c
    induction h with
    | nil => exact .nil
    | @cons x y xs ys h t ih =>
      rw [List.map_cons, List.map_cons]
      refine .cons ?_ ih
      unfold putAt
      by_cases c : x.1 = k
      · rw [if_pos c, if_pos (h.1.symm.trans c)]; exact ⟨h.1, h.2.1, r⟩
      · rw [if_neg c, if_neg fun z => c (h.1.trans z)]; exact h
  · rw [if_neg c, if_neg c]
    exact Paired.snoc h ⟨rfl, rfl, r⟩
theorem nk_key (I : Inv X pins σ H s) {d : D} {p : Addr} {key : NestedKey} (h : Dq X.K H (.ref p) d) (hk : nk d = some key) (hd : key.depth ≤ 8) : (nestedKind X.prog X.w).is s.heap key p := ⟨nested_is I h rfl hk, hd⟩
theorem nEnt_of {P : Program} {w : World} {K : PySem.W.Frag} : ∀ {xs : List NRow} {ys : List NVal}, Paired nVal xs ys → Paired (nEnt ⟨K, P, w⟩) xs (ys.map (entryOfKey (nestedKind P w)))
  | _, _, .nil => .nil
  | x :: _, y :: _, .cons h hs => by
    refine .cons ⟨?_, ?_, h.2.2⟩ (nEnt_of hs)
    · show y.1.hash w = x.1.hash w; rw [h.1]
    · show Value.ref y.2.1 = Value.ref x.2.1; rw [h.2.1]
/-- the dict at a written by a tuple -/
theorem nPut (I : Inv X pins σ H s) {h' : Heap} {a : Addr} {xs : List NRow} {ys : List NVal} {t' : Nat} (mu : Mut (H a)) (hs : Heap.SameBut a s.heap h') (hd : h'.DictOfH (nestedKind X.prog X.w) a ys) (p : Paired nVal xs ys) (z : xs.length ≤ sizeLine) (hm : (a == sysModules) = false) :
    Inv X pins σ (upd H a (hN X.wd a xs)) { s with heap := h', toks := t' } := by
  obtain ⟨o, es, ep, ho, hx, hdt, he, _, hn⟩ := hd
  refine d_write I mu hs ⟨o, ho⟩ ⟨⟨z, hm, ?_, o, es, ep, ho, hx, hdt, ?_⟩, ⟨o, ho⟩, fun h1 h2 ⟨z1, z2, z3, o1, es1, ep1, y1, y2⟩ k => ⟨z1, z2, z3, o1, es1, ep1, k o1 y1, y2⟩⟩
  · rw [← nVal_keys p]; exact hn
  · rw [he]; exact nEnt_of p
end

/-! ### reading -/
def keyOf (d : D) : Option (Key ⊕ NestedKey) := match keyD d with
  | some k => some (.inl k)
  | none => if nkOk d then match nk d with
      | some k => some (.inr k)
      | none => none
    else none
/-- the dict's contents suit the key -/
def suits (kvs : List (D × D)) (k : D) : Bool := ((keyD k).isSome && allK kvs) || (nkOk k && allN kvs)
theorem nkOk_some {d : D} (h : nkOk d = true) : isTup d = true ∧ ∃ k, nk d = some k ∧ k.depth ≤ 8 := by
  unfold nkOk at h
  rw [Bool.and_eq_true] at h
  refine ⟨h.1, ?_⟩
  cases q : nk d with
  | none => rw [q] at h; cases h.2
  | some k => rw [q] at h; exact ⟨k, rfl, of_decide_eq_true h.2⟩
theorem nv_allN {K : Fr} {G : Hp} : ∀ {xs : List NRow} {kvs : List (D × D)}, NvR K G xs kvs → kvs ≠ [] → allK kvs = false
  | _, _, .nil, h => (h rfl).elim
  | _, q :: qs, .cons h hs, _ => by
    unfold allK
    rw [List.all_cons]
    have e : keyD q.1 = none := by
      cases w : keyD q.1 with
      | none => rfl
      | some k => have := (nk_of_keyD w).2; rw [h.2.1] at this; cases this
    rw [e]; rfl
theorem kv_allK {K : Fr} {G : Hp} : ∀ {kv : List (Key × V)} {kvs : List (D × D)}, KvR K G kv kvs → kvs ≠ [] → allN kvs = false
  | _, _, .nil, h => (h rfl).elim
  | _, q :: qs, .cons h hs, _ => by
    unfold allN
    rw [List.all_cons, (nk_of_keyD h.1).2]; rfl
/-- a dict and a key that suits it: one of the two kinds -/
theorem suits_of {K : Fr} {G H : Hp} {x y : V} {kvs : List (D × D)} {k : D} (s : Same G H) (rx : Rd1 K G H x (.dict kvs)) (ry : Rd1 K G H y k) (hs : suits kvs k = true) :
    (∃ a kv key, x = .ref a ∧ H a = some (.dK kv) ∧ KvR K G kv kvs ∧ keyD k = some key ∧ y = kV key) ∨ ∃ a xs p key, x = .ref a ∧ NAt K H a xs kvs ∧ NvR K G xs kvs ∧ y = .ref p ∧ Dq K.k G (.ref p) k ∧ nk k = some key ∧ isTup k = true ∧ key.depth ≤ 8 := by
  obtain ⟨a, o, rfl, ha, hc⟩ := rp_con s rx
  unfold suits at hs
  rw [Bool.or_eq_true, Bool.and_eq_true, Bool.and_eq_true] at hs
  rcases hs with ⟨h1, h2⟩ | ⟨h1, h2⟩
  · cases hc with
    | dN hne h => rw [nv_allN h hne] at h2; cases h2
    | dK h =>
      obtain ⟨key, hk⟩ := Option.isSome_iff_exists.mp h1
      refine .inl ⟨a, _, key, rfl, ha, h, hk, ?_⟩
      cases k with
      | int i => simp only [keyD] at hk; cases hk; exact rp_int ry
      | str x => simp only [keyD] at hk; cases hk; exact rp_str ry
      | none => simp [keyD] at hk
      | bool _ => simp [keyD] at hk
      | list _ => simp [keyD] at hk
      | tuple _ => simp [keyD] at hk
      | dict _ => simp [keyD] at hk
  · obtain ⟨ht, key, hk, hd⟩ := nkOk_some h1
    obtain ⟨p, hp⟩ : ∃ p, y = V.ref p := by
      cases k with
      | tuple ds => obtain ⟨p, _, e, _⟩ := rp_tup ry; exact ⟨p, e⟩
      | _ => cases ht
    subst hp
    have hq : Dq K.k G (.ref p) k := by
      rcases ry with r | ⟨b, o', e, h1', h2'⟩
      · exact r.dq (by cases k <;> first | rfl | cases ht)
      · cases k with
        | tuple ds => cases h2'
        | _ => cases ht
    cases hc with
    | dN hne h => exact .inr ⟨a, _, p, key, rfl, .inl ⟨ha, Paired.mapP h fun _ _ z => ⟨z.1, z.2.1, z.2.2.1, dp_mono s z.2.2.2.1, dp_mono s z.2.2.2.2⟩⟩, h, rfl, hq, hk, ht, hd⟩
    | dK h =>
      rename_i kv
      have e : kvs = [] := by
        cases kvs with
        | nil => rfl
        | cons q qs => rw [kv_allK h (by simp)] at h2; cases h2
      subst e
      cases h
      exact .inr ⟨a, [], p, key, rfl, .inr ⟨ha, rfl, rfl⟩, .nil, rfl, hq, hk, ht, hd⟩
def inDict (d e : D) : Option Bool := match e with
  | .dict kvs => if suits kvs d then some (hasD kvs d) else none
  | _ => none
def rInM (K : Fr) (neg : Bool) : R2 := fun y x H Q => (∃ a kv key, x = .ref a ∧ H a = some (.dK kv) ∧ y = kV key ∧ Q (.bl (if neg then !(valV kv key).isSome else (valV kv key).isSome)) H) ∨
  ∃ a xs kvs p d key, x = .ref a ∧ NAt K H a xs kvs ∧ y = .ref p ∧ Dq K.k H (.ref p) d ∧ nk d = some key ∧ key.depth ≤ 8 ∧ Q (.bl (if neg then !hasN xs key else hasN xs key)) H
theorem op_inM (hu : X.A.units + 65 < cLine) : OpR X (compareOp .In) (rInM X.wd false) := by
  rintro pins s σ H y x u v Q I ry rx (⟨a, kv, key, rfl, ha, rfl, q⟩ | ⟨a, xs, kvs, p, d, key, rfl, ha, rfl, hd, hk, hz, q⟩)
  · cases (show v = Value.ref a from rx)
    exact d_in (by omega) I (DGet.k ha) ry fun s' I' => ⟨.bl _, H, I', rfl, q⟩
  · cases (show v = Value.ref a from rx)
    cases (show u = Value.ref p from ry)
    obtain ⟨z, hm, ys, pr, dd⟩ := nAt I ha
    refine wpAny_in_heap (knd := nestedKind X.prog X.w) (show X.A.in1.units + 8 < cLine by simp [Around.in1]; omega) (nk_key I hd hk hz) hm dd ?_
    rw [← nVal_has pr]
    exact ⟨.bl _, H, I.tok _, rfl, q⟩
theorem op_notInM (hu : X.A.units + 65 < cLine) : OpR X (compareOp .NotIn) (rInM X.wd true) := by
  rintro pins s σ H y x u v Q I ry rx (⟨a, kv, key, rfl, ha, rfl, q⟩ | ⟨a, xs, kvs, p, d, key, rfl, ha, rfl, hd, hk, hz, q⟩)
  · cases (show v = Value.ref a from rx)
    exact d_notIn (by omega) I (DGet.k ha) ry fun s' I' => ⟨.bl _, H, I', rfl, q⟩
  · cases (show v = Value.ref a from rx)
    cases (show u = Value.ref p from ry)
    obtain ⟨z, hm, ys, pr, dd⟩ := nAt I ha
    refine PyProof.Rows.wpAny_notIn_heap (knd := nestedKind X.prog X.w) (show X.A.in1.units + 8 < cLine by simp [Around.in1]; omega) (nk_key I hd hk hz) hm dd ?_
    rw [← nVal_has pr]
    exact ⟨.bl _, H, I.tok _, rfl, q⟩
def dInM (neg : Bool) (d e : D) : Option Rs := match inDict d e with
  | some b => some (.val (.bool (if neg then !b else b)))
  | none => none
theorem inMG {K : Fr} {neg : Bool} : OpG K (rInM K neg) (dInM neg) := by
  intro y x G H d e rs Q s ry rx hd k
  unfold dInM at hd
  cases q : inDict d e with
  | none => rw [q] at hd; cases hd
  | some b =>
    rw [q] at hd; cases hd
    cases e <;> simp only [inDict] at q <;> try cases q
    rename_i kvs
    obtain ⟨c, q⟩ := if_some q
    cases q
    rcases suits_of s rx ry c with ⟨a, kv, key, rfl, ha, hc, hk, rfl⟩ | ⟨a, xs, p, key, rfl, ha, hc, rfl, hd, hk, ht, hz⟩
    · refine .inl ⟨a, kv, key, rfl, ha, rfl, ?_⟩
      rw [kv_has hk hc]
      exact k _ G H (Ext.refl s) val_bl
    · refine .inr ⟨a, xs, kvs, p, d, key, rfl, ha, rfl, dp_mono s hd, hk, hz, ?_⟩
      rw [nv_has hk hc]
      exact k _ G H (Ext.refl s) val_bl
/-- d[k], k there -/
def rIxM (K : Fr) : R2 := fun x y H Q => (∃ a kv key v, x = .ref a ∧ H a = some (.dK kv) ∧ y = kV key ∧ valV kv key = some v ∧ Q v H) ∨
  ∃ a xs kvs p d key v, x = .ref a ∧ NAt K H a xs kvs ∧ y = .ref p ∧ Dq K.k H (.ref p) d ∧ nk d = some key ∧ key.depth ≤ 8 ∧ valN xs key = some v ∧ Q v H
theorem ix_M (hu : X.A.units + 65 < cLine) : IxR X (rIxM X.wd) := by
  rintro value slice pins s σ H x y v u Q I rx ry h hs
  rcases h with ⟨a, kv, key, w, rfl, ha, rfl, hv, q⟩ | ⟨a, xs, kvs, p, d, key, w, rfl, ha, rfl, hd, hk, hz, hv, q⟩
  · cases (show v = Value.ref a from rx)
    have g : DGet H a (kV key) (some w) := by rw [← hv]; exact DGet.k ha
    exact PyProof.Rows.tail_any (dict_typeIs I g) PySem.F.slot_dict_getitem.lookup (d_getItem (by omega) I g ry fun w' s' I' rw' => ⟨w, H, I', rw', q⟩) hs
  · cases (show v = Value.ref a from rx)
    cases (show u = Value.ref p from ry)
    obtain ⟨z, hm, ys, pr, dd⟩ := nAt I ha
    obtain ⟨w', hw, rw'⟩ := RelO.some_of (v := w) (o := (atKey ys key).map (·.2)) (by rw [← hv]; exact nVal_at pr key)
    obtain ⟨pp, hp, rfl⟩ := Option.map_eq_some_iff.mp hw
    exact PyProof.Rows.tail_any dd.typeIs PySem.F.slot_dict_getitem.lookup (wpAny_getItem_heap (knd := nestedKind X.prog X.w) (show X.A.in1.units + 8 < cLine by simp [Around.in1]; omega) (nk_key I hd hk hz) dd hp ⟨w, H, I.tok _, rw', q⟩) hs
def dIxM (e d : D) : Option Rs := match e with
  | .dict kvs => if suits kvs d then match valD kvs d with
      | some v => some (.val v)
      | none => none
    else none
  | _ => none
theorem ixMG {K : Fr} : OpG K (rIxM K) dIxM := by
  intro x y G H e d rs Q s rx ry hd k
  cases e <;> simp only [dIxM] at hd <;> try cases hd
  rename_i kvs
  obtain ⟨c, hd⟩ := if_some hd
  cases q : valD kvs d with
  | none => rw [q] at hd; cases hd
  | some v =>
    rw [q] at hd; cases hd
    rcases suits_of s rx ry c with ⟨a, kv, key, rfl, ha, hc, hk, rfl⟩ | ⟨a, xs, p, key, rfl, ha, hc, rfl, hd, hk, ht, hz⟩
    · rcases kv_val hk hc with ⟨_, e⟩ | ⟨w, d', e1, e2, e3⟩
      · rw [q] at e; cases e
      · rw [q] at e2; cases e2
        exact .inl ⟨a, kv, key, w, rfl, ha, rfl, e1, k w G H (Ext.refl s) (Rp.dat e3)⟩
    · rcases nv_val hk hc with ⟨_, e⟩ | ⟨w, d', e1, e2, e3⟩
      · rw [q] at e; cases e
      · rw [q] at e2; cases e2
        exact .inr ⟨a, xs, kvs, p, _, key, w, rfl, ha, rfl, dp_mono s hd, hk, hz, e1, k w G H (Ext.refl s) (Rp.dat e3)⟩
end Z
end

section
set_option Elab.async false
set_option linter.all false
set_option maxRecDepth 100000
set_option maxHeartbeats 2000000
/-! ZH: stores into items; dicts made. -/
namespace Z
open PySem L2
variable {X : Cx}

/-! ### slot[k] = e -/
def mSetK (i : Nat) (g : D → D → D → Option D) (mi me : M Res) : SM := fun ρ => match mShare me ρ with
  | some (e, ρ1) => if ownAt i ρ1 then match mShare mi ρ1 with
      | some (k, ρ2) => if ownAt i ρ2 then match ρ2[i]? with
          | some s => match s.dat with
            | some d => match g d k e with
              | some d' => some (.nx (ρ2.set i (s.put d')))
              | none => none
            | none => none
          | none => none
        else none
      | none => none
    else none
  | none => none
def setD : D → D → D → Option D
  | .list ds, k, e => match k with
    | .int j => if isDict e then none else match ixN ds.length j with
      | some n => some (.list (ds.set n e))
      | none => none
    | _ => none
  | .dict kvs, k, e => if !isDict e && suits kvs k && decide (kvs.length < big) then some (.dict (putD kvs k e)) else none
  | _, _, _ => none
def rSetX (K : Fr) : TSet := fun o i v H Q => rSetL o i v H Q ∨ (∃ a kv key, o = V.ref a ∧ H a = some (.dK kv) ∧ i = kV key ∧ kv.length < sizeLine ∧ Q (upd H a (.dK (putK kv key v)))) ∨
  ∃ a xs kvs p d key, o = V.ref a ∧ NAt K H a xs kvs ∧ i = V.ref p ∧ Dq K.k H (.ref p) d ∧ nk d = some key ∧ key.depth ≤ 8 ∧ xs.length < sizeLine ∧ Q (upd H a (hN K a (putN xs key p v)))
theorem putN_len (xs : List NRow) (k : NestedKey) (p : Addr) (v : V) : (putN xs k p v).length ≤ xs.length + 1 := by
  unfold putN
  split
  · rw [List.length_map]; exact Nat.le_succ _
  · simp
theorem set_X (hu : X.A.units + 65 < cLine) : PSet X (rSetX X.wd) := by
  rintro pins s σ H o i v ov iv u Q I ro ri rv (h | ⟨a, kv, key, rfl, ha, rfl, hz, q⟩ | ⟨a, xs, kvs, p, d, key, rfl, ha, rfl, hd, hk, hz, hl, q⟩)
  · exact set_list pins s σ H o i v ov iv u Q I ro ri rv h
  · cases (show ov = Value.ref a from ro)
    exact d_setItem (by omega) I (DPut.k ha hz) ri rv fun s' I' => ⟨_, I', q⟩
  · cases (show ov = Value.ref a from ro)
    cases (show iv = Value.ref p from ri)
    obtain ⟨z, hm, ys, pr, dd⟩ := nAt I ha
    have hlen := paired_len pr
    refine wpAny_setItem_heap (knd := nestedKind X.prog X.w) (hsz := by rw [← hlen]; exact z) (show X.A.in1.units + 8 < cLine by simp [Around.in1]; omega) (nk_key I hd hk hz) dd fun h' dd' hs => ?_
    refine ⟨_, nPut I ?_ hs dd' (nVal_put pr key rv) (by have := putN_len xs key p v; omega) hm, q⟩
    rcases ha with ⟨h, _⟩ | ⟨h, _⟩ <;> rw [h] <;> trivial
theorem setX_con {K : Fr} {G H : Hp} {a : Addr} {o : HO} {d d' k e : D} {i v : V} {Q : Hp → Prop} (s : Same G H) (ha : H a = some o) (hc : Con K G a o d) (rk : Rp K G i k) (re : Rp K G v e) (hg : setD d k e = some d') (hq : ∀ o', Con K G a o' d' → Q (upd H a o')) : rSetX K (V.ref a) i v H Q := by
  cases d with
  | list ds =>
    obtain ⟨xs, rfl, hx⟩ := con_lst hc
    cases k with
    | int j =>
      have hg' : (if isDict e then none else match ixN ds.length j with | some n => some (PyData.list (ds.set n e)) | none => none) = some d' := hg
      cases c : isDict e with
      | true => rw [c] at hg'; cases hg'
      | false =>
        rw [c] at hg'
        simp only [Bool.false_eq_true, if_false] at hg'
        cases q : ixN ds.length j with
        | none => rw [q] at hg'; cases hg'
        | some n =>
          rw [q] at hg'; cases hg'
          exact .inl ⟨a, xs, j, n, rfl, rp_int (H := H) (.inl rk), ha, by rw [dpAll_len hx]; exact q, hq _ (.lst (dpAll_set (re.dq c) n hx))⟩
    | _ => cases hg
  | dict kvs =>
    have hg' : (if !isDict e && suits kvs k && decide (kvs.length < big) then some (PyData.dict (putD kvs k e)) else none) = some d' := hg
    obtain ⟨c, hg'⟩ := if_some hg'
    cases hg'
    rw [Bool.and_eq_true, Bool.and_eq_true, Bool.not_eq_true', decide_eq_true_eq] at c
    obtain ⟨⟨c1, c2⟩, c3⟩ := c
    have lim : big ≤ sizeLine := big_line
    have rx : Rd1 K G H (V.ref a) (.dict kvs) := .inr ⟨a, o, rfl, ha, hc⟩
    rcases suits_of s rx (Or.inl rk) c2 with ⟨b, kv, key, e1, hb, hcv, hk, rfl⟩ | ⟨b, xs, p, key, e1, hb, hcv, rfl, hd, hk, ht, hz⟩
    · cases e1
      have hl := paired_len hcv
      exact .inr (.inl ⟨a, kv, key, rfl, hb, rfl, by omega, hq _ (.dK (kv_put hk (re.dq c1) hcv))⟩)
    · cases e1
      have hl := paired_len hcv
      exact .inr (.inr ⟨a, xs, kvs, p, k, key, rfl, hb, rfl, dp_mono s hd, hk, hz, by omega, hq _ (.dN putD_ne (nv_put hk ht hz hd (re.dq c1) hcv))⟩)
  | _ => cases hg
theorem setK_of {K : Fr} {i : Nat} {mi me : M Res} : ∀ D σ H, tSt K (mSetK i setD mi me) D σ H → tAsg (tE K me) (gSub (tVar i) (tE K mi) (rSetX K)) D σ H := by
  rintro D σ H ⟨C, ρ, G, o, S, e, k⟩
  unfold mSetK at e
  cases q1 : mShare me ρ with
  | none => rw [q1] at e; cases e
  | some p1 =>
    obtain ⟨ed, ρ1⟩ := p1
    rw [q1] at e
    dsimp only at e
    obtain ⟨c1, e⟩ := if_some e
    cases q2 : mShare mi ρ1 with
    | none => rw [q2] at e; cases e
    | some p2 =>
      obtain ⟨kd, ρ2⟩ := p2
      rw [q2] at e
      dsimp only at e
      obtain ⟨c2, e⟩ := if_some e
      obtain ⟨re, ρe, e0, e1⟩ := bnd_some q1
      refine ⟨C, ρ, G, re, ρe, S, e0, fun v G1 H1 S1 g1 r1 => ?_⟩
      obtain ⟨G2, S2, g2, rp⟩ := S1.demote r1 e1
      obtain ⟨s0, hs0, ow0⟩ := ownAt_some c1
      obtain ⟨a, hv⟩ := S2.own_val hs0 ow0
      refine ⟨V.ref a, hv, ?_⟩
      obtain ⟨ri, ρi, i0, i1⟩ := bnd_some q2
      refine ⟨C, ρ1, G2, ri, ρi, S2, i0, fun iv G3 H3 S3 g3 r3 => ?_⟩
      obtain ⟨G4, S4, g4, rk⟩ := S3.demote r3 i1
      obtain ⟨s1, hs1, ow1⟩ := ownAt_some c2
      obtain ⟨ob, d, h1, h2, h3, h4⟩ := S4.own_at hs1 ow1 hv
      rw [hs1] at e
      dsimp only at e
      rw [h4] at e
      dsimp only at e
      cases q3 : setD d kd ed with
      | none => rw [q3] at e; cases e
      | some d' =>
        rw [q3] at e; cases e
        exact setX_con S4.fm.gh h1 h3 rk (rp_mono (g3.trans g4) rp) q3 fun o' hc => k σ G4 _ (S4.write hs1 ow1 hv hc) (((g1.trans g2).trans g3).trans g4)
end Z
end

section
set_option Elab.async false
set_option linter.all false
set_option maxRecDepth 100000
set_option maxHeartbeats 2000000
/-! ZI: dict displays, dict comprehensions. -/
namespace Z
open PySem L2
variable {X : Cx}

/-! ### {} and {k: v} -/
def mDict0 : M Res := fun ρ => some (.fr (.dict []), ρ)
theorem con_new {K : Fr} {C : Cn} {σ : St} {ρ : Rho} {G H : Hp} (S : Sta K C σ ρ G H) {d : Addr} (n : H d = none) : Sta K C σ ρ G (upd H d (.dK [])) ∧ ROk K C σ ρ G (upd H d (.dK [])) (V.ref d) (.fr (.dict [])) := by
  have x0 := ext_own (o := HO.dK []) S.fm.gh n
  exact ⟨S.ext x0, rok_of_rs (r := .new (.dict [])) S x0 ⟨d, _, rfl, upd_same, S.fm.gh.free n, n, .dK .nil⟩⟩
theorem dict0_of {K : Fr} : ∀ σ H Q, tE K mDict0 σ H Q → tDNewK σ H Q := by
  rintro σ H Q ⟨C, ρ, G, r, ρ', S, e, k⟩
  cases e
  intro d n
  obtain ⟨S1, r1⟩ := con_new S n
  exact k _ G _ S1 (Same.refl G) r1
theorem de_dict0 {pos : Pos} : DE X (.Dict [] [] pos) mDict0 := pe_dnewK.imp dict0_of
def rSetM (K : Fr) : TSet := fun o i v H Q => (∃ a kv key, o = V.ref a ∧ H a = some (.dK kv) ∧ i = kV key ∧ kv.length < sizeLine ∧ Q (upd H a (.dK (putK kv key v)))) ∨
  ∃ a xs kvs p d key, o = V.ref a ∧ NAt K H a xs kvs ∧ i = V.ref p ∧ Dq K.k H (.ref p) d ∧ nk d = some key ∧ key.depth ≤ 8 ∧ xs.length < sizeLine ∧ Q (upd H a (hN K a (putN xs key p v)))
theorem dset_M {pins : List (Addr × Obj)} {s : Shared} {σ : St} {H : Hp} {a : Addr} {i v : V} {iv u : Value} {E : Value → Shared → Prop} {Q : Hp → Prop} {R : Unit → Shared → Prop} (hu : X.A.units + 65 < cLine) (I : Inv X pins σ H s) (ri : RelV i iv) (rv : RelV v u) (h : rSetM X.wd (V.ref a) i v H Q)
    (k : ∀ H' s', Inv X pins σ H' s' → Q H' → R () s') : wpAny (model X.prog X.w) X.A (dictSet a iv u) R E s := by
  rcases h with ⟨b, kv, key, e, ha, rfl, hz, q⟩ | ⟨b, xs, kvs, p, d, key, e, ha, rfl, hd, hk, hz, hl, q⟩
  · cases e
    exact d_dictSet I ha hz ri rv fun s' I' => k _ s' I' q
  · cases e
    cases (show iv = Value.ref p from ri)
    obtain ⟨z, hm, ys, pr, dd⟩ := nAt I ha
    have hlen := paired_len pr
    refine wpAny_dictSet_heap (knd := nestedKind X.prog X.w) (hsz := by rw [← hlen]; exact z) (show X.A.units + 8 < cLine by omega) (nk_key I hd hk hz) dd fun h' dd' hs => ?_
    refine k _ _ (nPut I ?_ hs dd' (nVal_put pr key rv) (by have := putN_len xs key p v; omega) hm) q
    rcases ha with ⟨h, _⟩ | ⟨h, _⟩ <;> rw [h] <;> trivial
theorem setM_con {K : Fr} {G H : Hp} {a : Addr} {o : HO} {kvs : List (D × D)} {d' k e : D} {i v : V} {Q : Hp → Prop} (s : Same G H) (ha : H a = some o) (hc : Con K G a o (.dict kvs)) (rk : Rp K G i k) (re : Rp K G v e) (hg : setD (.dict kvs) k e = some d') (hq : ∀ o', Con K G a o' d' → Q (upd H a o')) : rSetM K (V.ref a) i v H Q := by
  rcases setX_con s ha hc rk re hg hq with ⟨b, xs, j, n, e1, _, h, _⟩ | h
  · cases e1
    rw [ha] at h; cases h
    cases hc
  · exact h
def tDisp1 (K : Fr) (tk tv : TE) : TE := fun σ H Q => ∀ d, H d = none → tk σ (upd H d (.dK [])) fun k H1 => tv σ H1 fun v H2 => rSetM K (V.ref d) k v H2 fun H3 => Q (V.ref d) H3
theorem pe_disp1 {ke ve : Expr} {pos : Pos} {tk tv : TE} (hu : X.A.units + 65 < cLine) (hk : PE X ke tk) (hv : PE X ve tv) : PE X (.Dict [some ke] [ve] pos) (tDisp1 X.wd tk tv) := by
  refine ⟨fun pins s σ H Q I h => ?_⟩
  have n0 := I.hok.fresh (Nat.le_refl s.heap.objs.size)
  have I0 : Inv X pins σ (upd H s.heap.objs.size (.dK [])) { s with heap := s.heap.push { cls := .type "dict", data := .dict #[] } } := I.laid (a := s.heap.objs.size) (o := .dK []) (t' := s.toks) (fun _ _ q => Heap.get?_push_of_some _ q) (Nat.le_refl _) (dk_empty s.heap I.big)
  refine wpAny_Dict_any rfl rfl (by simp) (by show 1 ≤ 15; decide) ?_
  refine pairTrees_cons_walk (thn (hk.run pins _ σ _ _ I0 (h _ n0)) fun kv s1 ⟨k, H1, I1, rk, q1⟩ => thn (hv.run pins s1 σ H1 _ I1 q1) fun vv s2 ⟨v, H2, I2, rv, q2⟩ => pairTrees_nil_walk ?_)
  unfold storeAll
  rw [List.forIn_cons]
  refine wpAny_bind (wpAny_bind (dset_M hu I2 rk rv q2 fun H3 s3 I3 q3 => wpAny_pure ?_))
  dsimp only
  rw [List.forIn_nil]
  exact wpAny_pure ⟨V.ref s.heap.objs.size, H3, I3, rfl, q3⟩
def mDisp1 (mk mv : M Res) : M Res := bnd (mShare mk) fun k => bnd (mShare mv) fun v ρ => match setD (.dict []) k v with
  | some (.dict kvs) => some (.fr (.dict kvs), ρ)
  | _ => none
theorem disp1_of {K : Fr} {mk mv : M Res} : ∀ σ H Q, tE K (mDisp1 mk mv) σ H Q → tDisp1 K (tE K mk) (tE K mv) σ H Q := by
  rintro σ H Q ⟨C, ρ, G, r, ρ', S, e, k⟩
  obtain ⟨kd, ρ1, e1, e⟩ := bnd_some e
  obtain ⟨vd, ρ2, e2, e⟩ := bnd_some e
  obtain ⟨rk, ρk, k0, k1⟩ := bnd_some e1
  obtain ⟨rv, ρv, v0, v1⟩ := bnd_some e2
  intro d n
  obtain ⟨S0, r0⟩ := con_new S n
  obtain ⟨C', S0', hold⟩ := r0.hold2 S0 (fun i z => by cases z)
  refine ⟨C', ρ, G, rk, ρk, S0', k0, fun kv G1 H1 S1 g1 r1 => ?_⟩
  obtain ⟨G2, S2, g2, rpk⟩ := S1.demote r1 k1
  refine ⟨C', ρ1, G2, rv, ρv, S2, v0, fun vv G3 H3 S3 g3 r3 => ?_⟩
  obtain ⟨G4, S4, g4, rpv⟩ := S3.demote r3 v1
  have g14 := g3.trans g4
  have g04 := (g1.trans g2).trans g14
  obtain ⟨S5, r5⟩ := hold _ _ _ _ S4 g04
  have r5' := r5
  obtain ⟨a, o, ea, h2, h3, h4, _⟩ := r5
  cases ea
  cases q : setD (.dict []) kd vd with
  | none => rw [q] at e; cases e
  | some d' =>
    rw [q] at e
    cases d' <;> try cases e
    exact setM_con S5.fm.gh h2 h4 (rp_mono g14 rpk) rpv q fun o' hc => by
      obtain ⟨S6, r6⟩ := S5.writeT r5' hc
      exact k _ G4 _ S6 g04 r6
theorem de_disp1 {ke ve : Expr} {pos : Pos} {mk mv : M Res} (hu : X.A.units + 65 < cLine) (hk : DE X ke mk) (hv : DE X ve mv) : DE X (.Dict [some ke] [ve] pos) (mDisp1 mk mv) := (pe_disp1 hu hk hv).imp disp1_of

/-! ### {k: v for target in iter if ..} -/
def dcL (f : D → Rho → Option Rho) (tt : M Bool) (tk tv : M Res) (vs : List Nat) : List D → List (D × D) → Rho → Option (List (D × D) × Rho)
  | [], acc, ρ => some (acc, ρ)
  | d :: ds, acc, ρ => match f d (wipeR vs 0 ρ) with
    | some ρ1 => match tt ρ1 with
      | some (true, ρ2) => match mShare tk ρ2 with
        | some (k, ρ3) => match mShare tv ρ3 with
          | some (y, ρ4) => if (keyD k).isSome && !isDict y && decide (acc.length < big) && allK acc then dcL f tt tk tv vs ds (putD acc k y) ρ4 else none
          | none => none
        | none => none
      | some (false, ρ2) => dcL f tt tk tv vs ds acc ρ2
      | none => none
    | none => none
def mDc (mi : M (List D)) (f : D → Rho → Option Rho) (tt : M Bool) (tk tv : M Res) (vs : List Nat) : M Res := fun ρ => match mi ρ with
  | some (ds, ρ1) => if noOwn vs ρ1 then match dcL f tt tk tv vs ds [] ρ1 with
      | some (acc, ρ2) => some (.fr (.dict acc), backR vs 0 ρ1 (wipeR vs 0 ρ2))
      | none => none
    else none
  | none => none
theorem keyD_val {K : Fr} {G : Hp} {v : V} {d : D} {k : Key} (h : Rp K G v d) (hk : keyD d = some k) : v = kV k := by
  cases d with
  | int i => simp only [keyD] at hk; cases hk; exact rp_int (H := G) (.inl h)
  | str x => simp only [keyD] at hk; cases hk; exact rp_str (H := G) (.inl h)
  | none => simp [keyD] at hk
  | bool _ => simp [keyD] at hk
  | list _ => simp [keyD] at hk
  | tuple _ => simp [keyD] at hk
  | dict _ => simp [keyD] at hk
theorem dc_of {K : Fr} {mi : M (List D)} {js vs : List Nat} {f : D → Rho → Option Rho} {tt : M Bool} {tk tv : M Res} (hj : ∀ j ∈ js, j ∈ vs) : ∀ σ H Q, tE K (mDc mi f tt tk tv vs) σ H Q → tDc (tI K mi) (gA K js f) (tT K tt) (tE K tk) (tE K tv) vs σ H Q := by
  rintro σ H Q ⟨C, ρ, G, rr, ρ', S, e, k⟩
  unfold mDc at e
  cases q : mi ρ with
  | none => rw [q] at e; cases e
  | some p =>
    obtain ⟨ds, ρ1⟩ := p
    rw [q] at e
    dsimp only at e
    obtain ⟨nown, e⟩ := if_some e
    cases q2 : dcL f tt tk tv vs ds [] ρ1 with
    | none => rw [q2] at e; cases e
    | some p =>
      obtain ⟨accE, ρE⟩ := p
      rw [q2] at e
      cases e
      refine ⟨C, ρ, G, ds, ρ1, S, q, fun J G1 H1 S1 g1 W L hL => ?_⟩
      obtain ⟨S1', r0⟩ := con_new S1 hL
      have rw0 : ∀ {σ' : St} {ρ' : Rho} {G' H' : Hp} {d : D}, ROk K C σ' ρ' G' H' (V.ref L) (.fr d) → ROk K C (wipe σ' vs) (wipeR vs 0 ρ') G' H' (V.ref L) (.fr d) := fun {σ' ρ' G' H' d} h => by
        obtain ⟨a, o, e1, h2, h3, h4, h5, h6, h7⟩ := h
        refine ⟨a, o, e1, h2, h3, h4, h5, fun j ⟨t, z1, z2, z3⟩ => ?_, h7⟩
        rw [wipeR_get] at z1
        cases w : ρ'[j]? with
        | none => rw [w] at z1; cases z1
        | some s =>
          rw [w] at z1
          by_cases hj : 0 + j ∈ vs
          · simp only [Option.map_some, if_pos hj] at z1; cases z1; cases z2
          · simp only [Option.map_some, if_neg hj] at z1; cases z1
            rw [wipe_out (by simpa using hj)] at z3
            exact h6 j ⟨_, w, z2, z3⟩
      refine ⟨fun i m H' => m = ds.length - i ∧ i ≤ ds.length ∧ ∃ acc ρ' G', Sta K C (wipe σ vs) (wipeR vs 0 ρ') G' H' ∧ Same G1 G' ∧ ROk K C (wipe σ vs) (wipeR vs 0 ρ') G' H' (V.ref L) (.fr (.dict acc)) ∧ dcL f tt tk tv vs (ds.drop i) acc ρ' = some (accE, ρE),
        ⟨_, rfl, Nat.zero_le _, [], ρ1, G1, S1'.wipe vs, Same.refl _, rw0 r0, q2⟩, ?_⟩
      rintro i m H2 ⟨rfl, hi, acc, ρ2, G2, S2, g2, r2, e2⟩
      obtain ⟨w1, w2⟩ := W G2 H2 g2 S2.fm.gh (fun p hp => (S2.tmp p hp).1)
      by_cases hlt : i < ds.length
      · have ed : ds[i]? = some ds[i] := List.getElem?_eq_getElem hlt
        rw [List.drop_eq_getElem_cons hlt] at e2
        obtain ⟨go, yl⟩ := w1 i _ ed
        generalize ds[i] = d at ed e2 yl
        unfold dcL at e2
        refine .inr ⟨go, fun H' => ∃ acc ρ' G', Sta K C (wipe σ vs) (wipeR vs 0 ρ') G' H' ∧ Same G1 G' ∧ ROk K C (wipe σ vs) (wipeR vs 0 ρ') G' H' (V.ref L) (.fr (.dict acc)) ∧ dcL f tt tk tv vs (ds.drop (i + 1)) acc ρ' = some (accE, ρE),
          fun H' h => ⟨_, by omega, rfl, hlt, h⟩, fun x H3 y => ?_⟩
        obtain ⟨G3, x3, rp⟩ := yl x H3 y
        have S3 := S2.ext x3
        have r3 : ROk K C (wipe σ vs) (wipeR vs 0 ρ2) G3 H3 (V.ref L) (.fr (.dict acc)) := by
          obtain ⟨a, o, e1, h2, h3, h4, h5, h6, h7⟩ := r2
          exact ⟨a, o, e1, x3.h _ _ h2, x3.none h2 h3, con_mono x3.g h4, h5, h6, h7⟩
        obtain ⟨C', S3', hold⟩ := r3.hold2 S3 (fun i z => by cases z)
        cases w : f d (wipeR vs 0 ρ2) with
        | none => rw [w] at e2; cases e2
        | some ρ3 =>
          rw [w] at e2
          dsimp only at e2
          refine ⟨C', _, G3, d, ρ3, S3', rp, w, fun σ4 S4 c4 => ?_⟩
          have hw : wipe σ4 vs = wipe σ vs := wipe_same (by rw [c4.1, wipe_len]) c4.2 hj
          refine ⟨hw, ?_⟩
          have gg := g2.trans x3.g
          cases v : tt ρ3 with
          | none => rw [v] at e2; cases e2
          | some p =>
            obtain ⟨b, ρ4⟩ := p
            rw [v] at e2
            refine ⟨C', ρ3, G3, b, ρ4, S4, v, fun G5 H5 S5 g5 => ?_⟩
            cases b with
            | false =>
              dsimp only at e2
              obtain ⟨S6, r6⟩ := hold _ _ _ _ S5 g5
              have S7 := S6.wipe vs
              have r7 := rw0 r6
              rw [hw] at S7 r7
              exact ⟨acc, ρ4, G5, S7, gg.trans g5, r7, e2⟩
            | true =>
              dsimp only at e2
              cases u : mShare tk ρ4 with
              | none => rw [u] at e2; cases e2
              | some p =>
                obtain ⟨kd, ρ5⟩ := p
                rw [u] at e2
                dsimp only at e2
                cases u2 : mShare tv ρ5 with
                | none => rw [u2] at e2; cases e2
                | some p =>
                  obtain ⟨yd, ρ6⟩ := p
                  rw [u2] at e2
                  dsimp only at e2
                  obtain ⟨c, e2⟩ := if_some e2
                  rw [Bool.and_eq_true, Bool.and_eq_true, Bool.and_eq_true, Bool.not_eq_true', decide_eq_true_eq] at c
                  obtain ⟨⟨⟨c1, c2⟩, c3⟩, c4'⟩ := c
                  obtain ⟨rk, ρk, k0, k1⟩ := bnd_some u
                  obtain ⟨ry, ρy, y0, y1⟩ := bnd_some u2
                  show tE K tk σ4 H5 _
                  refine ⟨C', ρ4, G5, rk, ρk, S5, k0, fun kv G6 H6 S6 g6 r6 => ?_⟩
                  obtain ⟨G7, S7, g7, rpk⟩ := S6.demote r6 k1
                  refine ⟨C', ρ5, G7, ry, ρy, S7, y0, fun yv G8 H8 S8 g8 r8 => ?_⟩
                  obtain ⟨G9, S9, g9, rpy⟩ := S8.demote r8 y1
                  have g79 := g8.trans g9
                  have g59 := (g6.trans g7).trans g79
                  obtain ⟨SA, rA⟩ := hold _ _ _ _ S9 (g5.trans g59)
                  have rA' := rA
                  obtain ⟨a, o, ea, h2, h3, h4, h5, h6, h7⟩ := rA
                  cases ea
                  obtain ⟨key, hk⟩ := Option.isSome_iff_exists.mp c1
                  cases h4 with
                  | dN hne h => rw [nv_allN h hne] at c4'; cases c4'
                  | dK h4 =>
                    rename_i kvV
                    have lim := big_line
                    have hl := paired_len h4
                    refine ⟨kvV, key, keyD_val rpk hk, h2, by omega, ?_⟩
                    obtain ⟨SB, rB⟩ := SA.writeT (o' := HO.dK (putK kvV key yv)) (d' := .dict (putD acc kd yd)) rA' (.dK (kv_put hk (rpy.dq c2) h4))
                    have SC := SB.wipe vs
                    have rC := rw0 rB
                    rw [hw] at SC rC
                    exact ⟨putD acc kd yd, ρ6, G9, SC, gg.trans (g5.trans g59), rC, e2⟩
      · have he : i = ds.length := by omega
        subst he
        rw [List.drop_length] at e2
        cases e2
        refine .inl ⟨w2 _ (Nat.le_refl _), ?_⟩
        have SB := S1.back (ρ := wipeR vs 0 ρE) S2 g2 nown
        refine k _ G2 H2 SB (g1.trans g2) ?_
        obtain ⟨a, o, ea, h2, h3, h4, h5, h6, h7⟩ := r2
        refine ⟨a, o, ea, h2, h3, h4, h5, fun j ⟨t, z1, z2, z3⟩ => ?_, h7⟩
        have hl : ρ1.length = (wipeR vs 0 ρE).length := by rw [← S1.len, ← S2.len, wipe_len]
        rw [backR_get vs 0 ρ1 _ j hl] at z1
        by_cases hjv : 0 + j ∈ vs
        · rw [if_pos hjv] at z1
          have q := List.all_eq_true.mp nown j (by simpa using hjv)
          rw [z1] at q
          simp only [z2] at q
          cases q
        · rw [if_neg hjv] at z1
          exact h6 j ⟨t, z1, z2, by rw [wipe_out (by simpa using hjv)]; exact z3⟩
end Z
end

section
set_option Elab.async false
set_option linter.all false
set_option maxRecDepth 100000
set_option maxHeartbeats 2000000
/-! ZJ: x[::-1], x.index(y). -/
namespace Z
open PySem L2
variable {X : Cx}
section
open PySem.Spec PyProof.Rows HT
variable {prog : Program} {w : World} {A : Around} {E : Value → Shared → Prop} {s : Shared}
theorem back_applied {sl : Addr} {vl vu vs : Value} {n : Nat} {Q : Int × Int × Nat → Shared → Prop} (hs : s.heap.IsSliceOf sl vl vu vs) (pl : IsPart vl none) (pu : IsPart vu none) (ps : IsPart vs (some (-1))) (h : Q ((n : Int) - 1, -1, n) s) :
    wpAny (model prog w) A (Builtin.Slice.sliceApplied (.ref sl) (pure (n : Int))) Q E s := by
  obtain ⟨os, hos, hcs, hds⟩ := id hs
  unfold Builtin.Slice.sliceApplied Builtin.Slice.sliceFields
  refine wpAny_bind (wpAny_bind (wpAny_field hos hds (x := vl) rfl (wpAny_bind (wpAny_field hos hds (x := vu) rfl (wpAny_bind (wpAny_field hos hds (x := vs) rfl (wpAny_pure ?_)))))))
  refine wpAny_bind (slicePart_ ps ?_)
  show wpAny _ _ (if ((-1 : Int) == 0) = true then _ else _) _ _ s
  rw [if_neg (by decide)]
  refine wpAny_bind (slicePart_ pl (wpAny_bind (slicePart_ pu (wpAny_bind (wpAny_pure ?_)))))
  have e : Builtin.Slice.slicePlaces ((n : Int) - 1) (-1) (-1) = n := by
    unfold Builtin.Slice.slicePlaces
    rw [if_neg (by decide)]
    by_cases h0 : ((n : Int) - 1) > -1
    · rw [if_pos h0]
      have : ((n : Int) - 1 - -1 - 1) / (- -1) + 1 = (n : Int) := by
        rw [show (- -1 : Int) = 1 by decide, Int.ediv_one]; omega
      rw [this]; exact Int.toNat_natCast n
    · rw [if_neg h0]
      have : n = 0 := by omega
      subst this; rfl
  show wpAny _ _ (pure ((n : Int) - 1, (-1 : Int), Builtin.Slice.slicePlaces ((n : Int) - 1) (-1) (-1))) _ _ s
  rw [e]
  exact wpAny_pure h
theorem pick_back (xs : Array Value) : ((List.range xs.size).filterMap fun (k : Nat) => xs[((xs.size : Int) - 1 + (k : Int) * (-1)).toNat]?) = xs.toList.reverse := by
  have e : ∀ k, k < xs.size → xs[((xs.size : Int) - 1 + (k : Int) * (-1)).toNat]? = xs.toList.reverse[k]? := fun k hk => by
    rw [List.getElem?_reverse (by simpa using hk), Array.getElem?_toList, Array.length_toList]
    congr 1
    omega
  have all : ∀ m, m ≤ xs.size → (List.range m).filterMap (fun (k : Nat) => xs[((xs.size : Int) - 1 + (k : Int) * (-1)).toNat]?) = xs.toList.reverse.take m := by
    intro m
    induction m with
    | zero => exact fun _ => rfl
    | succ m ih =>
      intro hm
      have hl : m < xs.toList.reverse.length := by rw [List.length_reverse, Array.length_toList]; exact hm
      rw [List.range_succ, List.filterMap_append, ih (by omega), List.take_succ, List.getElem?_eq_getElem hl]
      congr 1
      have q := e m hm
      rw [List.getElem?_eq_getElem hl] at q
      simp only [List.filterMap_cons, q, List.filterMap_nil]; rfl
  rw [all xs.size (Nat.le_refl _), List.take_of_length_le (by simp)]
theorem tuple_back {t sl : Addr} {items : Array Value} {vl vu vs : Value} {Q : Value → Shared → Prop} (ht : IsTup s.heap t items) (hs : s.heap.IsSliceOf sl vl vu vs) (pl : IsPart vl none) (pu : IsPart vu none) (ps : IsPart vs (some (-1)))
    (h : Q (.ref s.heap.objs.size) { s with heap := s.heap.push { cls := .type "tuple", data := .seq items.toList.reverse.toArray } }) (hz : items.size ≤ sizeLine) : wpAny (model prog w) A (getItem (.ref t) (.ref sl)) Q E s := by
  have hok : sizeOk (.seq items.toList.reverse.toArray) := by
    show items.toList.reverse.toArray.size ≤ sizeLine
    simpa using hz
  obtain ⟨os, hos, hcs, hds⟩ := id hs
  have hTs : s.TypeIs (.ref sl) "slice" := ⟨os, hos, hcs⟩
  unfold getItem
  try with_reducible refine wpAny_holding ?_
  first | refine wpAny_bind (wpAny_pure ?_) | skip
  refine wpAny_bind (wpAny_sequenceKey ht.typeIs (by decide) ?_)
  refine wpAny_bind (wpAny_callSpecial?_slot (name := Str.ofString "__getitem__") ht.typeIs PyProof.Rows.slot_tuple_getitem (wpAny_call_entry PyProof.Rows.slot_tuple_getitem ht.typeIs entry_tuple_getitem ?_ (args_tuple_getitem _ _)))
  show wpAny _ _ (Builtin.Tuple.tupleItemsOf (.ref t) >>= _) _ _ s
  refine wpAny_bind (tupleItemsOf_ ht (wpAny_bind (wpAny_typeOf hTs ?_)))
  rw [if_pos (by decide)]
  refine wpAny_bind (back_applied hs pl pu ps ?_)
  show wpAny _ _ (if (((items.size : Int) - 1 == 0 && (-1 : Int) == 1 && items.size == items.size)) = true then _ else _) _ _ s
  rw [if_neg (by simp), pick_back]
  first
    | exact wpAny_bind (m := Builtin.Tuple.tupleExact _) (wpAny_newObj_type (wpAny_pure ⟨_, rfl, wpAny_pure h⟩) hok)
    | exact wpAny_bind (m := Builtin.Tuple.tupleExact _) (wpAny_newObj_type (wpAny_bind (wpAny_pure (wpAny_pure ⟨_, rfl, wpAny_pure h⟩))) hok)
    | exact wpAny_bind (wpAny_bind (m := Builtin.Tuple.tupleExact _) (wpAny_newObj_type (wpAny_pure (wpAny_pure ⟨_, rfl, wpAny_pure h⟩)) hok))
    | exact wpAny_bind (wpAny_bind (m := Builtin.Tuple.tupleExact _) (wpAny_newObj_type (wpAny_pure ⟨_, rfl, wpAny_pure h⟩) hok))
end
def rBack (K : Fr) : V → Hp → VK → Prop := fun x H Q => ∃ a xs, x = .ref a ∧ ((SqL K.k H a xs ∧ ∀ p, H p = none → Q (.ref p) (upd H p (.lst xs.reverse))) ∨ (SqT K.k H a xs ∧ ∀ p ob, H p = none → ob.dict = none → Q (.ref p) (upd H p (.frz ob (.tup xs.reverse)))))
theorem pe_back {e : Expr} {te : TE} {k : Nat} {p1 p2 p3 pos : Pos} (he : PE X e te) : PE X (.Subscript e (.Slice none none (some (.UnaryOp .USub (.Constant (.int 1) k p1) p2)) p3) pos) (fun σ H Q => te σ H fun x H1 => rBack X.wd x H1 Q) := by
  refine ⟨fun pins s σ H Q I h => PyProof.Rows.Subscript_ (thn (he.run pins s σ H _ I h) fun v s1 ⟨x, H1, I1, r1, q1⟩ => ?_)⟩
  obtain ⟨a, xs, ex, q⟩ := q1
  subst ex
  cases r1
  have hst : PO X (some (.UnaryOp .USub (.Constant (.int 1) k p1) p2)) (tPart (tUn (rU fun i => .int (-i)) (tC (.int 1)))) := po_some (pe_un un_neg pe_int)
  refine wpAny_Slice (thn (po_none.run pins s1 σ H1 (fun o H2 => o = none ∧ H2 = H1) I1 ⟨rfl, rfl⟩) fun vl s2 ⟨l, H2, I2, pl, el, e2⟩ => ?_)
  subst el e2
  refine thn (po_none.run pins s2 σ H2 (fun o H3 => o = none ∧ H3 = H2) I2 ⟨rfl, rfl⟩) fun vu s3 ⟨u, H3, I3, pu, eu, e3⟩ => ?_
  subst eu e3
  refine thn (hst.run pins s3 σ H3 (fun o H4 => o = some (-1) ∧ H4 = H3) I3 ⟨1, rfl, -1, rfl, rfl, rfl⟩) fun vs s4 ⟨o, H4, I4, ps, eo, e4⟩ => ?_
  subst eo e4
  have I5 : Inv X pins σ H4 { s4 with heap := s4.heap.push { cls := .type "slice", data := .fields #[vl, vu, vs] } } := I4.kept (t' := s4.toks) fun b ob q => Heap.get?_push_of_some _ q
  show wpAny (model X.prog X.w) X.A (PyProof.Rows.subscriptTail e (.Slice none none (some (.UnaryOp .USub (.Constant (.int 1) k p1) p2)) p3) (.ref a) (.ref s4.heap.objs.size)) (EP X pins σ Q) X.xe { s4 with heap := s4.heap.push { cls := .type "slice", data := .fields #[vl, vu, vs] } }
  have fr := I5.hok.fresh (Nat.le_refl _)
  rcases q with ⟨hx, q⟩ | ⟨hx, q⟩
  · obtain ⟨its, r, ht, hz⟩ := I5.list hx
    have hlen := r.length
    refine PyProof.Rows.tail_any (ops := [.ref a, .ref s4.heap.objs.size]) ht.isList.typeIs (PySem.slot_list_getitem.lookup) ?_ (by with_unfolding_all rfl)
    refine wpAny_getItem_list_slice ht.isList (Heap.IsSliceOf.new _ vl vu vs) pl pu ps (by decide) ?_ (by rw [List.size_toArray]; omega)
    rw [PySem.W.krv_pick]
    exact ⟨.ref _, _, I5.laid (t' := s4.toks) (o := .lst xs.reverse) (fun b ob q => Heap.get?_push_of_some _ q) (Nat.le_refl _) ⟨by rw [List.length_reverse]; exact hz, _, 0, r.reverse, Heap.get?_push_size _ rfl⟩, rfl, q _ fr⟩
  · obtain ⟨its, r, ht, hz⟩ := I5.tuple hx
    have hlen := r.length
    refine PyProof.Rows.tail_any (ops := [.ref a, .ref s4.heap.objs.size]) ht.typeIs (PyProof.Rows.slot_tuple_getitem.lookup) ?_ (by with_unfolding_all rfl)
    refine tuple_back ht (Heap.IsSliceOf.new _ vl vu vs) pl pu ps ?_ (by rw [List.size_toArray]; omega)
    exact ⟨.ref _, _, I5.ltup (t' := s4.toks) (fun b ob q => Heap.get?_push_of_some _ q) (Nat.le_refl _) (Heap.get?_push_size _ rfl) rfl rfl (by simpa using r.reverse) (by rw [List.length_reverse]; exact hz), rfl, q _ _ fr rfl⟩
def dBack : D → Option Rs
  | .list ds => some (.new (.list ds.reverse))
  | .tuple ds => some (.val (.tuple ds.reverse))
  | _ => none
theorem backG {K : Fr} : UnG K (rBack K) dBack := by
  intro x G H d rs Q s rx hd k
  cases d with
  | list ds =>
    cases hd
    obtain ⟨a, xs, rfl, h2, h3⟩ := rp_lst s rx
    refine ⟨a, xs, rfl, .inl ⟨.inl h2, fun p n => ?_⟩⟩
    obtain ⟨x, z⟩ := new_lst (K := K) s n (dpAll_reverse h3)
    exact k _ _ _ x z
  | tuple ds =>
    cases hd
    obtain ⟨a, xs, rfl, h2, h3⟩ := rp_tup rx
    refine ⟨a, xs, rfl, .inr ⟨sqT_mono s h2, fun p ob n hob => ?_⟩⟩
    obtain ⟨x, z⟩ := new_tup (K := K) s n hob (dpAll_reverse h3)
    exact k _ _ _ x z
  | _ => cases hd
theorem de_back {e : Expr} {m : M Res} {k : Nat} {p1 p2 p3 pos : Pos} (he : DE X e m) : DE X (.Subscript e (.Slice none none (some (.UnaryOp .USub (.Constant (.int 1) k p1) p2)) p3) pos) (mUn dBack m) := (pe_back he).imp (tUn_of backG)

/-! ### x.index(y), x a list or a tuple -/
def rIndexT (K : PySem.W.Frag) : V → List V → Hp → VK → Prop := fun x xs H Q => ∃ (a : Addr) (y : V) (d : PyData) (vs : List V) (ds : List PyData) (j : Nat) (z : PyData), x = V.ref a ∧ xs = [y] ∧ SqT K H a vs ∧ DpAll K H vs ds ∧ Dp K H y d ∧
  SeqAt.shaped (.tuple ds) = true ∧ SeqAt.shaped d = true ∧ ds[j]? = some z ∧ PyData.eqv z d = true ∧ (∀ (m : Nat) (z' : PyData), m < j → ds[m]? = some z' → PyData.eqv z' d = false) ∧ Q (.int (j : Nat)) H
theorem mt_indexT (hu : X.A.units + 65 < cLine) : MtR X "tuple.index" (rIndexT X.K) := by
  intro pins s σ H x xs v us Q I rx rxs h
  obtain ⟨a, y, d, vs, ds, j, z, rfl, rfl, hs, ha, hy, sl, sd, hz, hzj, hno, q⟩ := h
  cases rx
  cases rxs with
  | cons ry rt =>
    rename_i uy ut
    cases rt
    obtain ⟨bs, r1⟩ := Dp.reads I d y uy hy ry
    have hxs : PyData.canLayAll0 ds = true := by
      have := SeqAt.canLay_of_shaped sl
      simpa [PyData.canLay0] using this
    have hroom := room_in (A := X.A) (ds := ds) sd hu
    obtain ⟨its, rv, ⟨⟨cls, dd, data, sls⟩, ho, hc, n, hdt⟩, hlen⟩ := I.tuple hs
    simp only at hc hdt
    subst hc hdt
    obtain ⟨as, h4⟩ := Dp.readsAll I ds _ its ha rv
    have hn : its.length = ds.length := SeqAt.ReadsAll.length ds its as h4
    have hmap : its.map (SeqAt.readOf s.heap) = ds := SeqAt.readsAll_map ds its as hxs h4
    have hsl := sizeLine_eq
    obtain ⟨hjd, _⟩ := List.getElem?_eq_some_iff.mp hz
    have hj : j < its.toArray.size := by rw [List.size_toArray]; omega
    have at_ : ∀ (m : Nat) (hm : m < its.toArray.size) (z' : PyData), ds[m]? = some z' → SeqAt.readOf s.heap its.toArray[m] = z' := fun m hm z' hz' => by
      have hml : m < its.length := by simpa using hm
      rw [← hmap, List.getElem?_map, List.getElem?_eq_getElem hml] at hz'
      have e1 := Option.some.inj hz'
      simpa using e1
    refine call_meets PySem.F.slot_tuple_index ⟨_, ho, rfl⟩ PySem.F.entry_tuple_index (PySem.F.args_tuple_index_2 _ _) (_root_.TI.tuple_indexAt a its.toArray n dd sls uy (fun u => PyData.eqv (SeqAt.readOf s.heap u) d) j hj ?_ ?_)
      ⟨ho, SeqAt.items_eqAt (vs := its.toArray) (show ReadsAll s.heap its.toArray.toList ds as from h4) r1 hxs (SeqAt.canLay_of_shaped sd) hroom, ⟨.int (j : Nat), H, I.tok _, ⟨_, rfl⟩, q⟩⟩
    · show PyData.eqv (SeqAt.readOf s.heap its.toArray[j]) d = true
      rw [at_ j hj z hz]; exact hzj
    · intro m hm hmj
      have hmd : m < ds.length := by omega
      have hz' : ds[m]? = some ds[m] := List.getElem?_eq_getElem hmd
      show PyData.eqv (SeqAt.readOf s.heap its.toArray[m]) d = false
      rw [at_ m hm _ hz']; exact hno m _ hmj hz'
def rIdx (K : Fr) : V → V → Hp → VK → Prop := fun x y H Q => ((∃ p xs, x = .ref p ∧ SqL K.k H p xs) ∧ rIndexD K.k x [y] H Q) ∨ ((∃ p xs, x = .ref p ∧ TqT K.k H p xs) ∧ rIndexT K.k x [y] H Q)
/-- what of the thing stands behind the argument, too -/
def tIdx (K : Fr) (to te : TE) : TE := fun σ H Q => to σ H fun x H1 => ((∃ p xs, x = .ref p ∧ SqL K.k H1 p xs) ∧ te σ H1 fun y H2 => rIndexD K.k x [y] H2 Q) ∨ ((∃ p xs, x = .ref p ∧ TqT K.k H1 p xs) ∧ te σ H1 fun y H2 => rIndexT K.k x [y] H2 Q)
theorem pe_index {o e : Expr} {to te : TE} {apos cpos : Pos} (hu : X.A.units + 65 < cLine) (ho : PE X o to) (he : PE X e te) (hbase : attributeBase o "index" X.env (eval o X.env) = eval o X.env)
    (hfew : ((backTo cpos (starEach [e] X.env)).all (fun x => !x.1) && (backToKw cpos (keywordEach [] X.env)).all (fun x => x.1.isSome) && decide ([e].length + ([] : List Keyword).length + (if ([] : List Keyword).isEmpty then 0 else 1) < 30)) = true)
    (hline : (apos.endLine == cpos.line) = true) (hs : starEach [e] X.env = (false, eval e X.env) :: starEach [] X.env) : PE X (.Call (.Attribute o "index" apos) [e] [] cpos) (tIdx X.wd to te) := by
  refine ⟨fun pins s σ H Q I h => ?_⟩
  refine wpAny_Call_method_late hbase hfew hline rfl (thn (ho.run pins s σ H _ I h) fun v s1 ⟨x, H1, I1, r1, q⟩ => ?_)
  have go : ∀ {T id : String} {r : V → List V → Hp → VK → Prop}, PlainAttrs T → PySem.Slot T "index" id → typeOf (.builtin id) = pure (.type "method_descriptor") → MtR X id r → s1.TypeIs v T → (∀ a, v = .ref a → ∃ ob, s1.heap.get? a = some ob ∧ ob.dict = none) → (te σ H1 fun y H2 => r x [y] H2 Q) →
      MethodOn X.prog X.w X.A "index" cpos v (backTo cpos (starEach [e] X.env)) (EP X pins σ Q) X.xe s1 := by
    intro T id r pa slot hty hm t1 t2 q
    refine ⟨T, id, pa, slot, hty, t1, t2, ?_⟩
    have hA := (pa_cons he pa_nil hs).run cpos pins s1 σ H1 (fun ys H2 => r x ys H2 Q) I1 q
    rw [hs] at hA ⊢
    refine Calls.callWith_builtin rfl (Calls.evalArgs_plain ?_)
    exact thn hA fun us s2 ⟨vs, H2, I2, r2, q2⟩ => hm pins s2 σ H2 x vs v us Q I2 r1 r2 q2
  rcases q with ⟨⟨p, xs, rfl, hl⟩, q⟩ | ⟨⟨p, xs, rfl, hl⟩, q⟩
  · have rv := r1
    cases r1
    obtain ⟨t1, t2⟩ := tyV_is I1 (x := V.ref p) (T := "list") rv (.inl ⟨rfl, xs, hl⟩)
    exact go PySem.F.plainAttrs_list PySem.F.slot_list_index PySem.F.type_list_index (mt_indexD hu) t1 t2 q
  · cases (show v = Value.ref p from r1)
    obtain ⟨ob, h1, h2, h3⟩ := tqT_at I1 hl
    exact go PySem.F.plainAttrs_tuple PySem.F.slot_tuple_index PySem.F.type_tuple_index (mt_indexT hu) ⟨ob, h1, h2⟩ (fun b e => by cases e; exact ⟨ob, h1, h3⟩) q
theorem seqL_of' {K : Fr} {G : Hp} {v : V} {ds : List D} (h : Rp K G v (.list ds)) : ∃ a xs, v = V.ref a ∧ Rd G a (.lst xs) ∧ DqAll K.k G xs ds := by
  cases h with
  | dat h => cases h with
    | lst h1 h2 => exact ⟨_, _, rfl, h1, h2⟩
  | con h1 h2 => cases h2 with
    | lst h => exact ⟨_, _, rfl, Or.inl h1, h⟩
/-- the first place of an equal one -/
def idxD (ds : List D) (d : D) : Option Nat := ds.findIdx? fun z => PyData.eqv z d
def dIdx : D → D → Option Rs
  | .list ds, d => if SeqAt.shaped (.list ds) && SeqAt.shaped d then match idxD ds d with
      | some j => some (.val (.int (j : Nat)))
      | none => none
    else none
  | .tuple ds, d => if SeqAt.shaped (.tuple ds) && SeqAt.shaped d then match idxD ds d with
      | some j => some (.val (.int (j : Nat)))
      | none => none
    else none
  | _, _ => none
def isSeq : D → Bool
  | .list _ => true
  | .tuple _ => true
  | _ => false
/-- the thing is shared ahead of the argument -/
def mIdx (mo me : M Res) : M Res := bnd (mShare mo) fun o => bnd (mShare me) fun e ρ => match dIdx o e with
  | some r => some (r.res, ρ)
  | none => none
theorem idxD_some {ds : List D} {d : D} {j : Nat} (h : idxD ds d = some j) : ∃ z, ds[j]? = some z ∧ PyData.eqv z d = true ∧ ∀ (m : Nat) (z' : D), m < j → ds[m]? = some z' → PyData.eqv z' d = false := by
  unfold idxD at h
  obtain ⟨hj, h1, h2⟩ := List.findIdx?_eq_some_iff_getElem.mp h
  refine ⟨ds[j], List.getElem?_eq_getElem hj, h1, fun m z' hm hz => ?_⟩
  have hml : m < ds.length := (List.getElem?_eq_some_iff.mp hz).1
  rw [List.getElem?_eq_getElem hml] at hz
  cases hz
  have := h2 m hm
  simpa using this
theorem idx_of {K : Fr} {mo me : M Res} : ∀ σ H Q, tE K (mIdx mo me) σ H Q → tIdx K (tE K mo) (tE K me) σ H Q := by
  rintro σ H Q ⟨C, ρ, G, rr, ρ', S, e, k⟩
  obtain ⟨od, ρ1, e1, e⟩ := bnd_some e
  obtain ⟨ed, ρ2, e2, e⟩ := bnd_some e
  obtain ⟨ro, ρo, o0, o1⟩ := bnd_some e1
  obtain ⟨re, ρe, x0, x1⟩ := bnd_some e2
  refine ⟨C, ρ, G, ro, ρo, S, o0, fun v G1 H1 S1 g1 r1 => ?_⟩
  obtain ⟨G2, S2, g2, rp⟩ := S1.demote r1 o1
  cases q : dIdx od ed with
  | none => rw [q] at e; cases e
  | some rs =>
    rw [q] at e; cases e
    cases od with
    | list ds =>
      have q' : (if SeqAt.shaped (.list ds) && SeqAt.shaped ed then match idxD ds ed with | some j => some (Rs.val (.int (j : Nat))) | none => none else none) = some rs := q
      obtain ⟨c, q'⟩ := if_some q'
      rw [Bool.and_eq_true] at c
      cases w : idxD ds ed with
      | none => rw [w] at q'; cases q'
      | some j =>
        rw [w] at q'; cases q'
        obtain ⟨z, z1, z2, z3⟩ := idxD_some w
        obtain ⟨a, xs, rfl, h1, h2⟩ := seqL_of' rp
        refine .inl ⟨⟨a, xs, rfl, .inl (Evl.ex_rd S2.fm.gh h1)⟩, C, ρ1, G2, re, ρe, S2, x0, fun u G3 H3 S3 g3 r3 => ?_⟩
        obtain ⟨G4, S4, g4, rq⟩ := S3.demote r3 x1
        have g24 := g3.trans g4
        exact ⟨a, u, ed, ds, j, z, rfl, rfl, .lst (.inl (Evl.ex_rd S4.fm.gh (Evl.ex_rd g24 h1))) (dpAll_mono S4.fm.gh (dpAll_mono g24 h2)).dp, (dp_mono S4.fm.gh (rq.dq (shaped_nd c.2))).dp, c.1, c.2, z1, z2, z3, k _ G4 H3 S4 ((g1.trans g2).trans g24) (Rp.dat (.int _))⟩
    | tuple ds =>
      have q' : (if SeqAt.shaped (.tuple ds) && SeqAt.shaped ed then match idxD ds ed with | some j => some (Rs.val (.int (j : Nat))) | none => none else none) = some rs := q
      obtain ⟨c, q'⟩ := if_some q'
      rw [Bool.and_eq_true] at c
      cases w : idxD ds ed with
      | none => rw [w] at q'; cases q'
      | some j =>
        rw [w] at q'; cases q'
        obtain ⟨z, z1, z2, z3⟩ := idxD_some w
        obtain ⟨a, xs, rfl, h1, h2⟩ := rp_tupT (H := H1) (.inl rp)
        refine .inr ⟨⟨a, xs, rfl, h1.mono S2.fm.gh⟩, C, ρ1, G2, re, ρe, S2, x0, fun u G3 H3 S3 g3 r3 => ?_⟩
        obtain ⟨G4, S4, g4, rq⟩ := S3.demote r3 x1
        have g24 := g3.trans g4
        exact ⟨a, u, ed, xs, ds, j, z, rfl, rfl, (h1.mono (g24.trans S4.fm.gh)).sq, (dpAll_mono S4.fm.gh (dpAll_mono g24 h2)).dp, (dp_mono S4.fm.gh (rq.dq (shaped_nd c.2))).dp, c.1, c.2, z1, z2, z3, k _ G4 H3 S4 ((g1.trans g2).trans g24) (Rp.dat (.int _))⟩
    | _ => cases q
end Z
end

section
set_option Elab.async false
set_option linter.all false
set_option maxRecDepth 100000
set_option maxHeartbeats 2000000
/-! ZJM: l.remove(x) of data; d.setdefault(k, x). -/
namespace Z
open PySem L2
section
variable {X : Cx}
/-- l.remove(x), x in l -/
def mtRemove : D → List D → Option (D × D)
  | .list ds, [e] => if SeqAt.shaped (.list ds) && SeqAt.shaped e then match SeqAt.dataPlace ds e with
      | some j => some (.list (ds.eraseIdx j), .none)
      | none => none
    else none
  | _, _ => none
def rRemD (K : PySem.W.Frag) : V → List V → Hp → VK → Prop := fun x vs H Q => ∃ (l : Addr) (xs : List V) (ds : List D) (y : V) (d : D) (j : Nat), x = V.ref l ∧ vs = [y] ∧ H l = some (.lst xs) ∧ DpAll K H xs ds ∧ Dp K H y d ∧
  SeqAt.shaped (.list ds) = true ∧ SeqAt.shaped d = true ∧ SeqAt.dataPlace ds d = some j ∧ Q .non (upd H l (.lst (xs.eraseIdx j)))
theorem plainAll_of {ds : List D} (h : PyData.canLayAll0 ds = true) : PyData.plainAll ds = true := by
  have := PyData.plain_of_canLay0 (.list ds) (by simpa [PyData.canLay0] using h)
  simpa [PyData.plain] using this
theorem mt_removeD (hu : X.A.units + 65 < cLine) : MtR X "list.remove" (rRemD X.K) := by
  intro pins s σ H x vs v us Q I rx rv h
  obtain ⟨l, xs, ds, y, d, j, rfl, rfl, hH, ha, hy, sl, sd, hj, q⟩ := h
  cases rx
  obtain ⟨u, rfl, ru⟩ := rv.one
  obtain ⟨its, n, r, ho, hz⟩ := I.lst hH
  obtain ⟨bs, r1⟩ := Dp.reads I d y u hy ru
  obtain ⟨as, r2⟩ := Dp.readsAll I ds _ its ha r
  have hxs : PyData.plainAll ds = true := plainAll_of (by simpa [PyData.canLay0] using SeqAt.canLay_of_shaped sl)
  have hd : d.plain = true := PyData.plain_of_canLay0 d (SeqAt.canLay_of_shaped sd)
  have hlen : its.length = xs.length := r.length.symm
  have hds : its.length = ds.length := SeqAt.ReadsAll.length ds its as r2
  have hjd : j < ds.length := by
    unfold SeqAt.dataPlace at hj
    exact (List.findIdx?_eq_some_iff_getElem.mp hj).1
  refine SeqAt.remove_list_data (vs := its.toArray) ⟨_, ho, rfl, n, rfl⟩ (by simpa using r2) r1 hxs hd (room_in (A := X.A) (ds := ds) sd hu) hj (by rw [List.size_toArray]; omega) ?_
  refine ⟨.non, _, I.lstUpd (n' := if (its.eraseIdx j).length = its.length then n else n + 1) (its' := its.eraseIdx j) (ys := xs.eraseIdx j) hH ho ?_ (r.eraseIdx j) ?_ s.toks, rfl, q⟩
  · simp [Obj.mapSeq, List.eraseIdxIfInBounds_toArray]
  · rw [List.length_eraseIdx]; split <;> omega
theorem removeG {K : Fr} : MtG K (rRemD K.k) mtRemove := by
  intro xs G H a o d ds d' rd Q s ha hn hc rp hg k
  cases d <;> try cases hg
  rename_i zs
  obtain ⟨vs, rfl, hz⟩ := con_lst hc
  cases rp with
  | nil => cases hg
  | cons h hs =>
    cases hs with
    | cons _ _ => cases hg
    | nil =>
      rename_i v e
      have hg' : (if SeqAt.shaped (.list zs) && SeqAt.shaped e then match SeqAt.dataPlace zs e with
        | some j => some (PyData.list (zs.eraseIdx j), PyData.none)
        | none => none
        else none) = some (d', rd) := hg
      obtain ⟨c, hg'⟩ := if_some hg'
      rw [Bool.and_eq_true] at c
      cases q : SeqAt.dataPlace zs e with
      | none => rw [q] at hg'; cases hg'
      | some j =>
        rw [q] at hg'; cases hg'
        have nd : isDict e = false := by
          cases e with
          | dict _ => have := SeqAt.canLay_of_shaped c.2; simp [PyData.canLay0] at this
          | _ => rfl
        exact ⟨a, vs, zs, v, e, j, rfl, rfl, ha, (dpAll_mono s hz).dp, (dp_mono s (h.dq nd)).dp, c.1, c.2, q, k _ _ (.lst (dpAll_erase j hz)) (Rp.dat .non)⟩

/-- d.setdefault(k, x) -/
def mtSetdef : D → List D → Option (D × D)
  | .dict kvs, [k, e] => if !isDict e && suits kvs k && decide (kvs.length < big) then match valD kvs k with
      | some v => some (.dict kvs, v)
      | none => some (.dict (putD kvs k e), e)
    else none
  | _, _ => none
def rSetdef (K : Fr) : V → List V → Hp → VK → Prop := fun x vs H Q => (∃ a kv key v, x = V.ref a ∧ H a = some (.dK kv) ∧ vs = [kV key, v] ∧ kv.length < sizeLine ∧ (∀ u, valV kv key = some u → Q u H) ∧ (valV kv key = none → Q v (upd H a (.dK (putK kv key v))))) ∨
  ∃ a xs kvs p d key v, x = V.ref a ∧ NAt K H a xs kvs ∧ vs = [V.ref p, v] ∧ Dq K.k H (.ref p) d ∧ nk d = some key ∧ key.depth ≤ 8 ∧ xs.length < sizeLine ∧ (∀ u, valN xs key = some u → Q u H) ∧ (valN xs key = none → Q v (upd H a (hN K a (putN xs key p v))))
theorem mt_setdef (hu : X.A.units + 65 < cLine) : MtR X "dict.setdefault" (rSetdef X.wd) := by
  intro pins s σ H x vs v us Q I rx rv h
  rcases h with ⟨a, kv, key, z, rfl, ha, rfl, hl, q1, q2⟩ | ⟨a, xs, kvs, p, d, key, z, rfl, ha, rfl, hd, hk, hz, hl, q1, q2⟩
  · cases rx
    cases rv with
    | cons r1 rt =>
      cases rt with
      | cons r2 rt =>
        cases rt
        exact d_setd I ha r1 r2 hl (fun u hv w' s' I' rw' => ⟨u, _, I', rw', q1 u hv⟩) fun hn w' s' I' rw' => ⟨z, _, I', rw', q2 hn⟩
  · cases rx
    cases rv with
    | cons r1 rt =>
      cases rt with
      | cons r2 rt =>
        cases rt
        cases r1
        obtain ⟨hz2, hm, ys, pr, dd⟩ := nAt I ha
        have hlen := paired_len pr
        refine PySem.call_setdefault_heap (knd := nestedKind X.prog X.w) (hsz := by rw [← hlen]; exact hz2) (show X.A.in1.units + 8 < cLine by simp [Around.in1]; omega) (nk_key I hd hk hz) hm dd (fun e he => ?_) fun hn h' dd' hs => ?_
        · have := nVal_at pr key
          rw [he] at this
          cases q : valN xs key with
          | none => rw [q] at this; exact this.elim
          | some w =>
            rw [q] at this
            exact ⟨w, H, I.tok _, this, q1 w q⟩
        · have := nVal_at pr key
          rw [hn] at this
          cases q : valN xs key with
          | some w => rw [q] at this; exact this.elim
          | none =>
            refine ⟨z, _, nPut I ?_ hs dd' (nVal_put pr key r2) (by have := putN_len xs key p z; omega) hm, r2, q2 q⟩
            rcases ha with ⟨h, _⟩ | ⟨h, _⟩ <;> rw [h] <;> trivial
theorem upd_eq {H : Hp} {a : Addr} {o : HO} (h : H a = some o) : upd H a o = H := by
  funext b
  by_cases hb : b = a
  · subst hb; rw [upd_same, h]
  · rw [upd_ne hb]
theorem setdefG {K : Fr} : MtG K (rSetdef K) mtSetdef := by
  intro xs G H a o d ds d' rd Q s ha hn hc rp hg kk
  cases d <;> try cases hg
  rename_i kvs
  cases rp with
  | nil => cases hg
  | cons h1 hs =>
    cases hs with
    | nil => cases hg
    | cons h2 ht =>
      cases ht with
      | cons _ _ => cases hg
      | nil =>
        rename_i i k v e
        have hg' : (if !isDict e && suits kvs k && decide (kvs.length < big) then match valD kvs k with
          | some v => some (PyData.dict kvs, v)
          | none => some (PyData.dict (putD kvs k e), e)
          else none) = some (d', rd) := hg
        obtain ⟨c, hg'⟩ := if_some hg'
        rw [Bool.and_eq_true, Bool.and_eq_true, Bool.not_eq_true', decide_eq_true_eq] at c
        obtain ⟨⟨c1, c2⟩, c3⟩ := c
        have lim : big ≤ sizeLine := big_line
        have rx : Rd1 K G H (V.ref a) (.dict kvs) := .inr ⟨a, o, rfl, ha, hc⟩
        rcases suits_of s rx (Or.inl h1) c2 with ⟨b, kv, key, e1, hb, hcv, hk, rfl⟩ | ⟨b, ys, p, key, e1, hb, hcv, rfl, hd, hk, ht, hz⟩
        · cases e1
          have hl := paired_len hcv
          have hv := kv_val hk hcv
          refine .inl ⟨a, kv, key, v, rfl, hb, rfl, by omega, fun u hu => ?_, fun hu => ?_⟩
          · rcases hv with ⟨z1, z2⟩ | ⟨w, d2, z1, z2, z3⟩
            · rw [hu] at z1; cases z1
            · rw [hu] at z1; cases z1
              rw [z2] at hg'; cases hg'
              have := kk u (.dK kv) (.dK hcv) (.dat z3)
              rwa [upd_eq hb] at this
          · rcases hv with ⟨z1, z2⟩ | ⟨w, d2, z1, z2, z3⟩
            · rw [z2] at hg'; cases hg'
              exact kk _ _ (.dK (kv_put hk (h2.dq c1) hcv)) h2
            · rw [hu] at z1; cases z1
        · cases e1
          have hl := paired_len hcv
          have hv := nv_val hk hcv
          refine .inr ⟨a, ys, kvs, p, k, key, v, rfl, hb, rfl, dp_mono s hd, hk, hz, by omega, fun u hu => ?_, fun hu => ?_⟩
          · rcases hv with ⟨z1, z2⟩ | ⟨w, d2, z1, z2, z3⟩
            · rw [hu] at z1; cases z1
            · rw [hu] at z1; cases z1
              rw [z2] at hg'; cases hg'
              rcases hb with ⟨hb, _⟩ | ⟨_, e0, _⟩
              · have hne : kvs ≠ [] := by
                  rintro rfl
                  cases hcv
                  cases hu
                have := kk u (hN K a ys) (.dN hne hcv) (.dat z3)
                rwa [upd_eq hb] at this
              · rw [e0] at hu; cases hu
          · rcases hv with ⟨z1, z2⟩ | ⟨w, d2, z1, z2, z3⟩
            · rw [z2] at hg'; cases hg'
              exact kk _ _ (.dN putD_ne (nv_put hk ht hz hd (h2.dq c1) hcv)) h2
            · rw [hu] at z1; cases z1
/-- a dict, of keys or of tuples -/
def dictV (K : Fr) (x : V) (H : Hp) : Prop := ∃ a, x = V.ref a ∧ ((∃ kv, H a = some (.dK kv)) ∨ ∃ xs, H a = some (hN K a xs))
theorem isDict_at {K : Fr} : ∀ H a o d G, H a = some o → Con K G a o d → isDict d = true → dictV K (V.ref a) H := by
  intro H a o d G h hc hl
  cases hc with
  | lst _ => cases hl
  | dK _ => exact ⟨a, rfl, .inl ⟨_, h⟩⟩
  | dN _ _ => exact ⟨a, rfl, .inr ⟨_, h⟩⟩
theorem dictV_is {pins : List (Addr × Obj)} {σ : St} {H : Hp} {s : Shared} {x : V} {v : Value} (I : Inv X pins σ H s) (r : RelV x v) (h : dictV X.wd x H) : s.TypeIs v "dict" ∧ ∀ a, v = .ref a → ∃ ob, s.heap.get? a = some ob ∧ ob.dict = none := by
  obtain ⟨a, rfl, h⟩ := h
  cases (show v = Value.ref a from r)
  rcases h with ⟨kv, h⟩ | ⟨xs, h⟩
  · exact let ⟨z1, z2, _⟩ := isD_at I (.inl ⟨kv, .inl h⟩); ⟨z1, z2⟩
  · obtain ⟨⟨_, _, _, o, es, ep, h1, h2, _⟩, _⟩ := I.hok a _ h
    exact ⟨⟨o, h1, h2.1⟩, fun b e => by cases e; exact ⟨o, h1, h2.2.1⟩⟩
theorem pe_bmD {o e : Expr} {es : List Expr} {to : TE} {t : TA} {name : Str} {apos cpos : Pos} {id : String} {r : V → List V → Hp → VK → Prop} (slot : PySem.Slot "dict" name id) (hty : typeOf (.builtin id) = pure (.type "method_descriptor")) (hm : MtR X id r) (ho : PE X o to) (ha : PA X (e :: es) t)
    (hbase : attributeBase o name X.env (eval o X.env) = eval o X.env) (hfew : ((backTo cpos (starEach (e :: es) X.env)).all (fun x => !x.1) && (backToKw cpos (keywordEach [] X.env)).all (fun x => x.1.isSome) && decide ((e :: es).length + ([] : List Keyword).length + (if ([] : List Keyword).isEmpty then 0 else 1) < 30)) = true)
    (hline : (apos.endLine == cpos.line) = true) (hs : starEach (e :: es) X.env = (false, eval e X.env) :: starEach es X.env) (hplain : (backTo cpos (starEach es X.env)).any (·.1) = false) : PE X (.Call (.Attribute o name apos) (e :: es) [] cpos) (tBMp (dictV X.wd) r to t) := by
  constructor
  intro pins s σ H Q I h
  apply wpAny_Call_method_late hbase hfew hline rfl
  apply thn (ho.run pins s σ H _ I h)
  rintro v s1 ⟨x, H1, I1, r1, ty, q1⟩
  have k := dictV_is I1 r1 ty
  have hA := ha.run cpos pins s1 σ H1 _ I1 q1
  refine ⟨"dict", id, PySem.F.plainAttrs_dict, slot, hty, k.1, k.2, ?_⟩
  rw [hs] at hA ⊢
  apply Calls.callWith_builtin (by show (false || (backTo cpos (starEach es X.env)).any (·.1)) = false; rw [hplain]; rfl)
  exact Calls.evalArgs_plain (thn hA fun us s2 ⟨vs, H2, I2, r2, q2⟩ => hm pins s2 σ H2 x vs v us Q I2 r1 r2 q2)
/-! ### x is y -/
def isNo : D → Bool
  | .none => true
  | _ => false
def dIsB (neg : Bool) : D → D → Option Rs
  | .bool a, .bool b => some (.val (.bool (if neg then !decide (a = b) else decide (a = b))))
  | _, _ => none
def dIsNo (neg : Bool) (d e : D) : Option Rs := match e with
  | .none => if isDict d then none else some (.val (.bool (if neg then !isNo d else isNo d)))
  | _ => none
theorem isBG {K : Fr} : OpG K rIsB (dIsB false) := by
  intro x y G H d e rs Q s rx ry hg k
  cases d <;> try cases hg
  cases e <;> cases hg
  exact ⟨_, _, rp_bool rx, rp_bool ry, k _ G H (Ext.refl s) val_bl⟩
theorem notBG {K : Fr} : OpG K rNotB (dIsB true) := by
  intro x y G H d e rs Q s rx ry hg k
  cases d <;> try cases hg
  cases e <;> cases hg
  exact ⟨_, _, rp_bool rx, rp_bool ry, k _ G H (Ext.refl s) val_bl⟩
def rIs0 : R2 := fun x y H Q => y = .non ∧ Q (.bl (decide (x = .non))) H
def rNot0 : R2 := fun x y H Q => y = .non ∧ Q (.bl (!decide (x = .non))) H
theorem isNo_of {K : Fr} {G H : Hp} {x : V} {d : D} (s : Same G H) (h : Rd1 K G H x d) (hd : isDict d = false) : decide (x = V.non) = isNo d := by
  have q := h.dq s hd
  cases q <;> rfl
theorem isNoG {K : Fr} : OpG K rIs0 (dIsNo false) := by
  intro x y G H d e rs Q s rx ry hg k
  cases e <;> try cases hg
  have hg' : (if isDict d then none else some (Rs.val (.bool (isNo d)))) = some rs := hg
  cases c : isDict d with
  | true => rw [c] at hg'; cases hg'
  | false =>
    rw [c] at hg'; cases hg'
    have q := isNo_of s rx c
    exact ⟨rp_none ry, by rw [q]; exact k _ G H (Ext.refl s) val_bl⟩
theorem notNoG {K : Fr} : OpG K rNot0 (dIsNo true) := by
  intro x y G H d e rs Q s rx ry hg k
  cases e <;> try cases hg
  have hg' : (if isDict d then none else some (Rs.val (.bool (!isNo d)))) = some rs := hg
  cases c : isDict d with
  | true => rw [c] at hg'; cases hg'
  | false =>
    rw [c] at hg'; cases hg'
    have q := isNo_of s rx c
    exact ⟨rp_none ry, by rw [q]; exact k _ G H (Ext.refl s) val_bl⟩
end
end Z
end

section
set_option Elab.async false
set_option linter.all false
set_option maxRecDepth 100000
set_option maxHeartbeats 2000000
/-! ZK: from a text to its meaning: the pieces. -/
namespace Z
open PySem L2
variable {X : Cx}

/-! ### what nobody told: no meaning -/
def mBad {α : Type} : M α := fun _ => none
def sBad : SM := fun _ => none
theorem de_bad {e : Expr} : DE X e mBad := ⟨fun pins s σ H Q I ⟨C, ρ, G, r, ρ', S, e, k⟩ => by cases e⟩
theorem dt_bad {e : Expr} : DT X e mBad := ⟨fun pins s σ H Q I ⟨C, ρ, G, r, ρ', S, e, k⟩ => by cases e⟩
theorem dg_bad {e : Expr} : DG X e [] (fun _ _ => none) := ⟨fun pins s σ H v u Q I r ⟨C, ρ, G, d, ρ', S, rp, e, k⟩ => by cases e⟩
theorem ds_bad {st : Stmt} : DS X st sBad := ⟨fun pins s σ H Dd I ⟨C, ρ, G, o, S, e, k⟩ => by cases e⟩
theorem di_bad {tg e : Expr} : DI X tg e mBad := ⟨fun pins s σ H R I ⟨C, ρ, G, d, ρ', S, e, k⟩ => by cases e⟩
theorem dl_bad {es : List Expr} : DL X es mBad := ⟨fun ps pins s σ H Q I ⟨C, ρ, G, r, ρ', S, e, k⟩ => by cases e⟩

/-! ### expressions without a star -/
def plain : Expr → Bool
  | .Starred _ _ => false
  | _ => true
theorem star_of {e : Expr} (h : plain e = true) (es : List Expr) (env : Env) : starEach (e :: es) env = (false, eval e env) :: starEach es env := by
  cases e <;> first
    | rfl
    | cases h
theorem star_any : ∀ {es : List Expr} {pos : Pos} {env : Env}, es.all plain = true → (backTo pos (starEach es env)).any (·.1) = false
  | [], _, _, _ => rfl
  | e :: es, pos, env, h => by
    rw [List.all_cons, Bool.and_eq_true] at h
    rw [star_of h.1]
    have := star_any (pos := pos) (env := env) h.2
    simpa [backTo] using this
theorem star_all : ∀ {es : List Expr} {pos : Pos} {env : Env}, es.all plain = true → (backTo pos (starEach es env)).all (fun x => !x.1) = true
  | [], _, _, _ => rfl
  | e :: es, pos, env, h => by
    rw [List.all_cons, Bool.and_eq_true] at h
    rw [star_of h.1]
    have := star_all (pos := pos) (env := env) h.2
    simpa [backTo] using this
theorem few_of {e : Expr} {es : List Expr} {pos : Pos} {env : Env} (h : (e :: es).all plain = true) (hl : decide ((e :: es).length < 30) = true) : ((backTo pos (starEach (e :: es) env)).all (fun x => !x.1) && (backToKw pos (keywordEach [] env)).all (fun x => x.1.isSome)
      && decide ((e :: es).length + ([] : List Keyword).length + (if ([] : List Keyword).isEmpty then 0 else 1) < 30)) = true := by
  rw [star_all h]
  simpa [backToKw, keywordEach] using hl
def asgPlain : Expr → Bool := plain
theorem asg_each {e : Expr} (h : plain e = true) (es : List Expr) (env : Env) : assignEach (e :: es) env = (false, assign e env) :: assignEach es env := by
  cases e <;> first
    | rfl
    | cases h
/-- a list of things, each shared -/
def listM (f : Expr → M Res) : List Expr → M (List D)
  | [] => mNil
  | e :: es => if plain e then mCons (f e) (listM f es) else mBad
theorem dl_list {f : Expr → M Res} (h : ∀ e, DE X e (f e)) : ∀ es, DL X es (listM f es)
  | [] => dl_nil
  | e :: es => by
    unfold listM
    cases c : plain e with
    | false => exact dl_bad
    | true => exact dl_cons (h e) (dl_list h es) (star_of c es X.env)

/-! ### the world that the texts of a def see -/
structure Sig where
  ps : List Str
  ms : List Bool
  fn : Fn
  /-- the orders in which all of its parameters are given by name -/
  kws : List (List Str) := []
/-- what is given by names, in the parameters' order -/
def reord {α : Type} (ks : List Str) : List Str → List α → List α
  | [], _ => []
  | p :: ps, ws => match (ks.zip ws).lookup p with
    | some w => w :: reord ks ps ws
    | none => reord ks ps ws
def KwB (K : PySem.W.Frag) (fd : FuncData) (ps ks : List Str) : Prop := ∀ (s : Shared) (ws : List Value), K.In s.heap → ws.length = ks.length → BindsTo s fd ⟨[], ks.zip ws⟩ (ps.zip (reord ks ps ws))
structure Gam where
  N : List Str
  fs : List (Str × Sig)
  cs : List (Str × D)
/-- where we are: the def, or a block of a comprehension with its scope -/
structure V1 where
  sc : Scope
  blk : Option Scope
def okN (x : Str) : Bool := !(x == ("__debug__" : Str)) && !(x == ("__classdict__" : Str)) && !(x == ("__name__" : Str))
def visB (sc : Scope) (x : Str) : Bool := match sc.names.lookup x with
  | some .local => true
  | some .cell => true
  | some .free => true
  | _ => false
def glB (sc : Scope) (x : Str) : Bool := match sc.names.lookup x with
  | some .globalImplicit => true
  | _ => false
def locB (sc : Scope) (x : Str) : Bool := match sc.names.lookup x with
  | some .local => true
  | _ => false
/-- the name may be stored into -/
def stB (v : V1) (x : Str) : Bool := match v.sc.names.lookup x with
  | some .local => true
  | some .cell => match v.blk with
    | none => true
    | some s => match s.names.lookup x with
      | some .cell => true
      | _ => false
  | _ => false
def ixOf (N : List Str) (x : Str) : Option Nat := match N with
  | [] => none
  | y :: ys => if x == y then some 0 else (ixOf ys x).map (· + 1)
theorem ixOf_some : ∀ {N : List Str} {x : Str} {i : Nat}, ixOf N x = some i → N[i]? = some x
  | [], _, _, h => by simp [ixOf] at h
  | y :: ys, x, i, h => by
    unfold ixOf at h
    by_cases c : (x == y) = true
    · rw [if_pos c] at h; cases h; simp [eq_of_beq c]
    · rw [if_neg c] at h
      obtain ⟨j, hj, rfl⟩ := Option.map_eq_some_iff.mp h
      simpa using ixOf_some hj
def bltNames : List Str := ["len", "tuple", "list", "all", "any", "sum", "int", "sorted", "repr", "max", "min", "isinstance", "range", "set", "enumerate", "str", "bool", "dict"]
/-- a def that may be called -/
def FnAt (X : Cx) (f : Str) (g : Sig) : Prop := ∃ a fd k, X.mg f = some (.ref a) ∧ PySem.W.keepIn X.K (.ref a) = true ∧ FnG X.prog X.w X.K X.mg X.base k a fd g.ps (spD X.wd g.ms g.fn) ∧ Room k X.A ∧ Binds X.K fd g.ps [] ∧
  ∀ ks ∈ g.kws, KwB X.K fd g.ps ks
structure Gd (X : Cx) (Γ : Gam) (v : V1) : Prop where
  N : X.N = Γ.N
  nd : Γ.N.Nodup
  sc : X.env.scope = v.sc
  kd : v.sc.kind = .function
  calm : X.calm = true
  hu : X.A.units + 200 < cLine
  fs : ∀ f g, Γ.fs.lookup f = some g → FnAt X f g
  cs : ∀ x d, Γ.cs.lookup x = some d → ∃ w u, X.mg x = some u ∧ RelV w u ∧ ∀ G, Dq X.K G w d
  bl : ∀ x, x ∈ bltNames → X.mg x = none
  fn : X.fn = match v.blk with
    | none => fun _ => true
    | some s => fun x => s.names.lookup x == some .cell
  xe : X.xe = fun _ _ => False
  gd : X.A.guards = some []
theorem Gd.vis {Γ : Gam} {v : V1} (g : Gd X Γ v) {x : Str} (h : visB v.sc x = true) : Vis X.env.scope x := by
  rw [g.sc]
  unfold visB at h
  unfold Vis
  cases q : v.sc.names.lookup x with
  | none => rw [q] at h; cases h
  | some k => rw [q] at h; cases k <;> first | exact .inl rfl | exact .inr (.inl rfl) | exact .inr (.inr rfl) | cases h
theorem Gd.gl {Γ : Gam} {v : V1} (g : Gd X Γ v) {x : Str} (h : glB v.sc x = true) : Gl X x := by
  unfold Gl Env.kindOf
  rw [g.sc]
  unfold glB at h
  cases q : v.sc.names.lookup x with
  | none => rw [q] at h; cases h
  | some k => rw [q] at h; cases k <;> first | rfl | cases h
theorem Gd.st {Γ : Gam} {v : V1} (g : Gd X Γ v) {x : Str} (h : stB v x = true) : L2.Loc X.env.scope x ∧ (X.fn x = true ∨ X.env.scope.names.lookup x = some .local) := by
  rw [g.sc, g.fn]
  unfold stB at h
  unfold L2.Loc
  cases q : v.sc.names.lookup x with
  | none => rw [q] at h; cases h
  | some k =>
    rw [q] at h
    cases k with
    | «local» => exact ⟨.inl rfl, .inr rfl⟩
    | cell =>
      dsimp only at h
      cases w : v.blk with
      | none => exact ⟨.inr rfl, .inl rfl⟩
      | some s =>
        rw [w] at h
        dsimp only at h
        refine ⟨.inr rfl, .inl ?_⟩
        cases z : s.names.lookup x with
        | none => rw [z] at h; cases h
        | some k => rw [z] at h; cases k <;> first | (simp only [z]; rfl) | cases h
    | _ => cases h
theorem okN_of {x : Str} (h : okN x = true) : (x == ("__debug__" : Str)) = false ∧ (x == ("__classdict__" : Str)) = false ∧ x ≠ "__name__" := by
  unfold okN at h
  rw [Bool.and_eq_true, Bool.and_eq_true, Bool.not_eq_true', Bool.not_eq_true', Bool.not_eq_true'] at h
  exact ⟨h.1.1, h.1.2, fun e => by rw [e] at h; exact absurd h.2 (by decide)⟩

/-! ### names, constants -/
def cName (Γ : Gam) (v : V1) (x : Str) : M Res := if okN x then if visB v.sc x then match ixOf Γ.N x with
      | some i => mV i
      | none => mBad
    else if glB v.sc x then match Γ.cs.lookup x with
      | some d => mC d
      | none => mBad
    else mBad
  else mBad
theorem de_name {Γ : Gam} {v : V1} (g : Gd X Γ v) {x : Str} {pos : Pos} : DE X (.Name x pos) (cName Γ v x) := by
  unfold cName
  cases c : okN x with
  | false => exact de_bad
  | true =>
    obtain ⟨o1, o2, o3⟩ := okN_of c
    rw [if_pos rfl]
    cases c1 : visB v.sc x with
    | true =>
      rw [if_pos rfl]
      cases q : ixOf Γ.N x with
      | none => exact de_bad
      | some i => exact de_var (pe_var (by rw [g.N]; exact ixOf_some q) (g.vis c1) o1 o2)
    | false =>
      rw [if_neg (by decide)]
      cases c2 : glB v.sc x with
      | false => exact de_bad
      | true =>
        rw [if_pos rfl]
        cases q : Γ.cs.lookup x with
        | none => exact de_bad
        | some d =>
          obtain ⟨w, u, h1, h2, h3⟩ := g.cs x d q
          exact de_const (pe_glob (g.gl c2) h1 h2 o1) h3
def cConst : Const → M Res
  | .int i => mC (.int i)
  | .str x => mC (.str x)
  | .bool b => mC (.bool b)
  | .none => mC .none
  | _ => mBad
theorem de_cst {c : Const} {k : Nat} {pos : Pos} : DE X (.Constant c k pos) (cConst c) := by
  cases c with
  | int i => exact de_const pe_int fun _ => .int i
  | str x => exact de_const pe_str fun _ => .str x
  | bool b => exact de_const pe_bl fun _ => .bl b
  | none => exact de_const pe_non fun _ => .non
  | _ => exact de_bad

/-! ### operations by tables -/
def binT : Operator → Option (D → D → Option Rs)
  | .Add => some dAdd
  | .Sub => some dSub
  | .Mult => some dMul
  | .FloorDiv => some dFdiv
  | .Mod => some dMod
  | .Pow => some dPow
  | _ => none
theorem binT_ok {op : Operator} {f : D → D → Option Rs} (h : binT op = some f) : ∃ r, OpR X (binaryOp op) r ∧ OpG X.wd r f := by
  cases op <;> simp only [binT] at h <;> try cases h
  · exact ⟨_, op_add4, add4G⟩
  · exact ⟨_, op_sub, subG⟩
  · exact ⟨_, op_mul2, mul2G⟩
  · exact ⟨_, op_mod, modG⟩
  · exact ⟨_, op_pow, powG⟩
  · exact ⟨_, op_fdivW, fdivG⟩
def cmpT : CmpOp → Option (D → D → Option Rs)
  | .Eq => some dEq
  | .NotEq => some dNe
  | .Lt => some dLt
  | .LtE => some dLe
  | .Gt => some dGt
  | .GtE => some dGe
  | .In => some (orG dIn (dInM false))
  | .NotIn => some (orG dNotIn (dInM true))
  | .Is => some (orG (dIsB false) (dIsNo false))
  | .IsNot => some (orG (dIsB true) (dIsNo true))
theorem cmpT_ok (hu : X.A.units + 200 < cLine) {op : CmpOp} {f : D → D → Option Rs} (h : cmpT op = some f) : ∃ r, OpR X (compareOp op) r ∧ OpG X.wd r f := by
  cases op <;> simp only [cmpT] at h <;> try cases h
  · exact ⟨_, op_eq2 (by omega), eq2G⟩
  · exact ⟨_, op_ne2 (by omega), ne2G⟩
  · exact ⟨_, op_lt2, lt2G⟩
  · exact ⟨_, op_le, leG⟩
  · exact ⟨_, op_gt, gtG⟩
  · exact ⟨_, op_ge, geG⟩
  · exact ⟨_, op_isBl.or op_isN, OpG.or isBG isNoG⟩
  · exact ⟨_, op_notBl.or op_notN, OpG.or notBG notNoG⟩
  · exact ⟨_, (op_inX (by omega)).or (op_inM (by omega)), OpG.or inXG inMG⟩
  · exact ⟨_, (op_notInX (by omega)).or (op_notInM (by omega)), OpG.or notInXG inMG⟩
def dNeg : D → Option Rs
  | .int i => some (.val (.int (-i)))
  | _ => none
theorem negG {K : Fr} : UnG K (rU fun i => .int (-i)) dNeg := by
  intro x G H d rs Q s rx hd k
  cases d with
  | int i => cases hd; exact ⟨i, rp_int rx, k _ G H (Ext.refl s) val_int⟩
  | _ => cases hd
def dIxX : D → D → Option Rs := orG dIx dIxM
theorem ix_X (hu : X.A.units + 200 < cLine) : IxR X (fun x y H Q => rIx X.K x y H Q ∨ rIxM X.wd x y H Q) := ix_seq.or (ix_M (by omega))
theorem ixXG {K : Fr} : OpG K (fun x y H Q => rIx K.k x y H Q ∨ rIxM K x y H Q) dIxX := OpG.or ixG ixMG
def noSl : Expr → Bool
  | .Slice _ _ _ _ => false
  | _ => true
theorem noSl_of {b : Expr} (h : noSl b = true) : PlainIx b := by
  cases b <;> first
    | (intro _ _; rfl)
    | cases h
end Z
end

section
set_option Elab.async false
set_option linter.all false
set_option maxRecDepth 100000
set_option maxHeartbeats 2000000
/-! ZL: from a text to its meaning: expressions. -/
namespace Z
open PySem L2
variable {X : Cx}

structure Cmp where
  E : V1 → Expr → M Res
  T : V1 → Expr → M Bool
  G : V1 → Expr → List Nat × (D → Rho → Option Rho)
  S : V1 → Stmt → SM
def Cmp.bad : Cmp := ⟨fun _ _ => mBad, fun _ _ => mBad, fun _ _ => ([], fun _ _ => none), fun _ _ => sBad⟩
structure Snd (Γ : Gam) (c : Cmp) : Prop where
  E : ∀ (X : Cx) v, Gd X Γ v → ∀ e, DE X e (c.E v e)
  T : ∀ (X : Cx) v, Gd X Γ v → ∀ e, DT X e (c.T v e)
  G : ∀ (X : Cx) v, Gd X Γ v → ∀ e, DG X e (c.G v e).1 (c.G v e).2
  S : ∀ (X : Cx) v, Gd X Γ v → ∀ s, DS X s (c.S v s)
theorem Snd.bad (Γ : Gam) : Snd Γ Cmp.bad := ⟨fun _ _ _ _ => de_bad, fun _ _ _ _ => dt_bad, fun _ _ _ _ => dg_bad, fun _ _ _ _ => ds_bad⟩

/-! ### and, or -/
def boolE (f : Expr → M Res) (op : BoolOp) : List Expr → M Res
  | [] => mBad
  | [a] => f a
  | a :: b :: r => match op with
    | .And => mAndV (f a) (boolE f op (b :: r))
    | .Or => mOrV (f a) (boolE f op (b :: r))
theorem de_boolE {f : Expr → M Res} {op : BoolOp} {pos : Pos} (h : ∀ e, DE X e (f e)) : ∀ es, DE X (.BoolOp op es pos) (boolE f op es)
  | [] => de_bad
  | [a] => pe_one (h a)
  | a :: b :: r => by
    cases op with
    | And => exact (pe_and (h a) (de_boolE h (b :: r))).imp tAndV_of
    | Or => exact (pe_or (h a) (de_boolE h (b :: r))).imp tOrV_of
def boolT (f : Expr → M Bool) (op : BoolOp) : List Expr → M Bool
  | [] => mBad
  | [a] => f a
  | a :: b :: r => match op with
    | .And => mAndT (f a) (boolT f op (b :: r))
    | .Or => mOrT (f a) (boolT f op (b :: r))
theorem _root_.L2.PW.imp' {X : Cx} {e : Expr} {t t' : TT} (h : PW X e t) (i : ∀ σ H Q, t' σ H Q → t σ H Q) : PW X e t' := ⟨fun wh pins s σ H Q I q => h.run wh pins s σ H Q I (i σ H Q q)⟩
theorem dw_bool {f : Expr → M Bool} {op : BoolOp} {pos : Pos} (h : ∀ e, DT X e (f e)) : ∀ es, PW X (.BoolOp op es pos) (tT X.wd (boolT f op es))
  | [] => ⟨fun wh pins s σ H Q I ⟨C, ρ, G, r, ρ', S, e, k⟩ => by cases e⟩
  | [a] => by
    cases op with
    | And => exact pw_and1 (h a)
    | Or => exact pw_or1 (h a)
  | a :: b :: r => by
    cases op with
    | And => exact (pw_and (h a) (dw_bool h (b :: r))).imp' tAnd_of
    | Or => exact (pw_or (h a) (dw_bool h (b :: r))).imp' tOr_of

/-! ### arguments as a def wants them -/
def argMs (Γ : Gam) (v : V1) (f : Expr → M Res) : List Bool → List Expr → Option (List ArgM)
  | [], [] => some []
  | false :: ms, e :: es => if plain e then match argMs Γ v f ms es with
      | some as => some (.val (f e) :: as)
      | none => none
    else none
  | true :: ms, e :: es => match e with
    | .Name x _ => if okN x && visB v.sc x then match ixOf Γ.N x, argMs Γ v f ms es with
        | some i, some as => some (.chg i :: as)
        | _, _ => none
      else none
    | _ => none
  | _, _ => none
theorem pa_args {Γ : Gam} {v : V1} (g : Gd X Γ v) {f : Expr → M Res} (h : ∀ e, DE X e (f e)) : ∀ {ms : List Bool} {es : List Expr} {as : List ArgM}, argMs Γ v f ms es = some as → PA X es (tAr X.wd (mArgs as)) ∧ es.all plain = true ∧ es.length = ms.length
  | [], [], as, e => by
    simp only [argMs] at e; cases e
    exact ⟨pa_nil.imp arNil_of, rfl, rfl⟩
  | [], _ :: _, as, e => by simp [argMs] at e
  | _ :: _, [], as, e => by rename_i b _; cases b <;> simp [argMs] at e
  | false :: ms, x :: es, as, e => by
    unfold argMs at e
    obtain ⟨c, e⟩ := if_some e
    cases q : argMs Γ v f ms es with
    | none => rw [q] at e; cases e
    | some as' =>
      rw [q] at e; cases e
      obtain ⟨i1, i2, i3⟩ := pa_args g h q
      exact ⟨(pa_cons (h x) i1 (star_of c es X.env)).imp arVal_of, by rw [List.all_cons, c, i2]; rfl, by simp [i3]⟩
  | true :: ms, x :: es, as, e => by
    unfold argMs at e
    cases x with
    | Name y pos =>
      dsimp only at e
      obtain ⟨c, e⟩ := if_some e
      rw [Bool.and_eq_true] at c
      obtain ⟨o1, o2, o3⟩ := okN_of c.1
      cases q1 : ixOf Γ.N y with
      | none => rw [q1] at e; cases e
      | some i =>
        cases q : argMs Γ v f ms es with
        | none => rw [q1, q] at e; cases e
        | some as' =>
          rw [q1, q] at e; cases e
          obtain ⟨i1, i2, i3⟩ := pa_args g h q
          exact ⟨(pa_cons (pe_var (by rw [g.N]; exact ixOf_some q1) (g.vis c.2) o1 o2) i1 (star_of rfl es X.env)).imp arMut_of, by rw [List.all_cons, i2]; rfl, by simp [i3]⟩
    | _ => cases e
theorem _root_.L2.PA.imp' {X : Cx} {e : List Expr} {t t' : TA} (h : PA X e t) (i : ∀ σ H Q, t' σ H Q → t σ H Q) : PA X e t' := ⟨fun ps pins s σ H Q I q => h.run ps pins s σ H Q I (i σ H Q q)⟩
/-- f(e, ..), f a def -/
def callF (Γ : Gam) (v : V1) (f : Expr → M Res) (g : Sig) (es : List Expr) : M Res := match argMs Γ v f g.ms es with
  | some as => if decide (g.ms.length = g.ps.length) then mCall g.ms g.fn (mArgs as) else mBad
  | none => mBad
theorem de_callF {Γ : Gam} {v : V1} (g : Gd X Γ v) {f : Expr → M Res} (h : ∀ e, DE X e (f e)) {x : Str} {sg : Sig} (hs : FnAt X x sg) (hx : glB v.sc x = true) (ho : okN x = true) {es : List Expr} {p pos : Pos} : DE X (.Call (.Name x p) es [] pos) (callF Γ v f sg es) := by
  unfold callF
  cases q : argMs Γ v f sg.ms es with
  | none => exact de_bad
  | some as =>
    dsimp only
    cases c : decide (sg.ms.length = sg.ps.length) with
    | false => exact de_bad
    | true =>
      rw [if_pos rfl]
      obtain ⟨i1, i2, i3⟩ := pa_args g h q
      obtain ⟨a, fd, k, h1, h2, F, hr, hb, _⟩ := hs
      obtain ⟨o1, o2, o3⟩ := okN_of ho
      cases es with
      | nil => 
        have e : as = [] := by
          cases hm : sg.ms with
          | nil => rw [hm] at q; simp only [argMs] at q; cases q; rfl
          | cons b ms => rw [hm] at i3; simp at i3
        subst e
        exact (pe_callG0 (E := E0) g.gd F hr (g.gl hx) h1 h2 hb o1).imp (fun σ H Q z => arNil_of σ H _ (call_of σ H Q z))
      | cons e es =>
        rw [List.all_cons, Bool.and_eq_true] at i2
        exact (pe_callG (E := E0) g.gd F hr (g.gl hx) h1 h2 hb i1 o1 (star_of i2.1 es X.env) (star_any i2.2)).imp call_of

/-! ### f(x=e, ..): all parameters by name -/
theorem lookup_zip {R : V → Value → Prop} : ∀ {ks : List Str} {vs : List V} {us : List Value}, Paired R vs us → ∀ p, (((ks.zip vs).lookup p = none ∧ (ks.zip us).lookup p = none) ∨ ∃ v u, (ks.zip vs).lookup p = some v ∧ (ks.zip us).lookup p = some u ∧ R v u)
  | [], _, _, _, p => .inl ⟨rfl, rfl⟩
  | _ :: _, _, _, .nil, p => .inl ⟨rfl, rfl⟩
  | k :: ks, _, _, .cons r rs, p => by
    simp only [List.zip_cons_cons, List.lookup_cons]
    cases (p == k) with
    | true => exact .inr ⟨_, _, rfl, rfl, r⟩
    | false => exact lookup_zip rs p
theorem lookup_zipD {K : Fr} {G : Hp} : ∀ {ks : List Str} {vs : List V} {us : List D}, RpAll K G vs us → ∀ p, (((ks.zip vs).lookup p = none ∧ (ks.zip us).lookup p = none) ∨ ∃ v u, (ks.zip vs).lookup p = some v ∧ (ks.zip us).lookup p = some u ∧ Rp K G v u)
  | [], _, _, _, p => .inl ⟨rfl, rfl⟩
  | _ :: _, _, _, .nil, p => .inl ⟨rfl, rfl⟩
  | k :: ks, _, _, .cons r rs, p => by
    simp only [List.zip_cons_cons, List.lookup_cons]
    cases (p == k) with
    | true => exact .inr ⟨_, _, rfl, rfl, r⟩
    | false => exact lookup_zipD rs p
theorem reord_vals {ks : List Str} {vs : List V} {us : List Value} (h : Vals vs us) : ∀ ps, Vals (reord ks ps vs) (reord ks ps us)
  | [] => .nil
  | p :: ps => by
    rcases lookup_zip (ks := ks) h p with ⟨a, b⟩ | ⟨v, u, a, b, r⟩
    · simp only [reord, a, b]; exact reord_vals h ps
    · simp only [reord, a, b]; exact .cons r (reord_vals h ps)
theorem reord_rps {K : Fr} {G : Hp} {ks : List Str} {vs : List V} {us : List D} (h : RpAll K G vs us) : ∀ ps, RpAll K G (reord ks ps vs) (reord ks ps us)
  | [] => .nil
  | p :: ps => by
    rcases lookup_zipD (ks := ks) h p with ⟨a, b⟩ | ⟨v, u, a, b, r⟩
    · simp only [reord, a, b]; exact reord_rps h ps
    · simp only [reord, a, b]; exact .cons r (reord_rps h ps)
def kwL (f : Expr → M Res) : List Keyword → M (List D)
  | [] => mNil
  | ⟨_, e, _⟩ :: kws => mCons (f e) (kwL f kws)
def kwNames : List Keyword → Option (List Str)
  | [] => some []
  | ⟨some n, _, _⟩ :: kws => match kwNames kws with
    | some ns => some (n :: ns)
    | none => none
  | ⟨none, _, _⟩ :: _ => none
theorem _root_.L2.PK.imp {X : Cx} {e : List Keyword} {t t' : TA} (h : PK X e t) (i : ∀ σ H Q, t' σ H Q → t σ H Q) : PK X e t' := ⟨fun ps pins s σ H Q I q => h.run ps pins s σ H Q I (i σ H Q q)⟩
theorem pk_kws {f : Expr → M Res} (h : ∀ e, DE X e (f e)) : ∀ kws, PK X kws (tL X.wd (kwL f kws))
  | [] => pk_nil.imp fun σ H Q ⟨C, ρ, G, ds, ρ', S, e, k⟩ => by
    cases e
    exact k [] G H S (Same.refl G) .nil
  | ⟨n, e, p⟩ :: kws => (pk_cons (h e) (pk_kws h kws)).imp tCons_of
theorem kw_facts : ∀ {kws : List Keyword} {ks : List Str} {pos : Pos} {env : Env}, kwNames kws = some ks → (backToKw pos (keywordEach kws env)).all (·.1.isSome) = true ∧ (backToKw pos (keywordEach kws env)).filterMap (·.1) = ks ∧ (backToKw pos (keywordEach kws env)).any (·.1.isNone) = false
  | [], ks, _, _, h => by simp only [kwNames] at h; cases h; exact ⟨rfl, rfl, rfl⟩
  | ⟨none, _, _⟩ :: _, ks, _, _, h => by simp [kwNames] at h
  | ⟨some n, e, p⟩ :: kws, ks, pos, env, h => by
    unfold kwNames at h
    cases q : kwNames kws with
    | none => rw [q] at h; cases h
    | some ns =>
      rw [q] at h; cases h
      obtain ⟨a, b, c⟩ := kw_facts (pos := pos) (env := env) q
      refine ⟨?_, ?_, ?_⟩
      · simpa [backToKw, keywordEach] using a
      · simpa [backToKw, keywordEach] using b
      · simpa [backToKw, keywordEach] using c
def tCallK0 (sp : Sp) (ks ps : List Str) (E : XK) (tk : TA) : TE := fun σ H Q => tk σ H fun zs H1 => zs.length = ks.length ∧ sp (reord ks ps zs) H1 Q E
theorem pe_callK0 {k : Nat} {f : Addr} {fd : FuncData} {ps ks : List Str} {sp : Sp} {E : XK} {x : Str} {p pos : Pos} {kws : List Keyword} {tk : TA} (g : X.A.guards = some []) (F : FnG X.prog X.w X.K X.mg X.base k f fd ps sp) (hr : Room k X.A) (hg : Gl X x) (hm : X.mg x = some (.ref f)) (hk : PySem.W.keepIn X.K (.ref f) = true) (hb : KwB X.K fd ps ks)
    (hkw : PK X kws tk) (hn : kwNames kws = some ks) (hdb : (x == ("__debug__" : Str)) = false) : PE X (.Call (.Name x p) [] kws pos) (tCallK0 sp ks ps E tk) := by
  refine ⟨fun pins s σ H Q I h => PySem.wpAny_Call_Name_kw (ld_glob I hg hm ?_ hdb)⟩
  obtain ⟨a, b, c⟩ := kw_facts (pos := pos) (env := X.env) hn
  refine PySem.W.callWith_KW0 (h₀ := X.base) I.ok.mod.kin hk a (thn (hkw.run pos pins s σ H _ I h) fun ws s1 ⟨zs, H1, I1, rz, hl, q⟩ => ⟨I1.kIn, ?_⟩) (by rw [c]; rfl)
  rw [b]
  have hw : ws.length = ks.length := rz.length.symm.trans hl
  apply wpAny_call
  apply codeAny_mono (run_g (E := E) g F hr I1 (hb s1 ws I1.kIn hw) (reord_vals rz ps) q)
  rintro z s' ⟨u, rfl, q⟩
  exact q
def mCallK (g : Sig) (ks : List Str) (ms : M (List D)) : M Res := bnd ms fun ds ρ => if decide (ds.length = ks.length) && decide (g.ms = List.replicate (reord ks g.ps ds).length false) then match g.fn (reord ks g.ps ds) with
    | some (r, []) => some (r.res, ρ)
    | _ => none
  else none
theorem args_val {K : Fr} {G H : Hp} : ∀ {vs : List V} {ds : List D}, RpAll K G vs ds → ArgsOk K G H (List.replicate ds.length false) vs ds ∧ muts (List.replicate ds.length false) vs = []
  | _, _, .nil => ⟨.nil, rfl⟩
  | v :: _, _ :: _, .cons h hs => by
    obtain ⟨a, b⟩ := args_val (H := H) hs
    refine ⟨.val h a, ?_⟩
    show muts (false :: _) (v :: _) = []
    cases v <;> exact b
theorem callK_of {K : Fr} {g : Sig} {ks : List Str} {ms : M (List D)} : ∀ σ H Q, tE K (mCallK g ks ms) σ H Q → tCallK0 (spD K g.ms g.fn) ks g.ps E0 (tL K ms) σ H Q := by
  rintro σ H Q ⟨C, ρ, G, rr, ρ', S, e, k⟩
  obtain ⟨ds, ρ1, e1, e⟩ := bnd_some e
  obtain ⟨c, e⟩ := if_some e
  rw [Bool.and_eq_true, decide_eq_true_eq, decide_eq_true_eq] at c
  obtain ⟨c1, c2⟩ := c
  refine ⟨C, ρ, G, ds, ρ1, S, e1, fun vs G1 H1 S1 g1 rp => ⟨by rw [paired_len rp]; exact c1, ?_⟩⟩
  cases q : g.fn (reord ks g.ps ds) with
  | none => rw [q] at e; cases e
  | some p =>
    obtain ⟨r, news⟩ := p
    rw [q] at e
    cases news with
    | cons _ _ => cases e
    | nil =>
      cases e
      obtain ⟨a, b⟩ := args_val (H := H1) (reord_rps (ks := ks) rp g.ps)
      rw [← c2] at a b
      refine ⟨G1, _, r, [], S1.fm.gh, a, q, fun v G' H' x ok _ => ?_⟩
      rw [b] at x
      have xe : Ext G1 H1 G' H' := ⟨x.g, x.gh, fun b o e => x.keep b o e (by simp), x.new⟩
      exact k v G' H' (S1.ext xe) (g1.trans x.g) (rok_of_rs S1 xe ok)
def callKw (Γ : Gam) (v : V1) (f : Expr → M Res) (x : Str) (kws : List Keyword) : M Res := if glB v.sc x && okN x then match Γ.fs.lookup x, kwNames kws with
    | some g, some ks => if decide (ks ∈ g.kws) then mCallK g ks (kwL f kws) else mBad
    | _, _ => mBad
  else mBad
theorem de_callKw {Γ : Gam} {v : V1} (g : Gd X Γ v) {f : Expr → M Res} (h : ∀ e, DE X e (f e)) {x : Str} {kws : List Keyword} {p pos : Pos} : DE X (.Call (.Name x p) [] kws pos) (callKw Γ v f x kws) := by
  unfold callKw
  cases q : glB v.sc x && okN x with
  | false => exact de_bad
  | true =>
    rw [if_pos rfl]
    rw [Bool.and_eq_true] at q
    cases w : Γ.fs.lookup x with
    | none => exact de_bad
    | some sg =>
      cases u : kwNames kws with
      | none => exact de_bad
      | some ks =>
        dsimp only
        cases c : decide (ks ∈ sg.kws) with
        | false => exact de_bad
        | true =>
          rw [decide_eq_true_eq] at c
          obtain ⟨a, fd, k, h1, h2, F, hr, hb, hk⟩ := g.fs x sg w
          exact (pe_callK0 (E := E0) g.gd F hr (g.gl q.1) h1 h2 (hk ks c) (pk_kws h kws) u (okN_of q.2).1).imp callK_of

/-! ### built-in functions of one argument -/
def blt1 (x : Str) : Option (D → Option Rs) :=
  if x == "len" then some dLen else if x == "tuple" then some dTuple else if x == "list" then some dList else if x == "all" then some dAll else if x == "any" then some dAny else
  if x == "sum" then some dSum else if x == "int" then some dInt1 else if x == "sorted" then some dSorted else if x == "repr" then some dRepr else if x == "max" then some dMax1 else if x == "min" then some dMin1 else none
theorem de_blt1 {Γ : Gam} {v : V1} (g : Gd X Γ v) {x : Str} {f : D → Option Rs} (h : blt1 x = some f) (hx : glB v.sc x = true) {e : Expr} {m : M Res} (he : DE X e m) (pl : plain e = true) {p pos : Pos} : DE X (.Call (.Name x p) [e] [] pos) (mUn f m) := by
  have hu := g.hu
  have hc := g.calm
  have pa : PA X [e] (tCons (tE X.wd m) tNil) := pa_cons he pa_nil (star_of pl [] X.env)
  have st := star_of pl [] X.env
  unfold blt1 at h
  by_cases c : (x == "len") = true
  · rw [if_pos c] at h; cases h; have e := eq_of_beq c; subst e
    exact (pe_callB cr_len (g.gl hx) (g.bl _ (by decide)) PySem.boot_len pa (by decide) (by decide) st rfl).imp (cb1_of lenG)
  rw [if_neg c] at h; clear c
  by_cases c : (x == "tuple") = true
  · rw [if_pos c] at h; cases h; have e := eq_of_beq c; subst e
    exact (pe_callTy cr_tuple (g.gl hx) (g.bl _ (by decide)) PyProof.Rows.boot_tuple pa (by decide) (by decide) st rfl).imp (cb1_of tupleG)
  rw [if_neg c] at h; clear c
  by_cases c : (x == "list") = true
  · rw [if_pos c] at h; cases h; have e := eq_of_beq c; subst e
    exact (pe_callTy cr_list (g.gl hx) (g.bl _ (by decide)) PyProof.Rows.boot_list pa (by decide) (by decide) st rfl).imp (cb1_of listG)
  rw [if_neg c] at h; clear c
  by_cases c : (x == "all") = true
  · rw [if_pos c] at h; cases h; have e := eq_of_beq c; subst e
    exact (pe_callB (cr_all1 hc) (g.gl hx) (g.bl _ (by decide)) PyProof.Rows.boot_all pa (by decide) (by decide) st rfl).imp (cb1_of allG)
  rw [if_neg c] at h; clear c
  by_cases c : (x == "any") = true
  · rw [if_pos c] at h; cases h; have e := eq_of_beq c; subst e
    exact (pe_callB (cr_any1 hc) (g.gl hx) (g.bl _ (by decide)) PyProof.Rows.boot_any pa (by decide) (by decide) st rfl).imp (cb1_of anyG)
  rw [if_neg c] at h; clear c
  by_cases c : (x == "sum") = true
  · rw [if_pos c] at h; cases h; have e := eq_of_beq c; subst e
    exact (pe_callB (cr_sum1 hc) (g.gl hx) (g.bl _ (by decide)) PyProof.Rows.boot_sum pa (by decide) (by decide) st rfl).imp (cb1_of sumG)
  rw [if_neg c] at h; clear c
  by_cases c : (x == "int") = true
  · rw [if_pos c] at h; cases h; have e := eq_of_beq c; subst e
    exact (pe_callTy cr_int1 (g.gl hx) (g.bl _ (by decide)) PyProof.Rows.boot_int pa (by decide) (by decide) st rfl).imp (cb1_of int1G)
  rw [if_neg c] at h; clear c
  by_cases c : (x == "sorted") = true
  · rw [if_pos c] at h; cases h; have e := eq_of_beq c; subst e
    exact (pe_callB (cr_sorted (by omega)) (g.gl hx) (g.bl _ (by decide)) PyProof.Rows.boot_sorted pa (by decide) (by decide) st rfl).imp (cb1_of sortedG)
  rw [if_neg c] at h; clear c
  by_cases c : (x == "repr") = true
  · rw [if_pos c] at h; cases h; have e := eq_of_beq c; subst e
    exact (pe_callB (cr_repr1 g.gd g.hu) (g.gl hx) (g.bl _ (by decide)) PyProof.Rows.boot_repr pa (by decide) (by decide) st rfl).imp (cb1_of reprG)
  rw [if_neg c] at h; clear c
  by_cases c : (x == "max") = true
  · rw [if_pos c] at h; cases h; have e := eq_of_beq c; subst e
    exact (pe_callB (cr_max1 hc) (g.gl hx) (g.bl _ (by decide)) PyProof.Rows.boot_max pa (by decide) (by decide) st rfl).imp (cb1_of maxG)
  rw [if_neg c] at h; clear c
  by_cases c : (x == "min") = true
  · rw [if_pos c] at h; cases h; have e := eq_of_beq c; subst e
    exact (pe_callB (cr_min1 hc) (g.gl hx) (g.bl _ (by decide)) PyProof.Rows.boot_min pa (by decide) (by decide) st rfl).imp (cb1_of minG)
  rw [if_neg c] at h
  cases h
/-- of two -/
def blt2 (x : Str) : Option (List D → Option Rs) := if x == "max" then some (dII2 fMax) else if x == "min" then some (dII2 fMin) else none
theorem de_blt2 {Γ : Gam} {v : V1} (g : Gd X Γ v) {x : Str} {f : List D → Option Rs} (h : blt2 x = some f) (hx : glB v.sc x = true) {a b : Expr} {ms : M (List D)} (hl : DL X [a, b] ms) (pa : plain a = true) (pb : plain b = true) {p pos : Pos} : DE X (.Call (.Name x p) [a, b] [] pos) (mCBs f ms) := by
  have st := star_of pa [b] X.env
  have sa : (backTo pos (starEach [b] X.env)).any (·.1) = false := star_any (by simp [pb])
  unfold blt2 at h
  by_cases c : (x == "max") = true
  · rw [if_pos c] at h; cases h; have e := eq_of_beq c; subst e
    exact (pe_callB (cr_max2 g.calm) (g.gl hx) (g.bl _ (by decide)) PyProof.Rows.boot_max hl (by decide) (by decide) st sa).imp (cbs_of ii2G)
  rw [if_neg c] at h; clear c
  by_cases c : (x == "min") = true
  · rw [if_pos c] at h; cases h; have e := eq_of_beq c; subst e
    exact (pe_callB (cr_min2 g.calm) (g.gl hx) (g.bl _ (by decide)) PyProof.Rows.boot_min hl (by decide) (by decide) st sa).imp (cbs_of ii2G)
  rw [if_neg c] at h
  cases h
/-- isinstance(e, T) -/
def tyOf (x : Str) : Option String := if x == "tuple" then some "tuple" else if x == "str" then some "str" else if x == "int" then some "int" else if x == "bool" then some "bool" else if x == "list" then some "list" else none
theorem tyOf_ok {x : Str} {T : String} (h : tyOf x = some T) : bootBuiltins x = some (.type T) ∧ x ∈ bltNames ∧ x ≠ "__name__" ∧ (x == ("__debug__" : Str)) = false := by
  unfold tyOf at h
  by_cases c : (x == "tuple") = true
  · rw [if_pos c] at h; cases h; have e := eq_of_beq c; subst e; exact ⟨PyProof.Rows.boot_tuple, by decide, by decide, by decide⟩
  rw [if_neg c] at h; clear c
  by_cases c : (x == "str") = true
  · rw [if_pos c] at h; cases h; have e := eq_of_beq c; subst e; exact ⟨PyProof.Rows.boot_str, by decide, by decide, by decide⟩
  rw [if_neg c] at h; clear c
  by_cases c : (x == "int") = true
  · rw [if_pos c] at h; cases h; have e := eq_of_beq c; subst e; exact ⟨PyProof.Rows.boot_int, by decide, by decide, by decide⟩
  rw [if_neg c] at h; clear c
  by_cases c : (x == "bool") = true
  · rw [if_pos c] at h; cases h; have e := eq_of_beq c; subst e; exact ⟨PyProof.Rows.boot_bool, by decide, by decide, by decide⟩
  rw [if_neg c] at h; clear c
  by_cases c : (x == "list") = true
  · rw [if_pos c] at h; cases h; have e := eq_of_beq c; subst e; exact ⟨PyProof.Rows.boot_list, by decide, by decide, by decide⟩
  rw [if_neg c] at h
  cases h
theorem de_isi {Γ : Gam} {v : V1} (g : Gd X Γ v) {T : Str} {t : String} (h : tyOf T = some t) (hx : glB v.sc "isinstance" = true) (hT : glB v.sc T = true) {e : Expr} {m : M Res} (he : DE X e m) (pl : plain e = true) {p p2 pos : Pos} : DE X (.Call (.Name "isinstance" p) [e, .Name T p2] [] pos) (mUn (dIsi t) m) := by
  obtain ⟨t1, t2, t3, t4⟩ := tyOf_ok h
  exact (pe_callB call_isi (g.gl hx) (g.bl _ (by decide)) PyProof.Rows.boot_isinstance (pa_cons he (pa_cons (pe_bltn (v := .ty t) (g.gl hT) (g.bl _ t2) t1 rfl t3 t4) pa_nil (star_of rfl [] X.env)) (star_of pl _ X.env)) (by decide) (by decide) (star_of pl _ X.env) (star_any rfl)).imp isi_of
end Z
end

section
set_option Elab.async false
set_option linter.all false
set_option maxRecDepth 100000
set_option maxHeartbeats 2000000
/-! ZM: from a text to its meaning: the step. -/
namespace Z
open PySem L2
variable {X : Cx}

/-! ### blocks -/
def ownOf (N : List Str) (names : List (Str × NameKind)) : List (Str × Nat) := names.filterMap fun y => match y.2 with
  | .local => (ixOf N y.1).map fun i => (y.1, i)
  | .cell => (ixOf N y.1).map fun i => (y.1, i)
  | _ => none
def blkB (sc scope : Scope) : Bool := decide (scope.kind = .function) && (scope.names.all fun y => decide (scope.names.lookup y.1 = some y.2)) && scope.names.all fun y => match y.2 with
  | .free => match sc.names.lookup y.1 with
    | some .cell => true
    | some .free => true
    | _ => false
  | _ => true
theorem ixOf_none : ∀ {N : List Str} {x : Str}, ixOf N x = none → x ∉ N
  | [], _, _ => by simp
  | y :: ys, x, h => by
    unfold ixOf at h
    by_cases c : (x == y) = true
    · rw [if_pos c] at h; cases h
    · rw [if_neg c, Option.map_eq_none_iff] at h
      simp only [List.mem_cons, not_or]
      exact ⟨fun e => c (by simp [e]), ixOf_none h⟩
theorem blk_ok {N : List Str} {sc scope : Scope} (h : blkB sc scope = true) : BlkOk N sc scope (ownOf N scope.names) := by
  unfold blkB at h
  rw [Bool.and_eq_true, Bool.and_eq_true, decide_eq_true_eq] at h
  obtain ⟨⟨h1, h2⟩, h3⟩ := h
  refine ⟨h1, fun y hy => of_decide_eq_true (List.all_eq_true.mp h2 y hy), fun p hp => ?_, fun y hy e => ?_, fun y hy e => ?_⟩
  · obtain ⟨y, _, hy⟩ := List.mem_filterMap.mp hp
    have key : (ixOf N y.1).map (fun i => (y.1, i)) = some p := by
      split at hy
      · exact hy
      · exact hy
      · cases hy
    obtain ⟨i, hi, rfl⟩ := Option.map_eq_some_iff.mp key
    exact ixOf_some hi
  · have q := List.all_eq_true.mp h3 y hy
    rw [e] at q
    dsimp only at q
    cases w : sc.names.lookup y.1 with
    | none => rw [w] at q; cases q
    | some k => rw [w] at q; cases k <;> first | exact .inl rfl | exact .inr rfl | cases q
  · cases w : ixOf N y.1 with
    | none => exact .inr (ixOf_none w)
    | some i =>
      refine .inl (List.mem_map.mpr ⟨(y.1, i), List.mem_filterMap.mpr ⟨y, hy, ?_⟩, rfl⟩)
      rcases e with e | e <;> (rw [e]; dsimp only; rw [w]; rfl)
def V1.inn (v : V1) (scope : Scope) : V1 := ⟨relS scope v.sc, some scope⟩
theorem Gd.inn {Γ : Gam} {v : V1} (g : Gd X Γ v) {scope : Scope} (h : blkB v.sc scope = true) (s : Shared) (H : Hp) (C : Addr) (cl : List (Str × Addr)) (fp : List Addr) : Gd (X.blk s H scope (compEnvC scope cl C X.env) fp) Γ (v.inn scope) :=
  ⟨g.N, g.nd, by show relS scope X.env.scope = relS scope v.sc; rw [g.sc], by
    unfold blkB at h
    rw [Bool.and_eq_true, Bool.and_eq_true, decide_eq_true_eq] at h
    exact h.1.1, g.calm, g.hu, g.fs, g.cs, g.bl, rfl, rfl, g.gd⟩

/-! ### what is walked -/
def iterM (Γ : Gam) (f : Expr → M Res) (v : V1) (tg : Expr) (e : Expr) : M (List D) := match e with
  | .Call (.Name x _) [a] [] _ => if x == "range" then if glB v.sc x && plain a then mRange1 (listM f [a]) else mBad
    else if x == "enumerate" then match tg with
      | .Tuple _ _ _ => if glB v.sc x && plain a then mEnum (listM f [a]) else mBad
      | _ => mBad
    else mItems (f e)
  | .Call (.Name x _) [a, b] [] _ => if x == "range" then if glB v.sc x && plain a && plain b then mRange2 (listM f [a, b]) else mBad else mItems (f e)
  | _ => mItems (f e)
theorem di_iter {Γ : Gam} {v : V1} (g : Gd X Γ v) {f : Expr → M Res} (h : ∀ e, DE X e (f e)) {tg : Expr} (e : Expr) : DI X tg e (iterM Γ f v tg e) := by
  unfold iterM
  split
  · rename_i x p a q
    by_cases c : (x == "range") = true
    · rw [if_pos c]
      have e := eq_of_beq c; subst e
      cases c2 : glB v.sc "range" && plain a with
      | false => exact di_bad
      | true =>
        rw [if_pos rfl]
        rw [Bool.and_eq_true] at c2
        exact (pi_range1 (g.gl c2.1) (g.bl _ (by decide)) (dl_list h [a]) (by rw [star_of c2.2]; rfl)).imp range1_of
    · rw [if_neg c]
      by_cases c1 : (x == "enumerate") = true
      · rw [if_pos c1]
        have e := eq_of_beq c1; subst e
        split
        · cases c2 : glB v.sc "enumerate" && plain a with
          | false => exact di_bad
          | true =>
            rw [if_pos rfl]
            rw [Bool.and_eq_true] at c2
            exact (pi_enumA (g.gl c2.1) (g.bl _ (by decide)) (dl_list h [a]) (by rw [star_of c2.2]; rfl)).imp enum_of
        · exact di_bad
      · rw [if_neg c1]; exact di_seq (h _)
  · rename_i x p a b q
    by_cases c : (x == "range") = true
    · rw [if_pos c]
      have e := eq_of_beq c; subst e
      cases c2 : glB v.sc "range" && plain a && plain b with
      | false => exact di_bad
      | true =>
        rw [if_pos rfl]
        rw [Bool.and_eq_true, Bool.and_eq_true] at c2
        exact (pi_range2 (g.gl c2.1.1) (g.bl _ (by decide)) (dl_list h [a, b]) (by rw [star_of c2.1.2, star_of c2.2]; rfl) (by rw [star_of c2.2]; rfl)).imp range2_of
    · rw [if_neg c]; exact di_seq (h _)
  · exact di_seq (h _)
def noSet : Expr → Bool
  | .Set _ _ _ => false
  | _ => true
theorem noSet_of {e : Expr} (h : noSet e = true) (env : Env) : ∀ x, foldedSetIterable e env x = pure x := by
  cases e <;> first
    | (intro x; rfl)
    | cases h
/-- the tests of a comprehension: none, or one -/
def testsM (f : Expr → M Bool) : List Expr → M Bool
  | [] => fun ρ => some (true, ρ)
  | [c] => f c
  | _ => mBad
theorem pts_of {f : Expr → M Bool} (h : ∀ e, DT X e (f e)) : ∀ es, PTs X es (tT X.wd (testsM f es))
  | [] => ⟨fun pins s σ H Q I ⟨C, ρ, G, b, ρ', S, e, k⟩ => by
      cases e
      exact pts_nil.run pins s σ H Q I (k G H S (Same.refl G))⟩
  | [c] => pts_one (h c)
  | _ :: _ :: _ => ⟨fun pins s σ H Q I ⟨C, ρ, G, b, ρ', S, e, k⟩ => by cases e⟩
def subIx (js vs : List Nat) : Bool := js.all fun j => decide (j ∈ vs)
theorem subIx_of {js vs : List Nat} (h : subIx js vs = true) : ∀ j ∈ js, j ∈ vs := fun j hj => of_decide_eq_true (List.all_eq_true.mp h j hj)
/-- the slot that is walked -/
def hidOf (Γ : Gam) (v : V1) : Expr → Option Nat
  | .Name x _ => if okN x && visB v.sc x then ixOf Γ.N x else none
  | _ => none
theorem di_iterH {Γ : Gam} {v : V1} (g : Gd X Γ v) {f : Expr → M Res} (h : ∀ e, DE X e (f e)) {tg e : Expr} {i : Nat} (w : hidOf Γ v e = some i) : PI X tg e (tIH X.wd i (iterM Γ f v tg e)) := by
  cases e with
  | Name x p =>
    have w' : (if okN x && visB v.sc x then ixOf Γ.N x else none) = some i := w
    cases q : okN x && visB v.sc x with
    | false => rw [q] at w'; cases w'
    | true =>
      rw [q, if_pos rfl] at w'
      rw [Bool.and_eq_true] at q
      obtain ⟨o1, o2, o3⟩ := okN_of q.1
      have pv := pe_var (pos := p) (by rw [g.N]; exact ixOf_some w') (g.vis q.2) o1 o2
      exact ⟨fun pins s σ H R I z => by
        rcases z with z | z
        · exact (di_iter g h (.Name x p)).run pins s σ H R I z
        · exact (pi_seq pv).run pins s σ H R I z⟩
  | _ => cases w
def cLc (Γ : Gam) (c : Cmp) (v : V1) (elt : Expr) (gn : Comprehension) (scope : Scope) : M Res :=
  if decide (gn.is_async = 0) && blkB v.sc scope && noSet gn.iter && subIx (c.G (v.inn scope) gn.target).1 ((ownOf Γ.N scope.names).map (·.2)) then
    match hidOf Γ v gn.iter with
    | some i => mLcH i (iterM Γ (c.E v) v gn.target gn.iter) (c.G (v.inn scope) gn.target).2 (testsM (c.T (v.inn scope)) gn.ifs) (c.E (v.inn scope) elt) ((ownOf Γ.N scope.names).map (·.2))
    | none => mLc (iterM Γ (c.E v) v gn.target gn.iter) (c.G (v.inn scope) gn.target).2 (testsM (c.T (v.inn scope)) gn.ifs) (c.E (v.inn scope) elt) ((ownOf Γ.N scope.names).map (·.2))
  else mBad
theorem de_cLc {Γ : Gam} {c : Cmp} (S : Snd Γ c) {v : V1} (g : Gd X Γ v) {elt : Expr} {gn : Comprehension} {scope : Scope} {pos : Pos} : DE X (.ListComp elt [gn] scope pos) (cLc Γ c v elt gn scope) := by
  unfold cLc
  obtain ⟨tg, iter, ifs, ia⟩ := gn
  dsimp only
  cases q : decide (ia = 0) && blkB v.sc scope && noSet iter && subIx (c.G (v.inn scope) tg).1 ((ownOf Γ.N scope.names).map (·.2)) with
  | false => exact de_bad
  | true =>
    rw [if_pos rfl]
    rw [Bool.and_eq_true, Bool.and_eq_true, Bool.and_eq_true, decide_eq_true_eq] at q
    obtain ⟨⟨⟨q0, q1⟩, q2⟩, q3⟩ := q
    subst q0
    have ok : BlkOk X.N X.env.scope scope (ownOf Γ.N scope.names) := by rw [g.N, g.sc]; exact blk_ok q1
    have hG : ∀ (s : Shared) (H : Hp) (C : Addr) (cl : List (Str × Addr)) (fp : List Addr), PG (X.blk s H scope (compEnvC scope cl C X.env) fp) tg (gA X.wd (c.G (v.inn scope) tg).1 (c.G (v.inn scope) tg).2) := fun s H C cl fp => S.G _ _ (g.inn q1 s H C cl fp) tg
    have hE : ∀ (e : Expr) (s : Shared) (H : Hp) (C : Addr) (cl : List (Str × Addr)) (fp : List Addr), PE (X.blk s H scope (compEnvC scope cl C X.env) fp) e (tE X.wd (c.E (v.inn scope) e)) := fun e s H C cl fp => S.E _ _ (g.inn q1 s H C cl fp) e
    have hT : ∀ (s : Shared) (H : Hp) (C : Addr) (cl : List (Str × Addr)) (fp : List Addr), PTs (X.blk s H scope (compEnvC scope cl C X.env) fp) ifs (tT X.wd (testsM (c.T (v.inn scope)) ifs)) := fun s H C cl fp => pts_of (S.T _ _ (g.inn q1 s H C cl fp)) ifs
    cases w : hidOf Γ v iter with
    | none => exact (pe_lc g.calm (by rw [g.N]; exact g.nd) (di_iter g (S.E X v g) iter) ok hG hT (hE elt) (noSet_of q2 _)).imp (lc_of (subIx_of q3))
    | some i => exact (pe_lc g.calm (by rw [g.N]; exact g.nd) (di_iterH g (S.E X v g) w) ok hG hT (hE elt) (noSet_of q2 _)).imp (lcH_of (subIx_of q3))
def cDc (Γ : Gam) (c : Cmp) (v : V1) (kx vx : Expr) (gn : Comprehension) (scope : Scope) : M Res :=
  if decide (gn.is_async = 0) && blkB v.sc scope && noSet gn.iter && subIx (c.G (v.inn scope) gn.target).1 ((ownOf Γ.N scope.names).map (·.2)) then
    mDc (iterM Γ (c.E v) v gn.target gn.iter) (c.G (v.inn scope) gn.target).2 (testsM (c.T (v.inn scope)) gn.ifs) (c.E (v.inn scope) kx) (c.E (v.inn scope) vx) ((ownOf Γ.N scope.names).map (·.2))
  else mBad
theorem de_cDc {Γ : Gam} {c : Cmp} (S : Snd Γ c) {v : V1} (g : Gd X Γ v) {kx vx : Expr} {gn : Comprehension} {scope : Scope} {pos : Pos} : DE X (.DictComp kx vx [gn] scope pos) (cDc Γ c v kx vx gn scope) := by
  unfold cDc
  obtain ⟨tg, iter, ifs, ia⟩ := gn
  dsimp only
  cases q : decide (ia = 0) && blkB v.sc scope && noSet iter && subIx (c.G (v.inn scope) tg).1 ((ownOf Γ.N scope.names).map (·.2)) with
  | false => exact de_bad
  | true =>
    rw [if_pos rfl]
    rw [Bool.and_eq_true, Bool.and_eq_true, Bool.and_eq_true, decide_eq_true_eq] at q
    obtain ⟨⟨⟨q0, q1⟩, q2⟩, q3⟩ := q
    subst q0
    have ok : BlkOk X.N X.env.scope scope (ownOf Γ.N scope.names) := by rw [g.N, g.sc]; exact blk_ok q1
    have hG : ∀ (s : Shared) (H : Hp) (C : Addr) (cl : List (Str × Addr)) (fp : List Addr), PG (X.blk s H scope (compEnvC scope cl C X.env) fp) tg (gA X.wd (c.G (v.inn scope) tg).1 (c.G (v.inn scope) tg).2) := fun s H C cl fp => S.G _ _ (g.inn q1 s H C cl fp) tg
    have hE : ∀ (e : Expr) (s : Shared) (H : Hp) (C : Addr) (cl : List (Str × Addr)) (fp : List Addr), PE (X.blk s H scope (compEnvC scope cl C X.env) fp) e (tE X.wd (c.E (v.inn scope) e)) := fun e s H C cl fp => S.E _ _ (g.inn q1 s H C cl fp) e
    have hT : ∀ (s : Shared) (H : Hp) (C : Addr) (cl : List (Str × Addr)) (fp : List Addr), PTs (X.blk s H scope (compEnvC scope cl C X.env) fp) ifs (tT X.wd (testsM (c.T (v.inn scope)) ifs)) := fun s H C cl fp => pts_of (S.T _ _ (g.inn q1 s H C cl fp)) ifs
    exact (pe_dc g.calm (by rw [g.N]; exact g.nd) (di_iter g (S.E X v g) iter) ok hG hT (hE kx) (hE vx) (noSet_of q2 _)).imp (dc_of (subIx_of q3))

/-! ### calls -/
def baseB : Expr → Bool
  | .Call _ _ _ _ => false
  | _ => true
theorem base_of {o : Expr} (h : baseB o = true) (name : Str) (env : Env) : attributeBase o name env (eval o env) = eval o env := by
  cases o <;> first
    | rfl
    | cases h
/-- methods that change a list -/
def mutT (name : Str) : Option (D → List D → Option (D × D)) := if name == "append" then some mtAppend else if name == "extend" then some mtExtend else if name == "pop" then some (orM mtPop mtPopAt) else if name == "remove" then some mtRemove else none
def cMeth (Γ : Gam) (c : Cmp) (v : V1) (o : Expr) (name : Str) (args : List Expr) (ln : Bool) : M Res := match args with
  | [] => match o with
    | .Name x _ => if (name == "pop") && ln && okN x && visB v.sc x then match ixOf Γ.N x with
        | some i => mMut isList i (orM mtPop mtPopAt) mNil
        | none => mBad
      else mBad
    | _ => mBad
  | [e] => if (name == "index") then if ln && baseB o && plain e then mIdx (c.E v o) (c.E v e) else mBad else match o with
    | .Name x _ => match mutT name with
      | some g => if ln && okN x && visB v.sc x && plain e then match ixOf Γ.N x with
          | some i => mMut isList i g (listM (c.E v) [e])
          | none => mBad
        else mBad
      | none => mBad
    | _ => mBad
  | [e, f] => match o with
    | .Name x _ => if (name == "setdefault") && ln && okN x && visB v.sc x && plain e && plain f then match ixOf Γ.N x with
        | some i => mMut isDict i mtSetdef (listM (c.E v) [e, f])
        | none => mBad
      else mBad
    | _ => mBad
  | _ => mBad
theorem isList_ty {K : Fr} : ∀ H a o d G, H a = some o → Con K G a o d → isList d = true → tyV K.k "list" (V.ref a) H := by
  intro H a o d G h hc hl
  cases d <;> try cases hl
  obtain ⟨xs, rfl, _⟩ := con_lst hc
  exact .inl ⟨rfl, xs, .inl (.inl h)⟩
theorem mt_popX' : MtR X "list.pop" rPopX := mt_popX
theorem de_meth {Γ : Gam} {c : Cmp} (S : Snd Γ c) {v : V1} (g : Gd X Γ v) {o : Expr} {name : Str} {args : List Expr} {apos cpos : Pos} : DE X (.Call (.Attribute o name apos) args [] cpos) (cMeth Γ c v o name args (apos.endLine == cpos.line)) := by
  have hu := g.hu
  unfold cMeth
  split
  · split
    · rename_i x p
      cases q : (name == "pop") && (apos.endLine == cpos.line) && okN x && visB v.sc x with
      | false => exact de_bad
      | true =>
        rw [if_pos rfl]
        rw [Bool.and_eq_true, Bool.and_eq_true, Bool.and_eq_true] at q
        obtain ⟨⟨⟨q1, q2⟩, q3⟩, q4⟩ := q
        have e := eq_of_beq q1; subst e
        obtain ⟨o1, o2, o3⟩ := okN_of q3
        cases w : ixOf Γ.N x with
        | none => exact de_bad
        | some i =>
          exact (pe_bm0 PySem.F.plainAttrs_list PySem.F.slot_list_pop PySem.F.type_list_pop mt_popX' (pe_var (by rw [g.N]; exact ixOf_some w) (g.vis q4) o1 o2) rfl q2).imp fun σ H Q z => by
            obtain ⟨u, hu1, ty, z2⟩ := mut_of (K := X.wd) (T := "list") (popG.or popAtG) isList_ty σ H Q z
            refine ⟨u, hu1, ty, ?_⟩
            obtain ⟨C, ρ, G, ds, ρ', S', e, k⟩ := z2
            cases e
            exact k [] G H S' (Same.refl G) .nil
    · exact de_bad
  · rename_i e
    by_cases c1 : (name == "index") = true
    · rw [if_pos c1]
      have en := eq_of_beq c1; subst en
      cases q : (apos.endLine == cpos.line) && baseB o && plain e with
      | false => exact de_bad
      | true =>
        rw [if_pos rfl]
        rw [Bool.and_eq_true, Bool.and_eq_true] at q
        have st := star_of q.2 [] X.env
        exact (pe_index (by omega) (S.E X v g o) (S.E X v g e) (base_of q.1.2 _ _) (few_of (by simp [q.2]) (by rfl)) q.1.1 st).imp idx_of
    · rw [if_neg c1]
      split
      · rename_i x p
        cases w0 : mutT name with
        | none => exact de_bad
        | some gg =>
          dsimp only
          cases q : (apos.endLine == cpos.line) && okN x && visB v.sc x && plain e with
          | false => exact de_bad
          | true =>
            rw [if_pos rfl]
            rw [Bool.and_eq_true, Bool.and_eq_true, Bool.and_eq_true] at q
            obtain ⟨⟨⟨q2, q3⟩, q4⟩, q5⟩ := q
            obtain ⟨o1, o2, o3⟩ := okN_of q3
            cases w : ixOf Γ.N x with
            | none => exact de_bad
            | some i =>
              dsimp only
              have pv := pe_var (pos := p) (by rw [g.N]; exact ixOf_some w) (g.vis q4) o1 o2
              have st := star_of q5 [] X.env
              have few := few_of (e := e) (es := []) (pos := cpos) (env := X.env) (by simp [q5]) (by rfl)
              have hl := dl_list (S.E X v g) [e]
              unfold mutT at w0
              by_cases n1 : (name == "append") = true
              · rw [if_pos n1] at w0; cases w0
                have en := eq_of_beq n1; subst en
                exact (pe_bm PySem.F.plainAttrs_list PySem.F.slot_list_append PySem.F.type_list_append mt_append pv hl rfl few q2 st rfl).imp (mut_of (K := X.wd) (T := "list") appendG isList_ty)
              rw [if_neg n1] at w0
              by_cases n1 : (name == "extend") = true
              · rw [if_pos n1] at w0; cases w0
                have en := eq_of_beq n1; subst en
                exact (pe_bm PySem.F.plainAttrs_list PySem.F.slot_list_extend PySem.F.type_list_extend mt_extendR pv hl rfl few q2 st rfl).imp (mut_of (K := X.wd) (T := "list") extendG isList_ty)
              rw [if_neg n1] at w0
              by_cases n1 : (name == "pop") = true
              · rw [if_pos n1] at w0; cases w0
                have en := eq_of_beq n1; subst en
                exact (pe_bm PySem.F.plainAttrs_list PySem.F.slot_list_pop PySem.F.type_list_pop mt_popX' pv hl rfl few q2 st rfl).imp (mut_of (K := X.wd) (T := "list") (popG.or popAtG) isList_ty)
              rw [if_neg n1] at w0
              by_cases n1 : (name == "remove") = true
              · rw [if_pos n1] at w0; cases w0
                have en := eq_of_beq n1; subst en
                exact (pe_bm PySem.F.plainAttrs_list PySem.F.slot_list_remove PySem.F.type_list_remove (mt_removeD (by omega)) pv hl rfl few q2 st rfl).imp (mut_of (K := X.wd) (T := "list") removeG isList_ty)
              rw [if_neg n1] at w0
              cases w0
      · exact de_bad
  · rename_i e f
    split
    · rename_i x p
      cases q : (name == "setdefault") && (apos.endLine == cpos.line) && okN x && visB v.sc x && plain e && plain f with
      | false => exact de_bad
      | true =>
        rw [if_pos rfl]
        rw [Bool.and_eq_true, Bool.and_eq_true, Bool.and_eq_true, Bool.and_eq_true, Bool.and_eq_true] at q
        obtain ⟨⟨⟨⟨⟨q1, q2⟩, q3⟩, q4⟩, q5⟩, q6⟩ := q
        have en := eq_of_beq q1; subst en
        obtain ⟨o1, o2, o3⟩ := okN_of q3
        cases w : ixOf Γ.N x with
        | none => exact de_bad
        | some i =>
          dsimp only
          have pv := pe_var (pos := p) (by rw [g.N]; exact ixOf_some w) (g.vis q4) o1 o2
          have st := star_of q5 [f] X.env
          have pl : [f].all plain = true := by simp [q6]
          have few := few_of (e := e) (es := [f]) (pos := cpos) (env := X.env) (by simp [q5, q6]) (by rfl)
          have hl := dl_list (S.E X v g) [e, f]
          exact (pe_bmD PySem.F.slot_dict_setdefault PySem.F.type_dict_setdefault (mt_setdef (by omega)) pv hl rfl few q2 st (star_any pl)).imp (mutP_of (K := X.wd) (Pd := dictV X.wd) setdefG isDict_at)
    · exact de_bad
  · exact de_bad
end Z
end

section
set_option Elab.async false
set_option linter.all false
set_option maxRecDepth 100000
set_option maxHeartbeats 2000000
/-! ZN: from a text to its meaning: one step of the compiler. -/
namespace Z
open PySem L2
variable {X : Cx}

/-! ### calls by name -/
def cCallN (Γ : Gam) (c : Cmp) (v : V1) (x : Str) (args : List Expr) : M Res :=
  if glB v.sc x && okN x then match Γ.fs.lookup x with
    | some g => callF Γ v (c.E v) g args
    | none => match args with
      | [e] => match blt1 x with
        | some f => if plain e then mUn f (c.E v e) else mBad
        | none => mBad
      | [a, b] => if x == "isinstance" then match b with
          | .Name T _ => match tyOf T with
            | some t => if glB v.sc T && plain a then mUn (dIsi t) (c.E v a) else mBad
            | none => mBad
          | _ => mBad
        else match blt2 x with
          | some f => if plain a && plain b then mCBs f (listM (c.E v) [a, b]) else mBad
          | none => mBad
      | _ => mBad
  else mBad
theorem de_callN {Γ : Gam} {c : Cmp} (S : Snd Γ c) {v : V1} (g : Gd X Γ v) {x : Str} {args : List Expr} {p pos : Pos} : DE X (.Call (.Name x p) args [] pos) (cCallN Γ c v x args) := by
  unfold cCallN
  cases q : glB v.sc x && okN x with
  | false => exact de_bad
  | true =>
    rw [if_pos rfl]
    rw [Bool.and_eq_true] at q
    cases w : Γ.fs.lookup x with
    | some sg => exact de_callF g (S.E X v g) (g.fs x sg w) q.1 q.2
    | none =>
      dsimp only
      split
      · rename_i e
        cases u : blt1 x with
        | none => exact de_bad
        | some f =>
          dsimp only
          cases pl : plain e with
          | false => exact de_bad
          | true => exact de_blt1 g u q.1 (S.E X v g e) pl
      · rename_i a b
        by_cases c1 : (x == "isinstance") = true
        · rw [if_pos c1]
          have en := eq_of_beq c1; subst en
          split
          · rename_i T p2
            cases u : tyOf T with
            | none => exact de_bad
            | some t =>
              dsimp only
              cases z : glB v.sc T && plain a with
              | false => exact de_bad
              | true =>
                rw [Bool.and_eq_true] at z
                exact de_isi g u q.1 z.1 (S.E X v g a) z.2
          · exact de_bad
        · rw [if_neg c1]
          cases u : blt2 x with
          | none => exact de_bad
          | some f =>
            dsimp only
            cases z : plain a && plain b with
            | false => exact de_bad
            | true =>
              rw [Bool.and_eq_true] at z
              exact de_blt2 g u q.1 (dl_list (S.E X v g) [a, b]) z.1 z.2
      · exact de_bad
def cLenSet (c : Cmp) (v : V1) (a : Expr) : M Res := if glB v.sc "len" && glB v.sc "set" && plain a then mUn dLenSet (c.E v a) else mBad
theorem de_lenSet {Γ : Gam} {c : Cmp} (S : Snd Γ c) {v : V1} (g : Gd X Γ v) {a : Expr} {p p2 q pos : Pos} : DE X (.Call (.Name "len" p) [.Call (.Name "set" p2) [a] [] q] [] pos) (cLenSet c v a) := by
  unfold cLenSet
  have hu := g.hu
  cases z : glB v.sc "len" && glB v.sc "set" && plain a with
  | false => exact de_bad
  | true =>
    rw [Bool.and_eq_true, Bool.and_eq_true] at z
    exact (Z.pe_lenSet g.calm (by omega) (g.gl z.1.1) (g.bl _ (by decide)) (g.gl z.1.2) (g.bl _ (by decide)) (S.E X v g a) (star_of z.2 [] X.env)).imp lenSet_of
def cCall (Γ : Gam) (c : Cmp) (v : V1) (f : Expr) (args : List Expr) (kws : List Keyword) (cpos : Pos) : M Res := match kws with
  | [] => match f with
    | .Name x _ => match args with
      | [.Call (.Name y _) [a] [] _] => if x == "len" && y == "set" then cLenSet c v a else cCallN Γ c v x args
      | _ => cCallN Γ c v x args
    | .Attribute o name apos => cMeth Γ c v o name args (apos.endLine == cpos.line)
    | _ => mBad
  | k :: ks => match f, args with
    | .Name x _, [] => callKw Γ v (c.E v) x (k :: ks)
    | _, _ => mBad
theorem de_call {Γ : Gam} {c : Cmp} (S : Snd Γ c) {v : V1} (g : Gd X Γ v) {f : Expr} {args : List Expr} {kws : List Keyword} {pos : Pos} : DE X (.Call f args kws pos) (cCall Γ c v f args kws pos) := by
  unfold cCall
  split
  · split
    · rename_i x p
      split
      · rename_i y p2 a q
        cases z : x == "len" && y == "set" with
        | false => rw [if_neg (by decide)]; exact de_callN S g
        | true =>
          rw [if_pos rfl]
          rw [Bool.and_eq_true] at z
          have e1 := eq_of_beq z.1; subst e1
          have e2 := eq_of_beq z.2; subst e2
          exact de_lenSet S g
      · exact de_callN S g
    · exact de_meth S g
    · exact de_bad
  · split
    · exact de_callKw g (S.E X v g)
    · exact de_bad

/-! ### expressions -/
def cPart (f : Expr → M Res) : Option Expr → M (Option Int)
  | none => mNoP
  | some e => mPart (f e)
theorem dp_of {f : Expr → M Res} (h : ∀ e, DE X e (f e)) : ∀ o, DP X o (cPart f o)
  | none => dp_none
  | some e => dp_some (h e)
def isOne : Expr → Bool
  | .UnaryOp .USub (.Constant (.int i) _ _) _ => decide (i = 1)
  | _ => false
def cSub (c : Cmp) (v : V1) (a b : Expr) : M Res := match b with
  | .Slice lo hi st _ => match st with
    | none => mSlice (c.E v a) (cPart (c.E v) lo) (cPart (c.E v) hi)
    | some st => match lo, hi with
      | none, none => if isOne st then mUn dBack (c.E v a) else mBad
      | _, _ => mBad
  | _ => mOp dIxX (c.E v a) (c.E v b)
theorem isOne_of {e : Expr} (h : isOne e = true) : ∃ k p1 p2, e = .UnaryOp .USub (.Constant (.int 1) k p1) p2 := by
  unfold isOne at h
  split at h
  · rename_i i k p1 p2
    have := of_decide_eq_true h
    subst this
    exact ⟨_, _, _, rfl⟩
  · cases h
theorem de_sub {Γ : Gam} {c : Cmp} (S : Snd Γ c) {v : V1} (g : Gd X Γ v) {a b : Expr} {pos : Pos} : DE X (.Subscript a b pos) (cSub c v a b) := by
  unfold cSub
  have hu := g.hu
  split
  · rename_i lo hi st p
    split
    · exact de_slice (S.E X v g a) (dp_of (S.E X v g) lo) (dp_of (S.E X v g) hi)
    · rename_i st
      split
      · cases z : isOne st with
        | false => exact de_bad
        | true =>
          obtain ⟨k, p1, p2, rfl⟩ := isOne_of z
          exact de_back (S.E X v g a)
      · exact de_bad
  · rename_i h
    refine (pe_ix (ix_X hu) (S.E X v g a) (S.E X v g b) (noSl_of ?_)).imp (tOp_of ixXG)
    cases b <;> first
      | rfl
      | exact absurd rfl (h _ _ _ _)
def cCmp (c : Cmp) (v : V1) (a : Expr) (ops : List CmpOp) (bs : List Expr) : M Res := match ops, bs with
  | [op], [b] => match cmpT op with
    | some f => if behindInMarks op b then mBad else mOp f (c.E v a) (c.E v b)
    | none => mBad
  | [op, op'], [b, d] => match cmpT op, cmpT op' with
    | some f, some f' => if lastMarks [op, op'] [b, d] then mBad else mChain f f' (c.E v a) (c.E v b) (c.E v d)
    | _, _ => mBad
  | _, _ => mBad
theorem de_cmp {Γ : Gam} {c : Cmp} (S : Snd Γ c) {v : V1} (g : Gd X Γ v) {a : Expr} {ops : List CmpOp} {bs : List Expr} {pos : Pos} : DE X (.Compare a ops bs pos) (cCmp c v a ops bs) := by
  unfold cCmp
  split
  · rename_i op b
    cases u : cmpT op with
    | none => exact de_bad
    | some f =>
      dsimp only
      cases z : behindInMarks op b with
      | true => exact de_bad
      | false =>
        obtain ⟨r, h1, h2⟩ := cmpT_ok (X := X) g.hu u
        exact (pe_cmpR h1 (S.E X v g a) (S.E X v g b) z).imp (tOp_of h2)
  · rename_i op op' b d
    cases u : cmpT op with
    | none => exact de_bad
    | some f =>
      cases u' : cmpT op' with
      | none => exact de_bad
      | some f' =>
        dsimp only
        cases z : lastMarks [op, op'] [b, d] with
        | true => exact de_bad
        | false =>
          obtain ⟨r, h1, h2⟩ := cmpT_ok (X := X) g.hu u
          obtain ⟨r', h1', h2'⟩ := cmpT_ok (X := X) g.hu u'
          exact (pe_chain h1 h1' (S.E X v g a) (S.E X v g b) (S.E X v g d) z).imp (chain_of h2 h2')
  · exact de_bad
def stepE (Γ : Gam) (c : Cmp) (v : V1) (e : Expr) : M Res := match e with
  | .Name x _ => cName Γ v x
  | .Constant k _ _ => cConst k
  | .Tuple es _ _ => mTup (listM (c.E v) es)
  | .List es _ => mLst (listM (c.E v) es)
  | .Dict ks vs _ => match ks, vs with
    | [], [] => mDict0
    | [some k], [w] => mDisp1 (c.E v k) (c.E v w)
    | _, _ => mBad
  | .BinOp a op b _ => match binT op with
    | some f => mOp f (c.E v a) (c.E v b)
    | none => mBad
  | .UnaryOp op a _ => match op with
    | .Not => mNotV (c.E v a)
    | .USub => mUn dNeg (c.E v a)
    | _ => mBad
  | .BoolOp op es _ => boolE (c.E v) op es
  | .Compare a ops bs _ => cCmp c v a ops bs
  | .IfExp t a b _ => mIf (c.T v t) (c.E v a) (c.E v b)
  | .Subscript a b _ => cSub c v a b
  | .Call f args kws pos => cCall Γ c v f args kws pos
  | .ListComp elt gs scope _ => match gs with
    | [gn] => cLc Γ c v elt gn scope
    | _ => mBad
  | .DictComp k w gs scope _ => match gs with
    | [gn] => cDc Γ c v k w gn scope
    | _ => mBad
  | _ => mBad
theorem de_step {Γ : Gam} {c : Cmp} (S : Snd Γ c) {v : V1} (g : Gd X Γ v) (e : Expr) : DE X e (stepE Γ c v e) := by
  have hu := g.hu
  have hE := S.E X v g
  unfold stepE
  split
  · exact de_name g
  · exact de_cst
  · exact de_tup (dl_list hE _)
  · exact de_lst (dl_list hE _)
  · split
    · exact de_dict0
    · exact de_disp1 (by omega) (hE _) (hE _)
    · exact de_bad
  · rename_i op _ _
    cases u : binT op with
    | none => exact de_bad
    | some f =>
      obtain ⟨r, h1, h2⟩ := binT_ok (X := X) u
      exact (pe_op h1 (hE _) (hE _)).imp (tOp_of h2)
  · split
    · exact (pe_not (hE _)).imp tNotV_of
    · exact (pe_un un_neg (hE _)).imp (tUn_of negG)
    · exact de_bad
  · exact de_boolE hE _
  · exact de_cmp S g
  · exact (pe_ifExp (S.T X v g _) (hE _) (hE _)).imp tIf_of
  · exact de_sub S g
  · exact de_call S g
  · split
    · exact de_cLc S g
    · exact de_bad
  · split
    · exact de_cDc S g
    · exact de_bad
  · exact de_bad

/-! ### tests -/
def valT : Expr → Bool
  | .UnaryOp op _ _ => match op with
    | .Not => false
    | _ => true
  | .BoolOp _ _ _ => false
  | .IfExp _ _ _ _ => false
  | .Compare _ _ _ _ => false
  | _ => true
theorem valT_of {e : Expr} (h : valT e = true) (env : Env) : ∀ whole, isTrue e env whole = (do let v ← whole; standAt e.pos; holding [v] (truthy v)) := by
  cases e with
  | UnaryOp op a p => cases op <;> first | (intro _; rfl) | cases h
  | BoolOp _ _ _ => cases h
  | IfExp _ _ _ _ => cases h
  | Compare _ _ _ _ => cases h
  | _ => intro _; rfl
def cCmpT (c : Cmp) (v : V1) (a : Expr) (ops : List CmpOp) (bs : List Expr) : M Bool := match ops, bs with
  | [op], [b] => match cmpT op with
    | some f => if behindInMarks op b then mBad else mTest (mOp f (c.E v a) (c.E v b))
    | none => mBad
  | [op, op'], [b, d] => match cmpT op, cmpT op' with
    | some f, some f' => if lastMarks [op, op'] [b, d] then mBad else mTest (mChain f f' (c.E v a) (c.E v b) (c.E v d))
    | _, _ => mBad
  | _, _ => mBad
theorem tB_mono {t t' : TE} (h : ∀ σ H Q, t' σ H Q → t σ H Q) : ∀ σ H Q, tB t' σ H Q → tTest t σ H Q := fun σ H Q z => h σ H _ z
theorem dt_cmp {Γ : Gam} {c : Cmp} (S : Snd Γ c) {v : V1} (g : Gd X Γ v) {a : Expr} {ops : List CmpOp} {bs : List Expr} {pos : Pos} : DT X (.Compare a ops bs pos) (cCmpT c v a ops bs) := by
  unfold cCmpT
  split
  · rename_i op b
    cases u : cmpT op with
    | none => exact dt_bad
    | some f =>
      dsimp only
      cases z : behindInMarks op b with
      | true => exact dt_bad
      | false =>
        obtain ⟨r, h1, h2⟩ := cmpT_ok (X := X) g.hu u
        exact (pt_cmpR h1 (S.E X v g a) (S.E X v g b) z).imp fun σ H Q w => tB_mono (tOp_of h2) σ H Q (tB_of σ H Q w)
  · rename_i op op' b d
    cases u : cmpT op with
    | none => exact dt_bad
    | some f =>
      cases u' : cmpT op' with
      | none => exact dt_bad
      | some f' =>
        dsimp only
        cases z : lastMarks [op, op'] [b, d] with
        | true => exact dt_bad
        | false =>
          obtain ⟨r, h1, h2⟩ := cmpT_ok (X := X) g.hu u
          obtain ⟨r', h1', h2'⟩ := cmpT_ok (X := X) g.hu u'
          exact (pt_chain h1 h1' (S.E X v g a) (S.E X v g b) (S.E X v g d) z).imp fun σ H Q w => tB_mono (chain_of h2 h2') σ H Q (tB_of σ H Q w)
  · exact dt_bad
def stepT (c : Cmp) (v : V1) (e : Expr) : M Bool := match e with
  | .UnaryOp op a _ => match op with
    | .Not => mNotT (c.T v a)
    | _ => mBad
  | .BoolOp op es _ => boolT (c.T v) op es
  | .Compare a ops bs _ => cCmpT c v a ops bs
  | e => if valT e then mTest (c.E v e) else mBad
theorem dt_step {Γ : Gam} {c : Cmp} (S : Snd Γ c) {v : V1} (g : Gd X Γ v) (e : Expr) : DT X e (stepT c v e) := by
  unfold stepT
  split
  · split
    · exact (pt_not (S.T X v g _)).imp tNot_of
    · exact dt_bad
  · exact (dw_bool (S.T X v g) _).pt
  · exact dt_cmp S g
  · split
    · rename_i z
      exact (pt_val (S.E X v g _) (valT_of z X.env)).imp tB_of
    · exact dt_bad

/-! ### targets -/
def tgtM (f : Expr → List Nat × (D → Rho → Option Rho)) : List Expr → List Nat × (List D → Rho → Option Rho)
  | [] => ([], fNil)
  | e :: es => if plain e then ((f e).1 ++ (tgtM f es).1, fCons (f e).2 (tgtM f es).2) else ([], fun _ _ => none)
theorem dgs_bad {es : List Expr} : DGs X es [] (fun _ _ => none) := ⟨fun pins s σ H v u Q I r ⟨C, ρ, G, d, ρ', S, rp, e, k⟩ => by cases e⟩
theorem dgs_of {f : Expr → List Nat × (D → Rho → Option Rho)} (h : ∀ e, DG X e (f e).1 (f e).2) : ∀ es, DGs X es (tgtM f es).1 (tgtM f es).2
  | [] => dgs_nil
  | e :: es => by
    unfold tgtM
    cases c : plain e with
    | false => exact dgs_bad
    | true => exact (pgs_cons (h e) (dgs_of h es) (by rw [asg_each c]; rfl)).imp gCons_of
def stepG (Γ : Gam) (c : Cmp) (v : V1) (e : Expr) : List Nat × (D → Rho → Option Rho) := match e with
  | .Name x _ => if stB v x then match ixOf Γ.N x with
      | some i => ([i], fName i)
      | none => ([], fun _ _ => none)
    else ([], fun _ _ => none)
  | .Tuple es _ _ => if es.all plain then ((tgtM (c.G v) es).1, fTup es.length (tgtM (c.G v) es).2) else ([], fun _ _ => none)
  | _ => ([], fun _ _ => none)
theorem asg_len : ∀ {es : List Expr} {env : Env}, (assignEach es env).length = es.length
  | [], _ => rfl
  | e :: es, env => by
    cases c : plain e with
    | true => rw [asg_each c]; simp [asg_len (es := es)]
    | false => cases e <;> first | (show (_ :: assignEach es env).length = _; simp [asg_len (es := es)]) | cases c
theorem asg_star : ∀ {es : List Expr} {env : Env}, es.all plain = true → (assignEach es env).findIdx? (·.1) = none
  | [], _, _ => rfl
  | e :: es, env, h => by
    rw [List.all_cons, Bool.and_eq_true] at h
    rw [asg_each h.1, List.findIdx?_cons]
    simp [asg_star (es := es) (env := env) h.2]
theorem dg_step {Γ : Gam} {c : Cmp} (S : Snd Γ c) {v : V1} (g : Gd X Γ v) (e : Expr) : DG X e (stepG Γ c v e).1 (stepG Γ c v e).2 := by
  unfold stepG
  split
  · rename_i x p
    cases z : stB v x with
    | false => exact dg_bad
    | true =>
      rw [if_pos rfl]
      obtain ⟨z1, z2⟩ := g.st z
      cases w : ixOf Γ.N x with
      | none => exact dg_bad
      | some i => exact dg_name (pg_name (by rw [g.N]; exact g.nd) (by rw [g.N]; exact ixOf_some w) z1 z2)
  · rename_i es k p
    cases z : es.all plain with
    | false => exact dg_bad
    | true => exact (pg_tup g.calm (dgs_of (S.G X v g) es) asg_len (asg_star z)).imp gTup_of
  · exact dg_bad
end Z
end

section
set_option Elab.async false
set_option linter.all false
set_option maxRecDepth 100000
set_option maxHeartbeats 2000000
/-! ZO: from a text to its meaning: statements, defs. -/
namespace Z
open PySem L2
variable {X : Cx}

def blockM (f : Stmt → SM) : List Stmt → SM
  | [] => mSkip
  | s :: ss => mSeq (f s) (blockM f ss)
theorem dss_block {f : Stmt → SM} (h : ∀ s, DS X s (f s)) : ∀ ss, DSs X ss (blockM f ss)
  | [] => dss_nil
  | s :: ss => dss_cons (h s) (dss_block h ss)
/-- no comprehension -/
def noComp : Expr → Bool
  | .ListComp _ _ _ _ => false
  | .SetComp _ _ _ _ => false
  | .DictComp _ _ _ _ _ => false
  | _ => true
theorem noComp_sw {e : Expr} (h : noComp e = true) (t : Option Expr) (n : Nat) (env : Env) : swapsWith e t n env = pure false := by
  cases e <;> first
    | rfl
    | cases h
def isName : Expr → Bool
  | .Name _ _ => true
  | _ => false
/-- a store into something that is no name swaps nothing -/
theorem tgt_sw {tg : Expr} (h : isName tg = false) (e : Expr) (n : Nat) (env : Env) : swapsWith e (some tg) n env = pure false := by
  cases e <;> first
    | rfl
    | (cases tg <;> first | rfl | cases h)
def isTupE : Expr → Bool
  | .Tuple _ _ _ => true
  | _ => false
theorem noTup_st {tg e : Expr} (h : (isTupE tg && isTupE e) = false) (h2 : ∀ es p, tg ≠ .List es p) (env : Env) : swappedStores [tg] e env = pure none := by
  cases tg <;> first
    | rfl
    | exact (h2 _ _ rfl).elim
    | (cases e <;> first | rfl | cases h)
theorem asg_one {tg : Expr} (h : plain tg = true) (env : Env) : (assignEach [tg] env).map (·.2) = [assign tg env] := by rw [asg_each h]; rfl
/-- name = e -/
def swB (v : V1) (x : Str) (p : Pos) (e : Expr) : Bool := match e with
  | .ListComp _ _ s q => locB v.sc x && (p.line == q.line) && !(s.names.any fun (n, k) => n == x && (k == .local || k == .cell))
  | .SetComp _ _ s q => locB v.sc x && (p.line == q.line) && !(s.names.any fun (n, k) => n == x && (k == .local || k == .cell))
  | .DictComp _ _ _ s q => locB v.sc x && (p.line == q.line) && !(s.names.any fun (n, k) => n == x && (k == .local || k == .cell))
  | _ => false
theorem loc_kind {Γ : Gam} {v : V1} (g : Gd X Γ v) (x : Str) : (X.env.kindOf x == some .local) = locB v.sc x := by
  unfold Env.kindOf locB
  rw [g.sc]
  cases v.sc.names.lookup x with
  | none => rfl
  | some k => cases k <;> rfl
theorem kind_blk {Γ : Gam} {v : V1} (g : Gd X Γ v) : X.env.blockKind = .function ∧ X.env.scope.kind = .function := by
  have h : X.env.scope.kind = .function := by rw [g.sc]; exact g.kd
  exact ⟨by unfold Env.blockKind; rw [h]; rfl, h⟩
theorem sw_of {Γ : Gam} {v : V1} (g : Gd X Γ v) (x : Str) (p : Pos) (e : Expr) (n : Nat) : swapsWith e (some (.Name x p)) n X.env = pure (swB v x p e) := by
  have k := loc_kind g x
  obtain ⟨b, _⟩ := kind_blk g
  cases e <;> first
    | rfl
    | (show (pure (X.env.blockKind == .function && X.env.kindOf x == some .local && _ && _) : Sem Bool) = _
       rw [b, k]; rfl)
def cAsgN (Γ : Gam) (c : Cmp) (v : V1) (x : Str) (p : Pos) (e : Expr) : SM := if stB v x then match ixOf Γ.N x with
    | some i => match swB v x p e with
      | false => mAsg i (c.E v e)
      | true => match e with
        | .ListComp elt [gn] scope _ => mAsg i (cLc Γ c v elt gn scope)
        | _ => sBad
    | none => sBad
  else sBad
theorem ds_asgN {Γ : Gam} {c : Cmp} (S : Snd Γ c) {v : V1} (g : Gd X Γ v) {x : Str} {p pos : Pos} {e : Expr} : DS X (.Assign [.Name x p] e pos) (cAsgN Γ c v x p e) := by
  unfold cAsgN
  cases z : stB v x with
  | false => exact ds_bad
  | true =>
    rw [if_pos rfl]
    obtain ⟨z1, z2⟩ := g.st z
    have nd : X.N.Nodup := by rw [g.N]; exact g.nd
    cases w : ixOf Γ.N x with
    | none => exact ds_bad
    | some i =>
      have hi : X.N[i]? = some x := by rw [g.N]; exact ixOf_some w
      dsimp only
      have sw := sw_of g x p e pos.line
      cases q : swB v x p e with
      | false =>
        rw [q] at sw
        exact (ps_asg (S.E X v g e) (pg_name nd hi z1 z2) sw (noTup_st rfl (fun _ _ h => by cases h) X.env) (asg_one rfl X.env)).imp asg_of
      | true =>
        rw [q] at sw
        dsimp only
        split
        · rename_i elt gn scope q2
          unfold cLc
          obtain ⟨tg, iter, ifs, ia⟩ := gn
          dsimp only
          cases u : decide (ia = 0) && blkB v.sc scope && noSet iter && subIx (c.G (v.inn scope) tg).1 ((ownOf Γ.N scope.names).map (·.2)) with
          | false =>
            refine ⟨fun pins s σ H Dd I ⟨C, ρ, G, o, S', e, k⟩ => ?_⟩
            rw [if_neg (by decide)] at e
            cases e
          | true =>
            rw [if_pos rfl]
            rw [Bool.and_eq_true, Bool.and_eq_true, Bool.and_eq_true, decide_eq_true_eq] at u
            obtain ⟨⟨⟨u0, u1⟩, u2⟩, u3⟩ := u
            subst u0
            have ok : BlkOk X.N X.env.scope scope (ownOf Γ.N scope.names) := by rw [g.N, g.sc]; exact blk_ok u1
            have hG : ∀ (s : Shared) (H : Hp) (C : Addr) (cl : List (Str × Addr)) (fp : List Addr), PG (X.blk s H scope (compEnvC scope cl C X.env) fp) tg (gA X.wd (c.G (v.inn scope) tg).1 (c.G (v.inn scope) tg).2) := fun s H C cl fp => S.G _ _ (g.inn u1 s H C cl fp) tg
            have hE : ∀ (e : Expr) (s : Shared) (H : Hp) (C : Addr) (cl : List (Str × Addr)) (fp : List Addr), PE (X.blk s H scope (compEnvC scope cl C X.env) fp) e (tE X.wd (c.E (v.inn scope) e)) := fun e s H C cl fp => S.E _ _ (g.inn u1 s H C cl fp) e
            have hT : ∀ (s : Shared) (H : Hp) (C : Addr) (cl : List (Str × Addr)) (fp : List Addr), PTs (X.blk s H scope (compEnvC scope cl C X.env) fp) ifs (tT X.wd (testsM (c.T (v.inn scope)) ifs)) := fun s H C cl fp => pts_of (S.T _ _ (g.inn u1 s H C cl fp)) ifs
            have hl : X.env.scope.names.lookup x = some .local := by
              unfold swB at q
              dsimp only at q
              rw [Bool.and_eq_true, Bool.and_eq_true] at q
              have := q.1.1
              unfold locB at this
              rw [g.sc]
              cases y : v.sc.names.lookup x with
              | none => rw [y] at this; cases this
              | some k => rw [y] at this; cases k <;> first | rfl | cases this
            cases w9 : hidOf Γ v iter with
            | none =>
              refine (ps_setLc g.calm nd hi hl sw (di_iter g (S.E X v g) iter) ok hG hT (hE elt) (noSet_of u2 _)).imp fun D σ H z => ?_
              have z' := asg_of D σ H z
              exact lc_of (subIx_of u3) σ H _ z'
            | some i9 =>
              refine (ps_setLc g.calm nd hi hl sw (di_iterH g (S.E X v g) w9) ok hG hT (hE elt) (noSet_of u2 _)).imp fun D σ H z => ?_
              have z' := asg_of D σ H z
              exact lcH_of (subIx_of u3) σ H _ z'
        · exact ds_bad
end Z
end

section
set_option Elab.async false
set_option linter.all false
set_option maxRecDepth 100000
set_option maxHeartbeats 2000000
/-! ZP: from a text to its meaning: statements, defs. -/
namespace Z
open PySem L2
variable {X : Cx}

/-! ### a, b = x, y by plain names -/
def parB (v : V1) (x y : Str) (px py : Pos) (a b : Expr) : Bool := locB v.sc x && locB v.sc y && !(x == y) && (py.line == px.line) && plain a && plain b && !(foldedForSure 8 a && foldedForSure 8 b) && !(constantsAlone 8 a && constantsAlone 8 b)
theorem par_st {Γ : Gam} {v : V1} (g : Gd X Γ v) {x y : Str} {px py pt pt2 : Pos} {kt k2 : Nat} {a b : Expr} (h : parB v x y px py a b = true) : swappedStores [.Tuple [.Name x px, .Name y py] kt pt] (.Tuple [a, b] k2 pt2) X.env = pure (some [x, y]) := by
  unfold parB at h
  simp only [Bool.and_eq_true, Bool.not_eq_true'] at h
  obtain ⟨⟨⟨⟨⟨⟨⟨h1, h2⟩, h3⟩, h4⟩, h5⟩, h6⟩, h7⟩, h8⟩ := h
  obtain ⟨bk, _⟩ := kind_blk g
  have kx := loc_kind g x
  have ky := loc_kind g y
  rw [h1] at kx
  rw [h2] at ky
  have bk2 : (X.env.blockKind != .function) = false := by rw [bk]; rfl
  have hxx : (px.line == px.line) = true := beq_self_eq_true _
  have er : ([x, y] : List Str).eraseDups.length = 2 := by
    have : (y == x) = false := by
      cases q : y == x with
      | false => rfl
      | true => have := eq_of_beq q; subst this; simp at h3
    simp [List.eraseDups_cons, this]
  unfold swappedStores
  simp only [List.length_cons, List.length_nil, List.any_cons, List.any_nil, Bool.or_false, bk2, List.head?_cons, Option.map_some, Option.getD_some, Expr.pos, List.filterMap_cons, List.filterMap_nil, kx, ky, hxx, h4, Bool.and_true, List.all_cons, List.all_nil, h7, h8]
  simp [er, h7, h8]
  intro h
  rcases h with h | h
  · cases a <;> first
      | exact Bool.noConfusion h
      | exact Bool.noConfusion h5
  · cases b <;> first
      | exact Bool.noConfusion h
      | exact Bool.noConfusion h6
def cPar (Γ : Gam) (c : Cmp) (v : V1) (x y : Str) (px py : Pos) (a b : Expr) : SM := if parB v x y px py a b then match ixOf Γ.N x, ixOf Γ.N y with
    | some i, some j => if i = j then sBad else mPar2 i j (c.E v a) (c.E v b)
    | _, _ => sBad
  else sBad
theorem sole_sw {tg : Expr} (h : isName tg = false) (e : Expr) (n : Nat) (env : Env) : swapsWithSole [tg] e n env = pure false := tgt_sw h e n env
theorem locB_of {v : V1} {x : Str} (h : locB v.sc x = true) : v.sc.names.lookup x = some .local := by
  unfold locB at h
  cases y : v.sc.names.lookup x with
  | none => rw [y] at h; cases h
  | some k => rw [y] at h; cases k <;> first | rfl | cases h
theorem ds_par {Γ : Gam} {c : Cmp} (S : Snd Γ c) {v : V1} (g : Gd X Γ v) {x y : Str} {px py pt pt2 pos : Pos} {kt k2 : Nat} {a b : Expr} : DS X (.Assign [.Tuple [.Name x px, .Name y py] kt pt] (.Tuple [a, b] k2 pt2) pos) (cPar Γ c v x y px py a b) := by
  unfold cPar
  cases q : parB v x y px py a b with
  | false => exact ds_bad
  | true =>
    rw [if_pos rfl]
    have st := par_st (kt := kt) (k2 := k2) (pt := pt) (pt2 := pt2) g q
    unfold parB at q
    simp only [Bool.and_eq_true, Bool.not_eq_true'] at q
    obtain ⟨⟨⟨⟨⟨⟨⟨h1, h2⟩, h3⟩, h4⟩, h5⟩, h6⟩, h7⟩, h8⟩ := q
    cases wi : ixOf Γ.N x with
    | none => exact ds_bad
    | some i =>
      cases wj : ixOf Γ.N y with
      | none => exact ds_bad
      | some j =>
        dsimp only
        by_cases e : i = j
        · rw [if_pos e]; exact ds_bad
        · rw [if_neg e]
          have pa : PA X [a, b] (tCons (tE X.wd (c.E v a)) (tCons (tE X.wd (c.E v b)) tNil)) := pa_cons (S.E X v g a) (pa_cons (S.E X v g b) pa_nil (star_of h6 [] X.env)) (star_of h5 [b] X.env)
          exact (ps_par g.calm (by rw [g.N]; exact g.nd) (by rw [g.N]; exact ixOf_some wi) (by rw [g.N]; exact ixOf_some wj) e (by rw [g.sc]; exact locB_of h1) (by rw [g.sc]; exact locB_of h2) pa st (sole_sw rfl _ _ _)).imp (par_of e)

/-! ### statements -/
def whB : Nat := 1000000
def cAsg (Γ : Gam) (c : Cmp) (v : V1) (tg e : Expr) : SM := match tg with
  | .Name x p => cAsgN Γ c v x p e
  | .Tuple ts _ _ => match e with
    | .Tuple vs _ _ => match ts, vs with
      | [.Name x px, .Name y py], [a, b] => cPar Γ c v x y px py a b
      | _, _ => sBad
    | _ => mAsgT (c.G v tg).2 (c.E v e)
  | .Subscript o i _ => match o with
    | .Name x _ => if okN x && visB v.sc x then match ixOf Γ.N x with
        | some n => if noSl i then mSetK n setD (c.E v i) (c.E v e) else sBad
        | none => sBad
      else sBad
    | _ => sBad
  | _ => sBad
theorem noSl_asg {i : Expr} (h : noSl i = true) (o : Expr) (p : Pos) (env : Env) : ∀ v, assign (.Subscript o i p) env v = (do
      let ov ← holding [v] (eval o env)
      let iv ← holding [v, ov] (eval i env)
      standAt p
      holding [v, ov, iv] (setItem ov iv v)
      release [v, ov, iv] []) := by
  cases i <;> first
    | (intro v; rfl)
    | cases h
theorem ds_asg {Γ : Gam} {c : Cmp} (S : Snd Γ c) {v : V1} (g : Gd X Γ v) {tg e : Expr} {pos : Pos} : DS X (.Assign [tg] e pos) (cAsg Γ c v tg e) := by
  have hu := g.hu
  unfold cAsg
  split
  · exact ds_asgN S g
  · rename_i ts k p
    split
    · split
      · exact ds_par S g
      · exact ds_bad
    · rename_i h
      have nt : (isTupE (.Tuple ts k p) && isTupE e) = false := by
        cases e <;> first
          | rfl
          | exact (h _ _ _ rfl).elim
      exact (ps_asg (S.E X v g e) (S.G X v g (.Tuple ts k p)) (sole_sw rfl _ _ _) (noTup_st nt (fun _ _ h => by cases h) X.env) (asg_one rfl X.env)).imp asgT_of
  · split
    · rename_i x p2
      cases q : okN x && visB v.sc x with
      | false => exact ds_bad
      | true =>
        rw [if_pos rfl]
        rw [Bool.and_eq_true] at q
        obtain ⟨o1, o2, o3⟩ := okN_of q.1
        cases w : ixOf Γ.N x with
        | none => exact ds_bad
        | some n =>
          dsimp only
          split
          · rename_i ns
            exact (ps_asg (S.E X v g e) (pg_sub (pe_var (by rw [g.N]; exact ixOf_some w) (g.vis q.2) o1 o2) (S.E X v g _) (set_X (by omega)) (noSl_asg ns _ _ _)) (sole_sw rfl _ _ _) (noTup_st rfl (fun _ _ h => by cases h) X.env) (asg_one rfl X.env)).imp setK_of
          · exact ds_bad
    · exact ds_bad
  · exact ds_bad
def stepS (Γ : Gam) (c : Cmp) (v : V1) (s : Stmt) : SM := match s with
  | .Pass _ => mSkip
  | .Break _ => fun ρ => some (.bk ρ)
  | .Continue _ => fun ρ => some (.ct ρ)
  | .Return r _ => match r with
    | none => mRetN
    | some e => mRet (c.E v e)
  | .Expr e _ => if noComp e then mDrop (c.E v e) else sBad
  | .If t a b _ => mIfS (c.T v t) (blockM (c.S v) a) (blockM (c.S v) b)
  | .While t a b _ => match b with
    | [] => mWh (c.T v t) (blockM (c.S v) a) whB
    | _ => sBad
  | .For tg it a b _ => match b with
    | [] => if noSet it then mFor (iterM Γ (c.E v) v tg it) (c.G v tg).2 (blockM (c.S v) a) else sBad
    | _ => sBad
  | .Assign ts e _ => match ts with
    | [tg] => cAsg Γ c v tg e
    | _ => sBad
  | _ => sBad
theorem ds_step {Γ : Gam} {c : Cmp} (S : Snd Γ c) {v : V1} (g : Gd X Γ v) (s : Stmt) : DS X s (stepS Γ c v s) := by
  have po : PassesOwn (model X.prog X.w) X.A X.env X.xe := by rw [g.xe]; exact PassesOwn.never
  have hb := fun ss => dss_block (S.S X v g) ss
  unfold stepS
  split
  · exact ps_pass.imp next_of
  · exact ps_break.imp fun D σ H ⟨C, ρ, G, o, S', e, k⟩ => by cases e; exact k σ G H S' (Same.refl G)
  · exact ps_continue.imp fun D σ H ⟨C, ρ, G, o, S', e, k⟩ => by cases e; exact k σ G H S' (Same.refl G)
  · split
    · exact ds_retN
    · exact ds_ret (S.E X v g _)
  · split
    · rename_i h
      exact ds_expr (S.E X v g _) (noComp_sw h _ _ _)
    · exact ds_bad
  · exact ds_if (S.T X v g _) (hb _) (hb _)
  · split
    · exact (ps_while po (S.T X v g _) (hb _)).imp while_of
    · exact ds_bad
  · split
    · split
      · rename_i h
        exact (ps_for po g.calm (di_iter g (S.E X v g) _) (S.G X v g _) (hb _) (noSet_of h _)).imp for_of
      · exact ds_bad
    · exact ds_bad
  · split
    · exact ds_asg S g
    · exact ds_bad
  · exact ds_bad
def step (Γ : Gam) (c : Cmp) : Cmp := ⟨stepE Γ c, stepT c, stepG Γ c, stepS Γ c⟩
theorem Snd.step {Γ : Gam} {c : Cmp} (S : Snd Γ c) : Snd Γ (Z.step Γ c) := ⟨fun _ _ g e => de_step S g e, fun _ _ g e => dt_step S g e, fun _ _ g e => dg_step S g e, fun _ _ g e => ds_step S g e⟩
def comp (Γ : Gam) : Nat → Cmp
  | 0 => Cmp.bad
  | n + 1 => step Γ (comp Γ n)
theorem Snd.comp (Γ : Gam) : ∀ n, Snd Γ (Z.comp Γ n)
  | 0 => Snd.bad Γ
  | n + 1 => (Snd.comp Γ n).step
/-- what the text of a def means -/
def meaning (Γ : Gam) (st : Stmt) : SM := blockM ((comp Γ 40).S ⟨defScope st, none⟩) (defBody st)
end Z
end

section
set_option Elab.async false
set_option linter.all false
set_option maxRecDepth 100000
set_option maxHeartbeats 2000000
/-! ZQ: defs one after the other. -/
namespace Z
open PySem L2

/-- what the top has written, as far as a def at level k may use it -/
structure Wld (K : PySem.W.Frag) (P : Program) (w : World) (mg : Str → Option Value) (base : Heap) (k : Nat) (fs : List (Str × Sig)) (cs : List (Str × D)) : Prop where
  fs : ∀ f g, fs.lookup f = some g → ∃ a fd, mg f = some (.ref a) ∧ PySem.W.keepIn K (.ref a) = true ∧ FnG P w K mg base k a fd g.ps (spD ⟨K, P, w⟩ g.ms g.fn) ∧ Binds K fd g.ps [] ∧ ∀ ks ∈ g.kws, KwB K fd g.ps ks
  cs : ∀ x d, cs.lookup x = some d → ∃ v u, mg x = some u ∧ RelV v u ∧ ∀ G, Dq K G v d
  bl : ∀ x, x ∈ bltNames → mg x = none
section
variable {K : PySem.W.Frag} {P : Program} {w : World} {mg : Str → Option Value} {base : Heap}
theorem Wld.up {k : Nat} {fs : List (Str × Sig)} {cs : List (Str × D)} (W : Wld K P w mg base k fs cs) {j : Nat} (h : k ≤ j) : Wld K P w mg base j fs cs :=
  ⟨fun f g e => let ⟨a, fd, h1, h2, h3, h4⟩ := W.fs f g e; ⟨a, fd, h1, h2, h3.mono h, h4⟩, W.cs, W.bl⟩
/-- a def keeps what its text means -/
theorem Wld.fnok {k : Nat} {fs : List (Str × Sig)} {cs : List (Str × D)} (W : Wld K P w mg base k fs cs) {x qual : Str} {st : Stmt} {a : Addr} {fd : FuncData} {N : List Str} {g : Sig} (F : Fun K x qual st a fd) (S : FnScope N g.ps (defScope st)) (hl : g.ms.length = g.ps.length) (hN : g.ps.length ≤ N.length)
    (hf : ∀ ds z, g.fn ds = some z → runF g.ms N.length (meaning ⟨N, fs, cs⟩ st) ds = some z) : FnG P w K mg base (k + 1) a fd g.ps (spD ⟨K, P, w⟩ g.ms g.fn) := by
  refine (fng_ok F S hl hN fun cdv A outer s H E hG hr => ?_).imp (spD_imp (K := ⟨K, P, w⟩) hf)
  have gd : Gd (cxOf CX0 P w K mg base N qual (defScope st) a cdv A outer s H E).nox ⟨N, fs, cs⟩ ⟨defScope st, none⟩ :=
    ⟨rfl, S.nd, rfl, S.kind, rfl, by have := hr.un; show (A.deeper _).units + 200 < cLine; omega, fun f g e => let ⟨a, fd, h1, h2, h3, h4⟩ := W.fs f g e; ⟨a, fd, k, h1, h2, h3, hr, h4⟩, W.cs, W.bl, rfl, rfl, hG⟩
  exact dss_block ((Snd.comp ⟨N, fs, cs⟩ 40).S _ _ gd) (defBody st)
/-- one def more -/
theorem Wld.add {k : Nat} {fs : List (Str × Sig)} {cs : List (Str × D)} (W : Wld K P w mg base k fs cs) {x qual : Str} {st : Stmt} {a : Addr} {fd : FuncData} {N : List Str} {g : Sig} (F : Fun K x qual st a fd) (hm : mg x = some (.ref a)) (S : FnScope N g.ps (defScope st)) (hl : g.ms.length = g.ps.length) (hN : g.ps.length ≤ N.length)
    (hb : Binds K fd g.ps []) (hk : ∀ ks ∈ g.kws, KwB K fd g.ps ks) (hf : ∀ ds z, g.fn ds = some z → runF g.ms N.length (meaning ⟨N, fs, cs⟩ st) ds = some z) : Wld K P w mg base (k + 1) ((x, g) :: fs) cs := by
  refine ⟨fun f sg e => ?_, W.cs, W.bl⟩
  rw [List.lookup_cons] at e
  by_cases c : (f == x) = true
  · rw [c] at e
    cases e
    have := eq_of_beq c
    subst this
    exact ⟨a, fd, hm, F.kp, W.fnok F S hl hN hf, hb, hk⟩
  · have c' : (f == x) = false := by simpa using c
    rw [c'] at e
    obtain ⟨a, fd, h1, h2, h3, h4⟩ := W.fs f sg e
    exact ⟨a, fd, h1, h2, h3.mono (Nat.le_succ k), h4⟩
end
end Z
end

section
set_option Elab.async false
set_option linter.all false
set_option maxRecDepth 100000
set_option maxHeartbeats 2000000
/-! ZR: what the top has written; the law's head. -/
namespace Z
open PySem L2

/-- the written part without one address -/
def less (K : PySem.W.Frag) (a : Addr) : PySem.W.Frag := K.filter fun p => !(p.1 == a)
theorem less_at (a : Addr) : ∀ K : PySem.W.Frag, (less K a).lookup a = none
  | [] => rfl
  | (b, o) :: K => by
    by_cases h : b = a
    · subst h
      have e : less ((b, o) :: K) b = less K b := by simp [less]
      rw [e]; exact less_at b K
    · have h1 : (b == a) = false := by simpa using h
      have h2 : (a == b) = false := by simpa using fun z => h z.symm
      have e : less ((b, o) :: K) a = (b, o) :: less K a := by simp [less, h1]
      rw [e, List.lookup_cons, h2]
      exact less_at a K
theorem less_ne {a b : Addr} (h : b ≠ a) : ∀ K : PySem.W.Frag, (less K a).lookup b = K.lookup b
  | [] => rfl
  | (c, o) :: K => by
    by_cases hc : c = a
    · subst hc
      have e : less ((c, o) :: K) c = less K c := by simp [less]
      have h2 : (b == c) = false := by simpa using h
      rw [e, List.lookup_cons, h2]; exact less_ne h K
    · have h1 : (c == a) = false := by simpa using hc
      have e : less ((c, o) :: K) a = (c, o) :: less K a := by simp [less, h1]
      rw [e, List.lookup_cons, List.lookup_cons, less_ne h K]
theorem less_in {K : PySem.W.Frag} {h : Heap} (X : K.In h) (a : Addr) : (less K a).In h := fun b o e => by
  by_cases hb : b = a
  · subst hb; rw [less_at] at e; cases e
  · rw [less_ne hb] at e; exact X b o e
/-- all but a list is still told -/
def Part (K K' : PySem.W.Frag) : Prop := ∀ b o, K.lookup b = some o → (∀ vs n, o.data ≠ .seq vs n) → K'.lookup b = some o
theorem Part.less {K : PySem.W.Frag} {h : Heap} {a : Addr} {o : Obj} {vs : Array Value} {n : Nat} (X : K.In h) (e : h.get? a = some o) (d : o.data = .seq vs n) : Part K (less K a) := fun b u hu hn => by
  by_cases hb : b = a
  · subst hb
    have := X b u hu
    rw [e] at this
    cases this
    exact (hn _ _ d).elim
  · rw [less_ne hb]; exact hu
theorem Part.ns {K K' : PySem.W.Frag} (p : Part K K') {g : Addr} {x : Str} {z : Option Value} (h : PySem.W.nsIn K g x = some z) : PySem.W.nsIn K' g x = some z := by
  have h0 := h
  unfold PySem.W.nsIn at h ⊢
  split at h
  · rename_i c d es n sl q
    rw [p _ _ q (fun vs n z => by cases z)]
    exact h
  · cases h
theorem Part.cd {K K' : PySem.W.Frag} (p : Part K K') {cd : Value} {q : Str} (h : PySem.W.codeIn K cd q = true) : PySem.W.codeIn K' cd q = true := by
  unfold PySem.W.codeIn at h ⊢
  split at h
  · split at h
    · rename_i vs sl q
      rw [p _ _ q (fun vs n z => by cases z)]
      exact h
    · cases h
  · cases h
/-- a def of the top, as the top has written it -/
def TopD (K : PySem.W.Frag) (x : Str) (st : Stmt) : Prop := ∃ (f : Addr) (oc : Value) (od an : Option Addr) (sl : Array (Option Value)) (kV dc pm cd ct : Value),
  PySem.W.nsIn K mainGlobals x = some (some (.ref f)) ∧ K.lookup f = some ⟨oc, od, .func (PySem.W.fnOf x x (defArgs st) (defBody st) (defScope st) .none kV dc pm an cd ct), sl⟩ ∧ PySem.W.codeIn K cd x = true
theorem TopD.mk {K : PySem.W.Frag} {x : Str} {st : Stmt} {f : Addr} {oc : Value} {od an : Option Addr} {sl : Array (Option Value)} {kV dc pm cd ct : Value} (a : PySem.W.nsIn K mainGlobals x = some (some (.ref f)))
    (l : K.lookup f = some ⟨oc, od, .func (PySem.W.fnOf x x (defArgs st) (defBody st) (defScope st) .none kV dc pm an cd ct), sl⟩) (c : PySem.W.codeIn K cd x = true) : TopD K x st := ⟨f, oc, od, an, sl, kV, dc, pm, cd, ct, a, l, c⟩
theorem TopD.part {K K' : PySem.W.Frag} (p : Part K K') {x : Str} {st : Stmt} : TopD K x st → TopD K' x st
  | ⟨f, oc, od, an, sl, kV, dc, pm, cd, ct, a, l, c⟩ => ⟨f, oc, od, an, sl, kV, dc, pm, cd, ct, p.ns a, p _ _ l (fun vs n z => by cases z), p.cd c⟩
theorem keep_fn {K : PySem.W.Frag} {f : Addr} {oc : Value} {od : Option Addr} {fd : FuncData} {sl : Array (Option Value)} (l : K.lookup f = some ⟨oc, od, .func fd, sl⟩) : PySem.W.keepIn K (.ref f) = true := by
  unfold PySem.W.keepIn
  dsimp only
  rw [l]
section
variable {K : PySem.W.Frag} {P : Program} {w : World} {mg : Str → Option Value} {base : Heap}
/-- one def more, by its place among the top's -/
theorem Wld.addT {k : Nat} {fs : List (Str × Sig)} {cs : List (Str × D)} (W : Wld K P w mg base k fs cs) {h : Heap} (X : K.In h) (G : h.Ns mainGlobals mg) {x : Str} {st : Stmt} (t : TopD K x st) {N : List Str} (g : Sig) (S : FnScope N g.ps (defScope st))
    (hl : g.ms.length = g.ps.length) (hN : g.ps.length ≤ N.length)
    (hb : ∀ (kV doc pm : Value) (an : Option Addr) (cdv ct : Value) (us : List Value), us.length = g.ps.length → bindArgs (PySem.W.fnOf x x (defArgs st) (defBody st) (defScope st) .none kV doc pm an cdv ct) ⟨us, []⟩ = pure (g.ps.zip us))
    (hk : ∀ ks ∈ g.kws, ∀ (kV doc pm : Value) (an : Option Addr) (cdv ct : Value) (ws : List Value), ws.length = ks.length → bindArgs (PySem.W.fnOf x x (defArgs st) (defBody st) (defScope st) .none kV doc pm an cdv ct) ⟨[], ks.zip ws⟩ = pure (g.ps.zip (reord ks g.ps ws)))
    (hf : ∀ ds z, g.fn ds = some z → runF g.ms N.length (meaning ⟨N, fs, cs⟩ st) ds = some z) : Wld K P w mg base (k + 1) ((x, g) :: fs) cs := by
  obtain ⟨f, oc, od, an, sl, kV, dc, pm, cd, ct, a, l, c⟩ := t
  have F := fun_mk (st := st) l c (keep_fn l)
  exact W.add F (PySem.W.mg_of X G a) S hl hN (F.binds hb) (fun ks hks s ws hK hw => .of_eq (hk ks hks kV dc pm an cd ct ws hw)) hf
end
/-- constants of the top -/
def CsOk (K : PySem.W.Frag) (cs : List (Str × D)) : Prop := ∀ x d, cs.lookup x = some d → ∃ v u, PySem.W.nsIn K mainGlobals x = some (some u) ∧ RelV v u ∧ ∀ (K2 : PySem.W.Frag) G, Dq K2 G v d
theorem CsOk.nil {K : PySem.W.Frag} : CsOk K [] := fun x d e => by cases e
theorem CsOk.cons {K : PySem.W.Frag} {cs : List (Str × D)} {x : Str} {d : D} {v : V} {u : Value} (h : PySem.W.nsIn K mainGlobals x = some (some u)) (r : RelV v u) (q : ∀ (K2 : PySem.W.Frag) G, Dq K2 G v d) (C : CsOk K cs) : CsOk K ((x, d) :: cs) := fun y e z => by
  rw [List.lookup_cons] at z
  by_cases c : (y == x) = true
  · rw [c] at z; cases z
    cases eq_of_beq c
    exact ⟨v, u, h, r, q⟩
  · have c' : (y == x) = false := by simpa using c
    rw [c'] at z
    exact C y e z
theorem CsOk.str {K : PySem.W.Frag} {cs : List (Str × D)} {x z : Str} {t : Tok} (h : PySem.W.nsIn K mainGlobals x = some (some (.str z t))) (C : CsOk K cs) : CsOk K ((x, .str z) :: cs) := C.cons (v := .str z) h ⟨t, rfl⟩ fun _ _ => .str z
theorem CsOk.int {K : PySem.W.Frag} {cs : List (Str × D)} {x : Str} {z : Int} {t : Tok} (h : PySem.W.nsIn K mainGlobals x = some (some (.int z t))) (C : CsOk K cs) : CsOk K ((x, .int z) :: cs) := C.cons (v := .int z) h ⟨t, rfl⟩ fun _ _ => .int z
theorem CsOk.part {K K' : PySem.W.Frag} (p : Part K K') {cs : List (Str × D)} (h : CsOk K cs) : CsOk K' cs := fun x d e => by
  obtain ⟨v, u, a, b, c⟩ := h x d e
  exact ⟨v, u, p.ns a, b, c⟩
/-- no built-in is hidden by the top -/
def BlOk (K : PySem.W.Frag) : Prop := ∀ x ∈ bltNames, PySem.W.nsIn K mainGlobals x = some none
theorem BlOk.part {K K' : PySem.W.Frag} (p : Part K K') (h : BlOk K) : BlOk K' := fun x hx => p.ns (h x hx)
theorem bl_nil {K : PySem.W.Frag} : (∀ x ∈ ([] : List Str), PySem.W.nsIn K mainGlobals x = some none) := fun _ h => by cases h
theorem bl_cons {K : PySem.W.Frag} {x : Str} {xs : List Str} (h : PySem.W.nsIn K mainGlobals x = some none) (hs : ∀ y ∈ xs, PySem.W.nsIn K mainGlobals y = some none) : ∀ y ∈ x :: xs, PySem.W.nsIn K mainGlobals y = some none := fun y hy => by
  rcases List.mem_cons.mp hy with e | e
  · rw [e]; exact h
  · exact hs y e
/-- no def yet -/
theorem Wld.nil {K : PySem.W.Frag} {P : Program} {w : World} {mg : Str → Option Value} {base : Heap} {h : Heap} (X : K.In h) (G : h.Ns mainGlobals mg) {cs : List (Str × D)} (hc : CsOk K cs) (hb : BlOk K) : Wld K P w mg base 0 [] cs :=
  ⟨fun f g e => (by cases e), fun x d e => by
    obtain ⟨v, u, h1, h2, h3⟩ := hc x d e
    exact ⟨v, u, PySem.W.mg_of X G h1, h2, h3 K⟩, fun x hx => PySem.W.mg_none_of X G (hb x hx)⟩
/-- what a law's def must answer: True to every script -/
def Holds (f : Fn) (n : Nat) : Prop := ∀ ns : List Int, ns.length ≤ n → (∀ z ∈ ns, Builtin.Int.intBits z ≤ 1048576) → f [.list (ns.map PyData.int)] = some (.val (.bool true), [])
theorem dq_ints {K : PySem.W.Frag} {G : Hp} : ∀ ns : List Int, DqAll K G (ns.map V.int) (ns.map PyData.int)
  | [] => .nil
  | n :: ns => .cons (.int n) (dq_ints ns)
/-- the walk of a law from its def's function -/
theorem walkD {l : PySem.W.OpenLaw} {n k : Nat} {q : Program} {loose : List Str} {XP : (Str → Option Value) → Heap → Prop} {YP : World → Heap → Prop} {d : DefRec} {K : Params → PySem.W.Frag} {fs : List (Str × Sig)} {cs : List (Str × D)} {f : Fn} {st : Stmt} {N : List Str}
    (hn : l.most = some n) (hn2 : n ≤ sizeLine) (hdf : d.params.defaults = []) (hr : Room (k + 1) callerA) (hd : d.name = ("law" : Str))
    (hY : ∀ (w : World) (h : Heap), YP w h → (K w.params).In h)
    (S : FnScope N [("script" : Str)] (defScope st)) (hN : 1 ≤ N.length)
    (hb : ∀ (kV doc pm : Value) (an : Option Addr) (cdv ct u : Value), bindArgs (PySem.W.fnOf "law" "law" (defArgs st) (defBody st) (defScope st) .none kV doc pm an cdv ct) ⟨[u], []⟩ = pure [(("script" : Str), u)])
    (L : Holds f n) (hf : ∀ ds z, f ds = some z → runF [false] N.length (meaning ⟨N, fs, cs⟩ st) ds = some z)
    (D : ∀ w : World, TopD (K w.params) "law" st)
    (F : ∀ (w : World) (K' : PySem.W.Frag) (mg : Str → Option Value) (h base : Heap), K'.In h → h.Ns mainGlobals mg → Part (K w.params) K' → Wld K' l.prog w mg base k fs cs) :
    PySem.W.WalkO q loose XP YP l.row.toRowW d [] (fun f vs => PySem.call f vs) := by
  refine Att.attach_callB hn hdf fun w s₀ s₁ mg mb fa o pm cd doc a vs ns G Y ho hod hcd hmg hobj hints hlen hbits hg => ?_
  have KX := less_in (hY w _ Y) a
  have pt : Part (K w.params) (less (K w.params) a) := .less (hY w _ Y) hobj rfl
  rw [hd] at hmg
  obtain ⟨f', oc, od, an, sl, kV, dc, pm', cd', ct, e1, e2, e3⟩ := (D w).part pt
  have e := hmg.symm.trans (PySem.W.mg_of KX G.T.g e1)
  cases e
  refine law_g (sp := spD ⟨less (K w.params) a, l.prog, w⟩ [false] f) (x := "script") (fd := PySem.W.fnOf "law" "law" (defArgs st) (defBody st) (defScope st) .none kV dc pm' an cd' ct) KX (less_at _ _) G.T.g G.T.b G.T.builtins G.T.nolimit hg hobj hints (Nat.le_trans hlen hn2) hr (fun base hB hG => ?_) (fun s u => .of_eq (hb _ _ _ _ _ _ _)) (fun H hS => ?_)
  · exact (F w _ mg s₁.heap base KX G.T.g pt).fnok (g := { ps := ["script"], ms := [false], fn := f }) (fun_mk (st := st) e2 e3 (keep_fn e2)) S rfl hN hf
  · have hR : Rd H a (.lst (ns.map V.int)) := by
      rcases hS with h | ⟨o, its, n, h, _⟩
      · exact h
      · rw [less_at] at h; cases h
    exact ⟨H, [.list (ns.map PyData.int)], .val (.bool true), [], Same.refl H, .val (.dat (.lst hR (dq_ints ns))) .nil, L ns hlen hbits, fun v G' H' _ r _ => by
      cases r with
      | dat h => cases h; rfl
      | con h1 h2 => cases h2⟩
end Z
end

section
set_option Elab.async false
set_option linter.all false
set_option maxRecDepth 100000
set_option maxHeartbeats 2000000
/-! ZS: the meaning of a text as a code that can be compared. -/
namespace Z
open PySem L2

inductive CK where
  | int (i : Int) | str (s : Str) | bool (b : Bool) | non
  deriving DecidableEq, Repr
def CK.d : CK → D
  | .int i => .int i
  | .str s => .str s
  | .bool b => .bool b
  | .non => .none
inductive Cd where
  | bad
  | k (c : CK) | gc (i : Nat) | v (i : Nat) | tup (l : Cd) | lst (l : Cd) | dict0 | disp1 (a b : Cd)
  | bin (op : Operator) (a b : Cd) | neg (a : Cd) | notE (a : Cd) | andE (a b : Cd) | orE (a b : Cd)
  | cmp (op : CmpOp) (a b : Cd) | chn (o1 o2 : CmpOp) (a b c : Cd) | ife (t a b : Cd) | slice (a lo hi : Cd) | back (a : Cd) | ix (a b : Cd)
  | call (f : Nat) (l : Cd) | callK (f : Nat) (ks : List Str) (l : Cd) | b1 (n : Nat) (a : Cd) | isi (t : Nat) (a : Cd) | b2 (n : Nat) (l : Cd) | lenset (a : Cd)
  | lc (it g t e : Cd) (vs : List Nat) | lcH (i : Nat) (it g t e : Cd) (vs : List Nat) | dc (it g t a b : Cd) (vs : List Nat) | mut (n : Nat) (i : Nat) (l : Cd) | mutD (n : Nat) (i : Nat) (l : Cd) | idx (o e : Cd)
  | noP | part (a : Cd)
  | nil | cons (a l : Cd) | aVal (a l : Cd) | aChg (i : Nat) (l : Cd)
  | tst (a : Cd) | andT (a b : Cd) | orT (a b : Cd) | notT (a : Cd) | tru
  | items (a : Cd) | rng1 (l : Cd) | rng2 (l : Cd) | enum (l : Cd)
  | gName (i : Nat) | gTup (n : Nat) (l : Cd)
  | skip | seq (a b : Cd) | brk | cont | retN | ret (a : Cd) | drop (a : Cd) | ifS (t a b : Cd) | wh (t a : Cd) | for_ (it g b : Cd) | asg (i : Nat) (a : Cd) | asgT (g a : Cd) | par2 (i j : Nat) (a b : Cd) | setK (n : Nat) (i e : Cd)
  deriving DecidableEq, Repr

def b1T : List (D → Option Rs) := [dLen, dTuple, dList, dAll, dAny, dSum, dInt1, dSorted, dRepr, dMax1, dMin1]
def b2T : List (List D → Option Rs) := [dII2 fMax, dII2 fMin]
def tyT : List String := ["tuple", "str", "int", "bool", "list"]
def mutL : List (D → List D → Option (D × D)) := [mtAppend, mtExtend, orM mtPop mtPopAt, mtRemove]
def mutDL : List (D → List D → Option (D × D)) := [mtSetdef]
mutual
def dE (Γ : Gam) : Cd → M Res
  | .k c => mC c.d
  | .gc i => match Γ.cs[i]? with
    | some p => mC p.2
    | none => mBad
  | .v i => mV i
  | .tup l => mTup (dL Γ l)
  | .lst l => mLst (dL Γ l)
  | .dict0 => mDict0
  | .disp1 a b => mDisp1 (dE Γ a) (dE Γ b)
  | .bin op a b => match binT op with
    | some f => mOp f (dE Γ a) (dE Γ b)
    | none => mBad
  | .neg a => mUn dNeg (dE Γ a)
  | .notE a => mNotV (dE Γ a)
  | .andE a b => mAndV (dE Γ a) (dE Γ b)
  | .orE a b => mOrV (dE Γ a) (dE Γ b)
  | .cmp op a b => match cmpT op with
    | some f => mOp f (dE Γ a) (dE Γ b)
    | none => mBad
  | .chn o1 o2 a b c => match cmpT o1, cmpT o2 with
    | some f, some f' => mChain f f' (dE Γ a) (dE Γ b) (dE Γ c)
    | _, _ => mBad
  | .ife t a b => mIf (dT Γ t) (dE Γ a) (dE Γ b)
  | .slice a lo hi => mSlice (dE Γ a) (dP Γ lo) (dP Γ hi)
  | .back a => mUn dBack (dE Γ a)
  | .ix a b => mOp dIxX (dE Γ a) (dE Γ b)
  | .call f l => match Γ.fs[f]? with
    | some p => mCall p.2.ms p.2.fn (mArgs (dA Γ l))
    | none => mBad
  | .callK f ks l => match Γ.fs[f]? with
    | some p => mCallK p.2 ks (dL Γ l)
    | none => mBad
  | .b1 n a => match b1T[n]? with
    | some f => mUn f (dE Γ a)
    | none => mBad
  | .isi t a => match tyT[t]? with
    | some s => mUn (dIsi s) (dE Γ a)
    | none => mBad
  | .b2 n l => match b2T[n]? with
    | some f => mCBs f (dL Γ l)
    | none => mBad
  | .lenset a => mUn dLenSet (dE Γ a)
  | .lc it g t e vs => mLc (dI Γ it) (dG Γ g) (dT Γ t) (dE Γ e) vs
  | .lcH i it g t e vs => mLcH i (dI Γ it) (dG Γ g) (dT Γ t) (dE Γ e) vs
  | .dc it g t a b vs => mDc (dI Γ it) (dG Γ g) (dT Γ t) (dE Γ a) (dE Γ b) vs
  | .mut n i l => match mutL[n]? with
    | some f => mMut isList i f (dL Γ l)
    | none => mBad
  | .mutD n i l => match mutDL[n]? with
    | some f => mMut isDict i f (dL Γ l)
    | none => mBad
  | .idx o e => mIdx (dE Γ o) (dE Γ e)
  | _ => mBad
def dT (Γ : Gam) : Cd → M Bool
  | .tst a => mTest (dE Γ a)
  | .andT a b => mAndT (dT Γ a) (dT Γ b)
  | .orT a b => mOrT (dT Γ a) (dT Γ b)
  | .notT a => mNotT (dT Γ a)
  | .tru => fun ρ => some (true, ρ)
  | _ => mBad
def dL (Γ : Gam) : Cd → M (List D)
  | .nil => mNil
  | .cons a l => mCons (dE Γ a) (dL Γ l)
  | _ => mBad
def dA (Γ : Gam) : Cd → List ArgM
  | .aVal a l => .val (dE Γ a) :: dA Γ l
  | .aChg i l => .chg i :: dA Γ l
  | _ => []
def dP (Γ : Gam) : Cd → M (Option Int)
  | .part a => mPart (dE Γ a)
  | .noP => mNoP
  | _ => mBad
def dI (Γ : Gam) : Cd → M (List D)
  | .items a => mItems (dE Γ a)
  | .rng1 l => mRange1 (dL Γ l)
  | .rng2 l => mRange2 (dL Γ l)
  | .enum l => mEnum (dL Γ l)
  | _ => mBad
def dG (Γ : Gam) : Cd → (D → Rho → Option Rho)
  | .gName i => fName i
  | .gTup n l => fTup n (dGs Γ l)
  | _ => fun _ _ => none
def dGs (Γ : Gam) : Cd → (List D → Rho → Option Rho)
  | .nil => fNil
  | .cons a l => fCons (dG Γ a) (dGs Γ l)
  | _ => fun _ _ => none
end
def dS (Γ : Gam) : Cd → SM
  | .skip => mSkip
  | .seq a b => mSeq (dS Γ a) (dS Γ b)
  | .brk => fun ρ => some (.bk ρ)
  | .cont => fun ρ => some (.ct ρ)
  | .retN => mRetN
  | .ret a => mRet (dE Γ a)
  | .drop a => mDrop (dE Γ a)
  | .ifS t a b => mIfS (dT Γ t) (dS Γ a) (dS Γ b)
  | .wh t a => mWh (dT Γ t) (dS Γ a) whB
  | .for_ it g b => mFor (dI Γ it) (dG Γ g) (dS Γ b)
  | .asg i a => mAsg i (dE Γ a)
  | .asgT g a => mAsgT (dG Γ g) (dE Γ a)
  | .par2 i j a b => mPar2 i j (dE Γ a) (dE Γ b)
  | .setK n i e => mSetK n setD (dE Γ i) (dE Γ e)
  | _ => sBad

/-! ### from the text to the code -/
structure CC where
  E : V1 → Expr → Cd
  T : V1 → Expr → Cd
  G : V1 → Expr → List Nat × Cd
  S : V1 → Stmt → Cd
def CC.cmp (Γ : Gam) (k : CC) : Cmp := ⟨fun v e => dE Γ (k.E v e), fun v e => dT Γ (k.T v e), fun v e => ((k.G v e).1, dG Γ (k.G v e).2), fun v s => dS Γ (k.S v s)⟩
def ixL {α : Type} : List (Str × α) → Str → Option Nat
  | [], _ => none
  | (y, _) :: r, x => if x == y then some 0 else (ixL r x).map (· + 1)
theorem ixL_ok {α : Type} {x : Str} : ∀ {l : List (Str × α)}, l.lookup x = match ixL l x with
    | some i => (l[i]?).map (·.2)
    | none => none
  | [] => rfl
  | (y, a) :: r => by
    rw [List.lookup_cons]
    unfold ixL
    by_cases c : (x == y) = true
    · rw [c]; rfl
    · have c' : (x == y) = false := by simpa using c
      rw [c', ixL_ok (l := r)]
      cases ixL r x <;> rfl
theorem ixL_get {α : Type} {x : Str} : ∀ {l : List (Str × α)} {i : Nat}, ixL l x = some i → ∃ a, l[i]? = some (x, a)
  | [], _, h => by cases h
  | (y, a) :: r, i, h => by
    unfold ixL at h
    by_cases c : (x == y) = true
    · rw [if_pos c] at h; cases h; exact ⟨a, by simp [eq_of_beq c]⟩
    · rw [if_neg c, Option.map_eq_some_iff] at h
      obtain ⟨j, hj, rfl⟩ := h
      obtain ⟨b, hb⟩ := ixL_get hj
      exact ⟨b, by simpa using hb⟩
section
variable (Γ : Gam)
def kName (v : V1) (x : Str) : Cd := if okN x then if visB v.sc x then match ixOf Γ.N x with
      | some i => .v i
      | none => .bad
    else if glB v.sc x then match ixL Γ.cs x with
      | some i => .gc i
      | none => .bad
    else .bad
  else .bad
def kConst : Const → Cd
  | .int i => .k (.int i)
  | .str x => .k (.str x)
  | .bool b => .k (.bool b)
  | .none => .k .non
  | _ => .bad
def kList (f : Expr → Cd) : List Expr → Cd
  | [] => .nil
  | e :: es => if plain e then .cons (f e) (kList f es) else .bad
def kBoolE (f : Expr → Cd) (op : BoolOp) : List Expr → Cd
  | [] => .bad
  | [a] => f a
  | a :: b :: r => match op with
    | .And => .andE (f a) (kBoolE f op (b :: r))
    | .Or => .orE (f a) (kBoolE f op (b :: r))
def kBoolT (f : Expr → Cd) (op : BoolOp) : List Expr → Cd
  | [] => .bad
  | [a] => f a
  | a :: b :: r => match op with
    | .And => .andT (f a) (kBoolT f op (b :: r))
    | .Or => .orT (f a) (kBoolT f op (b :: r))
def kArgs (v : V1) (f : Expr → Cd) : List Bool → List Expr → Option Cd
  | [], [] => some .nil
  | false :: ms, e :: es => if plain e then match kArgs v f ms es with
      | some as => some (.aVal (f e) as)
      | none => none
    else none
  | true :: ms, e :: es => match e with
    | .Name x _ => if okN x && visB v.sc x then match ixOf Γ.N x, kArgs v f ms es with
        | some i, some as => some (.aChg i as)
        | _, _ => none
      else none
    | _ => none
  | _, _ => none
def kCallF (v : V1) (f : Expr → Cd) (n : Nat) (es : List Expr) : Cd := match Γ.fs[n]? with
  | some p => match kArgs Γ v f p.2.ms es with
    | some as => if decide (p.2.ms.length = p.2.ps.length) then .call n as else .bad
    | none => .bad
  | none => .bad
def kKw (f : Expr → Cd) : List Keyword → Cd
  | [] => .nil
  | ⟨_, e, _⟩ :: kws => .cons (f e) (kKw f kws)
def kCallKw (v : V1) (f : Expr → Cd) (x : Str) (kws : List Keyword) : Cd := if glB v.sc x && okN x then match ixL Γ.fs x with
    | some n => match Γ.fs[n]?, kwNames kws with
      | some p, some ks => if decide (ks ∈ p.2.kws) then .callK n ks (kKw f kws) else .bad
      | _, _ => .bad
    | none => .bad
  else .bad
def kB1 (x : Str) : Option Nat :=
  if x == "len" then some 0 else if x == "tuple" then some 1 else if x == "list" then some 2 else if x == "all" then some 3 else if x == "any" then some 4 else
  if x == "sum" then some 5 else if x == "int" then some 6 else if x == "sorted" then some 7 else if x == "repr" then some 8 else if x == "max" then some 9 else if x == "min" then some 10 else none
def kB2 (x : Str) : Option Nat := if x == "max" then some 0 else if x == "min" then some 1 else none
def kTy (x : Str) : Option Nat := if x == "tuple" then some 0 else if x == "str" then some 1 else if x == "int" then some 2 else if x == "bool" then some 3 else if x == "list" then some 4 else none
def kMut (x : Str) : Option Nat := if x == "append" then some 0 else if x == "extend" then some 1 else if x == "pop" then some 2 else if x == "remove" then some 3 else none
def kIter (f : Expr → Cd) (v : V1) (tg : Expr) (e : Expr) : Cd := match e with
  | .Call (.Name x _) [a] [] _ => if x == "range" then if glB v.sc x && plain a then .rng1 (kList f [a]) else .bad
    else if x == "enumerate" then match tg with
      | .Tuple _ _ _ => if glB v.sc x && plain a then .enum (kList f [a]) else .bad
      | _ => .bad
    else .items (f e)
  | .Call (.Name x _) [a, b] [] _ => if x == "range" then if glB v.sc x && plain a && plain b then .rng2 (kList f [a, b]) else .bad else .items (f e)
  | _ => .items (f e)
def kTests (f : Expr → Cd) : List Expr → Cd
  | [] => .tru
  | [c] => f c
  | _ => .bad
def kLc (c : CC) (v : V1) (elt : Expr) (gn : Comprehension) (scope : Scope) : Cd :=
  if decide (gn.is_async = 0) && blkB v.sc scope && noSet gn.iter && subIx (c.G (v.inn scope) gn.target).1 ((ownOf Γ.N scope.names).map (·.2)) then
    match hidOf Γ v gn.iter with
    | some i => .lcH i (kIter (c.E v) v gn.target gn.iter) (c.G (v.inn scope) gn.target).2 (kTests (c.T (v.inn scope)) gn.ifs) (c.E (v.inn scope) elt) ((ownOf Γ.N scope.names).map (·.2))
    | none => .lc (kIter (c.E v) v gn.target gn.iter) (c.G (v.inn scope) gn.target).2 (kTests (c.T (v.inn scope)) gn.ifs) (c.E (v.inn scope) elt) ((ownOf Γ.N scope.names).map (·.2))
  else .bad
def kDc (c : CC) (v : V1) (kx vx : Expr) (gn : Comprehension) (scope : Scope) : Cd :=
  if decide (gn.is_async = 0) && blkB v.sc scope && noSet gn.iter && subIx (c.G (v.inn scope) gn.target).1 ((ownOf Γ.N scope.names).map (·.2)) then
    .dc (kIter (c.E v) v gn.target gn.iter) (c.G (v.inn scope) gn.target).2 (kTests (c.T (v.inn scope)) gn.ifs) (c.E (v.inn scope) kx) (c.E (v.inn scope) vx) ((ownOf Γ.N scope.names).map (·.2))
  else .bad
def kMeth (c : CC) (v : V1) (o : Expr) (name : Str) (args : List Expr) (ln : Bool) : Cd := match args with
  | [] => match o with
    | .Name x _ => if (name == "pop") && ln && okN x && visB v.sc x then match ixOf Γ.N x with
        | some i => .mut 2 i .nil
        | none => .bad
      else .bad
    | _ => .bad
  | [e] => if (name == "index") then if ln && baseB o && plain e then .idx (c.E v o) (c.E v e) else .bad else match o with
    | .Name x _ => match kMut name with
      | some g => if ln && okN x && visB v.sc x && plain e then match ixOf Γ.N x with
          | some i => .mut g i (kList (c.E v) [e])
          | none => .bad
        else .bad
      | none => .bad
    | _ => .bad
  | [e, f] => match o with
    | .Name x _ => if (name == "setdefault") && ln && okN x && visB v.sc x && plain e && plain f then match ixOf Γ.N x with
        | some i => .mutD 0 i (kList (c.E v) [e, f])
        | none => .bad
      else .bad
    | _ => .bad
  | _ => .bad
def kCallN (c : CC) (v : V1) (x : Str) (args : List Expr) : Cd :=
  if glB v.sc x && okN x then match ixL Γ.fs x with
    | some n => kCallF Γ v (c.E v) n args
    | none => match args with
      | [e] => match kB1 x with
        | some f => if plain e then .b1 f (c.E v e) else .bad
        | none => .bad
      | [a, b] => if x == "isinstance" then match b with
          | .Name T _ => match kTy T with
            | some t => if glB v.sc T && plain a then .isi t (c.E v a) else .bad
            | none => .bad
          | _ => .bad
        else match kB2 x with
          | some f => if plain a && plain b then .b2 f (kList (c.E v) [a, b]) else .bad
          | none => .bad
      | _ => .bad
  else .bad
def kLenSet (c : CC) (v : V1) (a : Expr) : Cd := if glB v.sc "len" && glB v.sc "set" && plain a then .lenset (c.E v a) else .bad
def kCall (c : CC) (v : V1) (f : Expr) (args : List Expr) (kws : List Keyword) (cpos : Pos) : Cd := match kws with
  | [] => match f with
    | .Name x _ => match args with
      | [.Call (.Name y _) [a] [] _] => if x == "len" && y == "set" then kLenSet c v a else kCallN Γ c v x args
      | _ => kCallN Γ c v x args
    | .Attribute o name apos => kMeth Γ c v o name args (apos.endLine == cpos.line)
    | _ => .bad
  | k :: ks => match f, args with
    | .Name x _, [] => kCallKw Γ v (c.E v) x (k :: ks)
    | _, _ => .bad
def kPart (f : Expr → Cd) : Option Expr → Cd
  | none => .noP
  | some e => .part (f e)
def kSub (c : CC) (v : V1) (a b : Expr) : Cd := match b with
  | .Slice lo hi st _ => match st with
    | none => .slice (c.E v a) (kPart (c.E v) lo) (kPart (c.E v) hi)
    | some st => match lo, hi with
      | none, none => if isOne st then .back (c.E v a) else .bad
      | _, _ => .bad
  | _ => .ix (c.E v a) (c.E v b)
def kCmp (c : CC) (v : V1) (a : Expr) (ops : List CmpOp) (bs : List Expr) : Cd := match ops, bs with
  | [op], [b] => if behindInMarks op b then .bad else .cmp op (c.E v a) (c.E v b)
  | [op, op'], [b, d] => if lastMarks [op, op'] [b, d] then .bad else .chn op op' (c.E v a) (c.E v b) (c.E v d)
  | _, _ => .bad
def kE (c : CC) (v : V1) (e : Expr) : Cd := match e with
  | .Name x _ => kName Γ v x
  | .Constant k _ _ => kConst k
  | .Tuple es _ _ => .tup (kList (c.E v) es)
  | .List es _ => .lst (kList (c.E v) es)
  | .Dict ks vs _ => match ks, vs with
    | [], [] => .dict0
    | [some k], [w] => .disp1 (c.E v k) (c.E v w)
    | _, _ => .bad
  | .BinOp a op b _ => .bin op (c.E v a) (c.E v b)
  | .UnaryOp op a _ => match op with
    | .Not => .notE (c.E v a)
    | .USub => .neg (c.E v a)
    | _ => .bad
  | .BoolOp op es _ => kBoolE (c.E v) op es
  | .Compare a ops bs _ => kCmp c v a ops bs
  | .IfExp t a b _ => .ife (c.T v t) (c.E v a) (c.E v b)
  | .Subscript a b _ => kSub c v a b
  | .Call f args kws pos => kCall Γ c v f args kws pos
  | .ListComp elt gs scope _ => match gs with
    | [gn] => kLc Γ c v elt gn scope
    | _ => .bad
  | .DictComp k w gs scope _ => match gs with
    | [gn] => kDc Γ c v k w gn scope
    | _ => .bad
  | _ => .bad
def kT (c : CC) (v : V1) (e : Expr) : Cd := match e with
  | .UnaryOp op a _ => match op with
    | .Not => .notT (c.T v a)
    | _ => .bad
  | .BoolOp op es _ => kBoolT (c.T v) op es
  | .Compare a ops bs _ => .tst (kCmp c v a ops bs)
  | e => if valT e then .tst (c.E v e) else .bad
def kTgs (f : Expr → List Nat × Cd) : List Expr → List Nat × Cd
  | [] => ([], .nil)
  | e :: es => if plain e then ((f e).1 ++ (kTgs f es).1, .cons (f e).2 (kTgs f es).2) else ([], .bad)
def kG (c : CC) (v : V1) (e : Expr) : List Nat × Cd := match e with
  | .Name x _ => if stB v x then match ixOf Γ.N x with
      | some i => ([i], .gName i)
      | none => ([], .bad)
    else ([], .bad)
  | .Tuple es _ _ => if es.all plain then ((kTgs (c.G v) es).1, .gTup es.length (kTgs (c.G v) es).2) else ([], .bad)
  | _ => ([], .bad)
def kAsgN (c : CC) (v : V1) (x : Str) (p : Pos) (e : Expr) : Cd := if stB v x then match ixOf Γ.N x with
    | some i => match swB v x p e with
      | false => .asg i (c.E v e)
      | true => match e with
        | .ListComp elt [gn] scope _ => .asg i (kLc Γ c v elt gn scope)
        | _ => .bad
    | none => .bad
  else .bad
def kPar (c : CC) (v : V1) (x y : Str) (px py : Pos) (a b : Expr) : Cd := if parB v x y px py a b then match ixOf Γ.N x, ixOf Γ.N y with
    | some i, some j => if i = j then .bad else .par2 i j (c.E v a) (c.E v b)
    | _, _ => .bad
  else .bad
def kAsg (c : CC) (v : V1) (tg e : Expr) : Cd := match tg with
  | .Name x p => kAsgN Γ c v x p e
  | .Tuple ts _ _ => match e with
    | .Tuple vs _ _ => match ts, vs with
      | [.Name x px, .Name y py], [a, b] => kPar Γ c v x y px py a b
      | _, _ => .bad
    | _ => .asgT (c.G v tg).2 (c.E v e)
  | .Subscript o i _ => match o with
    | .Name x _ => if okN x && visB v.sc x then match ixOf Γ.N x with
        | some n => if noSl i then .setK n (c.E v i) (c.E v e) else .bad
        | none => .bad
      else .bad
    | _ => .bad
  | _ => .bad
def kBlock (f : Stmt → Cd) : List Stmt → Cd
  | [] => .skip
  | s :: ss => .seq (f s) (kBlock f ss)
def kS (c : CC) (v : V1) (s : Stmt) : Cd := match s with
  | .Pass _ => .skip
  | .Break _ => .brk
  | .Continue _ => .cont
  | .Return r _ => match r with
    | none => .retN
    | some e => .ret (c.E v e)
  | .Expr e _ => if noComp e then .drop (c.E v e) else .bad
  | .If t a b _ => .ifS (c.T v t) (kBlock (c.S v) a) (kBlock (c.S v) b)
  | .While t a b _ => match b with
    | [] => .wh (c.T v t) (kBlock (c.S v) a)
    | _ => .bad
  | .For tg it a b _ => match b with
    | [] => if noSet it then .for_ (kIter (c.E v) v tg it) (c.G v tg).2 (kBlock (c.S v) a) else .bad
    | _ => .bad
  | .Assign ts e _ => match ts with
    | [tg] => kAsg Γ c v tg e
    | _ => .bad
  | _ => .bad
def CC.step (c : CC) : CC := ⟨kE Γ c, kT c, kG Γ c, kS Γ c⟩
def CC.bad : CC := ⟨fun _ _ => .bad, fun _ _ => .bad, fun _ _ => ([], .bad), fun _ _ => .bad⟩
def codeN : Nat → CC
  | 0 => CC.bad
  | n + 1 => (codeN n).step Γ
/-- the code of a def's text -/
def code (st : Stmt) : Cd := kBlock ((codeN Γ 40).S ⟨defScope st, none⟩) (defBody st)
end
end Z
end

section
set_option Elab.async false
set_option linter.all false
set_option maxRecDepth 100000
set_option maxHeartbeats 4000000
/-! ZT: a text means what its code means. -/
namespace Z
open PySem L2
variable {Γ : Gam} {k : CC}
theorem name_k {v : V1} {x : Str} : cName Γ v x = dE Γ (kName Γ v x) := by
  unfold cName kName
  by_cases c : okN x = true
  · rw [if_pos c, if_pos c]
    by_cases c1 : visB v.sc x = true
    · rw [if_pos c1, if_pos c1]
      cases ixOf Γ.N x <;> simp only [dE]
    · rw [if_neg c1, if_neg c1]
      by_cases c2 : glB v.sc x = true
      · rw [if_pos c2, if_pos c2, ixL_ok]
        cases q : ixL Γ.cs x with
        | none => simp only [dE]
        | some i =>
          obtain ⟨d, hd⟩ := ixL_get q
          simp only [dE, hd, Option.map_some]
      · rw [if_neg c2, if_neg c2]; simp only [dE]
  · rw [if_neg c, if_neg c]; simp only [dE]
theorem const_k {c : Const} : cConst c = dE Γ (kConst c) := by
  cases c <;> simp only [cConst, kConst, dE, CK.d]
theorem list_k {f : Expr → Cd} : ∀ {es : List Expr}, listM (fun e => dE Γ (f e)) es = dL Γ (kList f es)
  | [] => by simp only [listM, kList, dL]
  | e :: es => by
    unfold listM kList
    by_cases c : plain e = true
    · rw [if_pos c, if_pos c, list_k (es := es)]; simp only [dL]
    · rw [if_neg c, if_neg c]; simp only [dL]
theorem boolE_k {f : Expr → Cd} {op : BoolOp} : ∀ {es : List Expr}, boolE (fun e => dE Γ (f e)) op es = dE Γ (kBoolE f op es)
  | [] => by simp only [boolE, kBoolE, dE]
  | [a] => by simp only [boolE, kBoolE]
  | a :: b :: r => by
    cases op <;> simp only [boolE, kBoolE, dE, boolE_k (es := b :: r)]
theorem boolT_k {f : Expr → Cd} {op : BoolOp} : ∀ {es : List Expr}, boolT (fun e => dT Γ (f e)) op es = dT Γ (kBoolT f op es)
  | [] => by simp only [boolT, kBoolT, dT]
  | [a] => by simp only [boolT, kBoolT]
  | a :: b :: r => by
    cases op <;> simp only [boolT, kBoolT, dT, boolT_k (es := b :: r)]
theorem args_k {v : V1} {f : Expr → Cd} : ∀ {ms : List Bool} {es : List Expr}, argMs Γ v (fun e => dE Γ (f e)) ms es = (kArgs Γ v f ms es).map (dA Γ)
  | [], [] => by simp only [argMs, kArgs, Option.map_some, dA]
  | [], _ :: _ => by simp only [argMs, kArgs, Option.map_none]
  | false :: _, [] => by simp only [argMs, kArgs, Option.map_none]
  | true :: _, [] => by simp only [argMs, kArgs, Option.map_none]
  | false :: ms, e :: es => by
    unfold argMs kArgs
    by_cases c : plain e = true
    · rw [if_pos c, if_pos c, args_k (ms := ms) (es := es)]
      cases kArgs Γ v f ms es <;> simp only [Option.map_some, Option.map_none, dA]
    · rw [if_neg c, if_neg c]; rfl
  | true :: ms, e :: es => by
    cases e with
    | Name x p =>
      simp only [argMs, kArgs]
      by_cases c : (okN x && visB v.sc x) = true
      · rw [if_pos c, if_pos c, args_k (ms := ms) (es := es)]
        cases ixOf Γ.N x <;> cases kArgs Γ v f ms es <;> simp only [Option.map_some, Option.map_none, dA]
      · rw [if_neg c, if_neg c]; rfl
    | _ => simp only [argMs, kArgs, Option.map_none]
theorem callF_k {v : V1} {f : Expr → Cd} {n : Nat} {x : Str} {g : Sig} {es : List Expr} (h : Γ.fs[n]? = some (x, g)) : callF Γ v (fun e => dE Γ (f e)) g es = dE Γ (kCallF Γ v f n es) := by
  unfold callF kCallF
  rw [h]
  dsimp only
  rw [args_k]
  cases kArgs Γ v f g.ms es with
  | none => simp only [Option.map_none, dE]
  | some as =>
    simp only [Option.map_some]
    by_cases c : decide (g.ms.length = g.ps.length) = true
    · rw [if_pos c, if_pos c]; simp only [dE, h]
    · rw [if_neg c, if_neg c]; simp only [dE]
theorem kw_k {f : Expr → Cd} : ∀ {kws : List Keyword}, kwL (fun e => dE Γ (f e)) kws = dL Γ (kKw f kws)
  | [] => by simp only [kwL, kKw, dL]
  | ⟨_, e, _⟩ :: kws => by simp only [kwL, kKw, dL, kw_k (kws := kws)]
theorem callKw_k {v : V1} {f : Expr → Cd} {x : Str} {kws : List Keyword} : callKw Γ v (fun e => dE Γ (f e)) x kws = dE Γ (kCallKw Γ v f x kws) := by
  unfold callKw kCallKw
  by_cases c : (glB v.sc x && okN x) = true
  · rw [if_pos c, if_pos c, ixL_ok]
    cases q : ixL Γ.fs x with
    | none => simp only [dE]
    | some n =>
      obtain ⟨g, hg⟩ := ixL_get q
      dsimp only
      rw [hg]
      simp only [Option.map_some]
      cases kwNames kws with
      | none => simp only [dE]
      | some ks =>
        dsimp only
        by_cases c2 : decide (ks ∈ g.kws) = true
        · rw [if_pos c2, if_pos c2, kw_k]; simp only [dE, hg]
        · rw [if_neg c2, if_neg c2]; simp only [dE]
  · rw [if_neg c, if_neg c]; simp only [dE]
theorem ite_bind {β : Type} {c : Prop} [Decidable c] {o : Option Nat} {n : Nat} {F : Nat → Option β} {a r : Option β} (h1 : a = F n) (h2 : r = o.bind F) : (if c then a else r) = (if c then some n else o).bind F := by
  split
  · exact h1
  · exact h2
theorem b1_k {x : Str} : blt1 x = (kB1 x).bind (b1T[·]?) := by
  unfold blt1 kB1
  repeat (refine ite_bind rfl ?_)
  rfl
theorem b2_k {x : Str} : blt2 x = (kB2 x).bind (b2T[·]?) := by
  unfold blt2 kB2
  repeat (refine ite_bind rfl ?_)
  rfl
theorem ty_k {x : Str} : tyOf x = (kTy x).bind (tyT[·]?) := by
  unfold tyOf kTy
  repeat (refine ite_bind rfl ?_)
  rfl
theorem mut_k {x : Str} : mutT x = (kMut x).bind (mutL[·]?) := by
  unfold mutT kMut
  repeat (refine ite_bind rfl ?_)
  rfl
theorem ite_lt {c : Prop} [Decidable c] {o : Option Nat} {m n : Nat} {P : Nat → Prop} (h1 : P m) (h2 : o = some n → P n) (h : (if c then some m else o) = some n) : P n := by
  split at h
  · cases h; exact h1
  · exact h2 h
theorem b1_lt {x : Str} {n : Nat} (h : kB1 x = some n) : ∃ f, b1T[n]? = some f := by
  unfold kB1 at h
  revert h
  repeat (refine ite_lt (P := fun n => ∃ f, b1T[n]? = some f) ⟨_, rfl⟩ ?_)
  intro h
  cases h
theorem b2_lt {x : Str} {n : Nat} (h : kB2 x = some n) : ∃ f, b2T[n]? = some f := by
  unfold kB2 at h
  revert h
  repeat (refine ite_lt (P := fun n => ∃ f, b2T[n]? = some f) ⟨_, rfl⟩ ?_)
  intro h
  cases h
theorem ty_lt {x : Str} {n : Nat} (h : kTy x = some n) : ∃ f, tyT[n]? = some f := by
  unfold kTy at h
  revert h
  repeat (refine ite_lt (P := fun n => ∃ f, tyT[n]? = some f) ⟨_, rfl⟩ ?_)
  intro h
  cases h
theorem mut_lt {x : Str} {n : Nat} (h : kMut x = some n) : ∃ f, mutL[n]? = some f := by
  unfold kMut at h
  revert h
  repeat (refine ite_lt (P := fun n => ∃ f, mutL[n]? = some f) ⟨_, rfl⟩ ?_)
  intro h
  cases h
theorem if_k {α β : Type} {F : α → β} {c : Prop} [Decidable c] {a b : α} : F (if c then a else b) = if c then F a else F b := by
  split <;> rfl
theorem iter_k {f : Expr → Cd} {v : V1} {tg e : Expr} : iterM Γ (fun e => dE Γ (f e)) v tg e = dI Γ (kIter f v tg e) := by
  unfold iterM kIter
  split
  · rename_i x p a q
    rw [if_k (F := dI Γ), if_k (F := dI Γ), if_k (F := dI Γ)]
    congr 1
    · simp only [dI, list_k]
    · congr 1
      · split
        · simp only [if_k (F := dI Γ), dI, list_k]
        · simp only [dI]
  · rename_i x p a b q
    simp only [if_k (F := dI Γ), dI, list_k]
  · rename_i h1 h2
    first
    | (simp only [dI]; done)
    | (split
       · exact absurd rfl (h1 _ _ _ _)
       · exact absurd rfl (h2 _ _ _ _ _)
       · simp only [dI])
theorem tests_k {f : Expr → Cd} {es : List Expr} : testsM (fun e => dT Γ (f e)) es = dT Γ (kTests f es) := by
  match es with
  | [] => simp only [testsM, kTests, dT]
  | [c] => simp only [testsM, kTests]
  | _ :: _ :: _ => simp only [testsM, kTests, dT]
theorem lc_k {v : V1} {elt : Expr} {gn : Comprehension} {scope : Scope} : cLc Γ (k.cmp Γ) v elt gn scope = dE Γ (kLc Γ k v elt gn scope) := by
  unfold cLc kLc
  rw [if_k (F := dE Γ)]
  cases hidOf Γ v gn.iter <;> simp only [CC.cmp, dE, iter_k, tests_k]
theorem dc_k {v : V1} {kx vx : Expr} {gn : Comprehension} {scope : Scope} : cDc Γ (k.cmp Γ) v kx vx gn scope = dE Γ (kDc Γ k v kx vx gn scope) := by
  unfold cDc kDc
  rw [if_k (F := dE Γ)]
  simp only [CC.cmp, dE, iter_k, tests_k]
end Z
end

section
set_option Elab.async false
set_option linter.all false
set_option maxRecDepth 100000
set_option maxHeartbeats 400000
/-! ZU: a text means what its code means (2). -/
namespace Z
open PySem L2
variable {Γ : Gam} {k : CC}
theorem meth_k {v : V1} {o : Expr} {name : Str} {args : List Expr} {ln : Bool} : cMeth Γ (k.cmp Γ) v o name args ln = dE Γ (kMeth Γ k v o name args ln) := by
  unfold cMeth kMeth
  match args with
  | [] =>
    cases o with
    | Name x p =>
      dsimp only
      rw [if_k (F := dE Γ)]
      congr 1
      · cases ixOf Γ.N x with
        | none => simp only [dE]
        | some i => simp only [dE, dL]; rfl
    | _ => simp only [dE]
  | [e] =>
    dsimp only
    rw [if_k (F := dE Γ)]
    congr 1
    · rw [if_k (F := dE Γ)]; simp only [dE, CC.cmp]
    · cases o with
      | Name x p =>
        dsimp only
        rw [mut_k]
        cases q : kMut name with
        | none => simp only [Option.bind_none, dE]
        | some n =>
          obtain ⟨f, hf⟩ := mut_lt q
          simp only [Option.bind_some, hf]
          rw [if_k (F := dE Γ)]
          congr 1
          · cases ixOf Γ.N x with
            | none => simp only [dE]
            | some i => simp only [dE, hf, CC.cmp, list_k]
      | _ => simp only [dE]
  | [e, f] =>
    dsimp only
    cases o with
    | Name x p =>
      dsimp only
      rw [if_k (F := dE Γ)]
      congr 1
      · cases ixOf Γ.N x with
        | none => simp only [dE]
        | some i => simp only [dE, mutDL, CC.cmp, list_k]; rfl
    | _ => simp only [dE]
  | _ :: _ :: _ :: _ => simp only [dE]
theorem callN_k {v : V1} {x : Str} {args : List Expr} : cCallN Γ (k.cmp Γ) v x args = dE Γ (kCallN Γ k v x args) := by
  unfold cCallN kCallN
  rw [if_k (F := dE Γ), ixL_ok]
  congr 1
  · cases q : ixL Γ.fs x with
    | some n =>
      obtain ⟨g, hg⟩ := ixL_get q
      dsimp only
      rw [hg]
      simp only [Option.map_some]
      exact callF_k hg
    | none =>
      dsimp only
      match args with
      | [] => simp only [dE]
      | [e] =>
        dsimp only
        rw [b1_k]
        cases q : kB1 x with
        | none => simp only [Option.bind_none, dE]
        | some n =>
          obtain ⟨f, hf⟩ := b1_lt q
          simp only [Option.bind_some, hf]
          rw [if_k (F := dE Γ)]
          simp only [dE, hf, CC.cmp]
      | [a, b] =>
        dsimp only
        rw [if_k (F := dE Γ)]
        congr 1
        · cases b with
          | Name T p =>
            dsimp only
            rw [ty_k]
            cases q : kTy T with
            | none => simp only [Option.bind_none, dE]
            | some n =>
              obtain ⟨f, hf⟩ := ty_lt q
              simp only [Option.bind_some, hf]
              rw [if_k (F := dE Γ)]
              simp only [dE, hf, CC.cmp]
          | _ => simp only [dE]
        · rw [b2_k]
          cases q : kB2 x with
          | none => simp only [Option.bind_none, dE]
          | some n =>
            obtain ⟨f, hf⟩ := b2_lt q
            simp only [Option.bind_some, hf]
            rw [if_k (F := dE Γ)]
            simp only [dE, hf, CC.cmp, list_k]
      | _ :: _ :: _ :: _ => simp only [dE]
theorem lenSet_k {v : V1} {a : Expr} : cLenSet (k.cmp Γ) v a = dE Γ (kLenSet k v a) := by
  unfold cLenSet kLenSet
  rw [if_k (F := dE Γ)]
  simp only [dE, CC.cmp]
theorem call_k {v : V1} {f : Expr} {args : List Expr} {kws : List Keyword} {cpos : Pos} : cCall Γ (k.cmp Γ) v f args kws cpos = dE Γ (kCall Γ k v f args kws cpos) := by
  unfold cCall kCall
  cases kws with
  | nil =>
    cases f with
    | Name x p =>
      dsimp only
      split
      · rw [if_k (F := dE Γ), lenSet_k, callN_k]
      · rename_i h
        first
        | (rw [callN_k]; done)
        | (rw [callN_k]
           split
           · exact (h _ _ _ _ rfl).elim
           · rfl)
    | Attribute o name apos => exact meth_k
    | _ => simp only [dE]
  | cons kw kws =>
    cases f with
    | Name x p =>
      cases args with
      | nil => exact callKw_k
      | cons _ _ => simp only [dE]
    | _ => simp only [dE]
theorem part_k {f : Expr → Cd} {o : Option Expr} : cPart (fun e => dE Γ (f e)) o = dP Γ (kPart f o) := by
  cases o <;> simp only [cPart, kPart, dP]
theorem sub_k {v : V1} {a b : Expr} : cSub (k.cmp Γ) v a b = dE Γ (kSub k v a b) := by
  unfold cSub kSub
  cases b with
  | Slice lo hi st p =>
    cases st with
    | none => simp only [dE, CC.cmp, part_k]
    | some st =>
      cases lo <;> cases hi <;> dsimp only <;> first
        | (rw [if_k (F := dE Γ)]; simp only [dE, CC.cmp])
        | simp only [dE]
  | _ => simp only [dE, CC.cmp]
theorem cmp_k {v : V1} {a : Expr} {ops : List CmpOp} {bs : List Expr} : cCmp (k.cmp Γ) v a ops bs = dE Γ (kCmp k v a ops bs) := by
  unfold cCmp kCmp
  split
  · rename_i op b
    cases q : cmpT op with
    | none => rw [if_k (F := dE Γ)]; simp only [dE, q, ite_self]
    | some f => rw [if_k (F := dE Γ)]; simp only [dE, q, CC.cmp]
  · rename_i op op' b d
    cases q : cmpT op with
    | none => rw [if_k (F := dE Γ)]; simp only [dE, q, ite_self]
    | some f =>
      cases q' : cmpT op' with
      | none => rw [if_k (F := dE Γ)]; simp only [dE, q, q', ite_self]
      | some f' => rw [if_k (F := dE Γ)]; simp only [dE, q, q', CC.cmp]
  · rename_i h1 h2
    first
    | (simp only [dE]; done)
    | (split
       · exact absurd rfl (h1 _ _ rfl)
       · exact absurd rfl (h2 _ _ _ _ rfl)
       · simp only [dE])
theorem mTest_bad : mTest mBad = mBad := rfl
theorem cmpT_k {v : V1} {a : Expr} {ops : List CmpOp} {bs : List Expr} : cCmpT (k.cmp Γ) v a ops bs = mTest (dE Γ (kCmp k v a ops bs)) := by
  rw [← cmp_k]
  unfold cCmpT cCmp
  split
  · rename_i op b
    cases q : cmpT op with
    | none => simp only [mTest_bad]
    | some f => simp only [if_k (F := mTest), mTest_bad]
  · rename_i op op' b d
    cases q : cmpT op with
    | none => simp only [mTest_bad]
    | some f =>
      cases q' : cmpT op' with
      | none => simp only [mTest_bad]
      | some f' => simp only [if_k (F := mTest), mTest_bad]
  · simp only [mTest_bad]
theorem e_k {v : V1} {e : Expr} : stepE Γ (k.cmp Γ) v e = dE Γ (kE Γ k v e) := by
  cases e with
  | Name x p => exact name_k
  | Constant c _ _ => exact const_k
  | Tuple es _ _ => simp only [stepE, kE, dE, CC.cmp, list_k]
  | List es _ => simp only [stepE, kE, dE, CC.cmp, list_k]
  | Dict ks vs _ =>
    simp only [stepE, kE]
    split
    · simp only [dE]
    · simp only [dE, CC.cmp]
    · rename_i h1 h2
      first
      | (simp only [dE]; done)
      | (split
         · exact (h1 rfl rfl).elim
         · exact (h2 _ _ rfl rfl).elim
         · simp only [dE])
  | BinOp a op b _ =>
    first
    | (simp only [stepE, kE, dE, CC.cmp]; done)
    | (simp only [stepE, kE, dE, CC.cmp]; rfl)
  | UnaryOp op a _ => cases op <;> simp only [stepE, kE, dE, CC.cmp]
  | BoolOp op es _ => exact boolE_k
  | Compare a ops bs _ => exact cmp_k
  | IfExp t a b _ => simp only [stepE, kE, dE, CC.cmp]
  | Subscript a b _ => exact sub_k
  | Call f args kws pos => exact call_k
  | ListComp elt gs scope _ =>
    simp only [stepE, kE]
    split
    · exact lc_k
    · rename_i h
      first
      | (simp only [dE]; done)
      | (split
         · exact absurd rfl (h _)
         · simp only [dE])
  | DictComp a b gs scope _ =>
    simp only [stepE, kE]
    split
    · exact dc_k
    · rename_i h
      first
      | (simp only [dE]; done)
      | (split
         · exact absurd rfl (h _)
         · simp only [dE])
  | _ => simp only [stepE, kE, dE]
theorem t_k {v : V1} {e : Expr} : stepT (k.cmp Γ) v e = dT Γ (kT k v e) := by
  cases e with
  | UnaryOp op a _ => cases op <;> simp only [stepT, kT, dT, CC.cmp]
  | BoolOp op es _ => exact boolT_k
  | Compare a ops bs _ => simp only [stepT, kT, dT, cmpT_k]
  | _ =>
    simp only [stepT, kT]
    rw [if_k (F := dT Γ)]
    simp only [dT, CC.cmp]
theorem tgs_k {f : Expr → List Nat × Cd} : ∀ {es : List Expr}, tgtM (fun e => ((f e).1, dG Γ (f e).2)) es = ((kTgs f es).1, dGs Γ (kTgs f es).2)
  | [] => by simp only [tgtM, kTgs, dGs]
  | e :: es => by
    unfold tgtM kTgs
    by_cases c : plain e = true
    · rw [if_pos c, if_pos c, tgs_k (es := es)]; simp only [dGs]
    · rw [if_neg c, if_neg c]; simp only [dGs]
theorem g_k {v : V1} {e : Expr} : stepG Γ (k.cmp Γ) v e = ((kG Γ k v e).1, dG Γ (kG Γ k v e).2) := by
  cases e with
  | Name x p =>
    simp only [stepG, kG]
    by_cases c : stB v x = true
    · rw [if_pos c, if_pos c]
      cases ixOf Γ.N x <;> simp only [dG]
    · rw [if_neg c, if_neg c]; simp only [dG]
  | Tuple es _ _ =>
    simp only [stepG, kG]
    by_cases c : es.all plain = true
    · rw [if_pos c, if_pos c]
      have := tgs_k (Γ := Γ) (f := k.G v) (es := es)
      simp only [CC.cmp, this, dG]
    · rw [if_neg c, if_neg c]; simp only [dG]
  | _ => simp only [stepG, kG, dG]
theorem asgN_k {v : V1} {x : Str} {p : Pos} {e : Expr} : cAsgN Γ (k.cmp Γ) v x p e = dS Γ (kAsgN Γ k v x p e) := by
  unfold cAsgN kAsgN
  by_cases c : stB v x = true
  · rw [if_pos c, if_pos c]
    cases ixOf Γ.N x with
    | none => simp only [dS]
    | some i =>
      dsimp only
      cases swB v x p e with
      | false => simp only [dS, CC.cmp]
      | true =>
        dsimp only
        split
        · simp only [dS, lc_k]
        · rename_i h
          first
          | (simp only [dS]; done)
          | (split
             · exact absurd rfl (h _ _ _ _)
             · simp only [dS])
  · rw [if_neg c, if_neg c]; simp only [dS]
theorem par_k {v : V1} {x y : Str} {px py : Pos} {a b : Expr} : cPar Γ (k.cmp Γ) v x y px py a b = dS Γ (kPar Γ k v x y px py a b) := by
  unfold cPar kPar
  by_cases c : parB v x y px py a b = true
  · rw [if_pos c, if_pos c]
    cases ixOf Γ.N x with
    | none => simp only [dS]
    | some i =>
      cases ixOf Γ.N y with
      | none => simp only [dS]
      | some j =>
        dsimp only
        rw [if_k (F := dS Γ)]
        simp only [dS, CC.cmp]
  · rw [if_neg c, if_neg c]; simp only [dS]
theorem asg_k {v : V1} {tg e : Expr} : cAsg Γ (k.cmp Γ) v tg e = dS Γ (kAsg Γ k v tg e) := by
  unfold cAsg kAsg
  cases tg with
  | Name x p => exact asgN_k
  | Tuple ts _ _ =>
    cases e with
    | Tuple vs _ _ =>
      dsimp only
      split
      · exact par_k
      · rename_i h
        first
        | (simp only [dS]; done)
        | (split
           · exact (h _ _ _ _ _ _ rfl rfl).elim
           · simp only [dS])
    | _ => simp only [dS, CC.cmp]
  | Subscript o i _ =>
    cases o with
    | Name x p =>
      dsimp only
      rw [if_k (F := dS Γ)]
      congr 1
      · cases ixOf Γ.N x with
        | none => simp only [dS]
        | some n => dsimp only; rw [if_k (F := dS Γ)]; simp only [dS, CC.cmp]
    | _ => simp only [dS]
  | _ => simp only [dS]
theorem block_k {f : Stmt → Cd} : ∀ {ss : List Stmt}, blockM (fun s => dS Γ (f s)) ss = dS Γ (kBlock f ss)
  | [] => by simp only [blockM, kBlock, dS]
  | s :: ss => by simp only [blockM, kBlock, dS, block_k (ss := ss)]
theorem s_k {v : V1} {s : Stmt} : stepS Γ (k.cmp Γ) v s = dS Γ (kS Γ k v s) := by
  cases s with
  | Pass _ => simp only [stepS, kS, dS]
  | Break _ => simp only [stepS, kS, dS]
  | Continue _ => simp only [stepS, kS, dS]
  | Return r _ => cases r <;> simp only [stepS, kS, dS, CC.cmp]
  | Expr e _ => simp only [stepS, kS]; rw [if_k (F := dS Γ)]; simp only [dS, CC.cmp]
  | If t a b _ => simp only [stepS, kS, dS, CC.cmp, block_k]
  | While t a b _ =>
    cases b with
    | nil => simp only [stepS, kS, dS, CC.cmp, block_k]
    | cons _ _ => simp only [stepS, kS, dS]
  | For tg it a b _ =>
    cases b with
    | nil =>
      simp only [stepS, kS]
      rw [if_k (F := dS Γ)]
      simp only [dS, CC.cmp, block_k, iter_k]
    | cons _ _ => simp only [stepS, kS, dS]
  | Assign ts e _ =>
    match ts with
    | [] => simp only [stepS, kS, dS]
    | [tg] => exact asg_k
    | _ :: _ :: _ => simp only [stepS, kS, dS]
  | _ => simp only [stepS, kS, dS]
theorem step_k : step Γ (k.cmp Γ) = (k.step Γ).cmp Γ := by
  unfold step CC.step
  simp only [CC.cmp, Cmp.mk.injEq]
  refine ⟨?_, ?_, ?_, ?_⟩
  · funext v e; exact e_k
  · funext v e; exact t_k
  · funext v e; exact g_k
  · funext v e; exact s_k
theorem comp_k : ∀ n, comp Γ n = (codeN Γ n).cmp Γ
  | 0 => by simp only [comp, codeN, CC.cmp, CC.bad, Cmp.bad, dE, dT, dG, dS]
  | n + 1 => by rw [comp, comp_k n, step_k]; rfl
theorem code_ok {st : Stmt} : meaning Γ st = dS Γ (code Γ st) := by
  unfold meaning code
  rw [comp_k]
  exact block_k
end Z
end

section
set_option Elab.async false
set_option linter.all false
set_option maxRecDepth 100000
set_option maxHeartbeats 2000000
/-! ZV: codes run by rewriting. -/
namespace Z
open PySem L2

section
variable {ρ : Rho}
@[simp] theorem x_bnd {α β : Type} {m : M α} {f : α → M β} : bnd m f ρ = (m ρ).bind fun p => f p.1 p.2 := by
  unfold bnd; cases m ρ <;> rfl
@[simp] theorem x_op {g : D → D → Option Rs} {a b : M Res} : mOp g a b ρ = (a ρ).bind fun p => (b p.2).bind fun q => (look q.2 p.1).bind fun d => (look q.2 q.1).bind fun e => (g d e).bind fun r => some (r.res, q.2) := by
  unfold mOp
  rw [x_bnd]
  congr 1; funext p
  rw [x_bnd]
  congr 1; funext q
  cases look q.2 p.1 with
  | none => rfl
  | some d =>
    cases look q.2 q.1 with
    | none => rfl
    | some e => dsimp only [Option.bind_some]; cases g d e <;> rfl
@[simp] theorem x_un {g : D → Option Rs} {a : M Res} : mUn g a ρ = (a ρ).bind fun p => (look p.2 p.1).bind fun d => (g d).bind fun r => some (r.res, p.2) := by
  unfold mUn
  rw [x_bnd]
  congr 1; funext p
  cases look p.2 p.1 with
  | none => rfl
  | some d => dsimp only [Option.bind_some]; cases g d <;> rfl
@[simp] theorem x_share {a : M Res} : mShare a ρ = (a ρ).bind fun p => demote p.2 p.1 := by unfold mShare; rw [x_bnd]
@[simp] theorem x_cons {a : M Res} {l : M (List D)} : mCons a l ρ = ((a ρ).bind fun p => demote p.2 p.1).bind fun p => (l p.2).bind fun q => some (p.1 :: q.1, q.2) := by
  unfold mCons
  rw [x_bnd, x_share]
  congr 1; funext p
  rw [x_bnd]
@[simp] theorem x_tup {l : M (List D)} : mTup l ρ = (l ρ).bind fun p => if noDicts p.1 && decide (p.1.length ≤ big) then some (.sh (.tuple p.1), p.2) else none := by unfold mTup; rw [x_bnd]
@[simp] theorem x_lst {l : M (List D)} : mLst l ρ = (l ρ).bind fun p => if noDicts p.1 && decide (p.1.length ≤ big) then some (.fr (.list p.1), p.2) else none := by unfold mLst; rw [x_bnd]
def isB : D → Option Bool
  | .bool b => some b
  | _ => none
@[simp] theorem x_test {a : M Res} : mTest a ρ = (a ρ).bind fun p => ((look p.2 p.1).bind isB).bind fun b => some (b, p.2) := by
  unfold mTest
  rw [x_bnd]
  congr 1; funext p
  cases look p.2 p.1 with
  | none => rfl
  | some d => cases d <;> rfl
@[simp] theorem x_andT {a b : M Bool} : mAndT a b ρ = (a ρ).bind fun p => if p.1 then b p.2 else some (false, p.2) := by
  unfold mAndT; rw [x_bnd]; congr 1; funext p; cases p.1 <;> rfl
@[simp] theorem x_orT {a b : M Bool} : mOrT a b ρ = (a ρ).bind fun p => if p.1 then some (true, p.2) else b p.2 := by
  unfold mOrT; rw [x_bnd]; congr 1; funext p; cases p.1 <;> rfl
@[simp] theorem x_notT {a : M Bool} : mNotT a ρ = (a ρ).bind fun p => some (!p.1, p.2) := by unfold mNotT; rw [x_bnd]
@[simp] theorem x_andV {a b : M Res} : mAndV a b ρ = (mTest a ρ).bind fun p => if p.1 then b p.2 else some (.sh (.bool false), p.2) := by
  unfold mAndV; rw [x_bnd]; congr 1; funext p; cases p.1 <;> rfl
@[simp] theorem x_orV {a b : M Res} : mOrV a b ρ = (mTest a ρ).bind fun p => if p.1 then some (.sh (.bool true), p.2) else b p.2 := by
  unfold mOrV; rw [x_bnd]; congr 1; funext p; cases p.1 <;> rfl
@[simp] theorem x_notV {a : M Res} : mNotV a ρ = (mTest a ρ).bind fun p => some (.sh (.bool (!p.1)), p.2) := by unfold mNotV; rw [x_bnd]
@[simp] theorem x_if {t : M Bool} {a b : M Res} : mIf t a b ρ = (t ρ).bind fun p => if p.1 then a p.2 else b p.2 := by
  unfold mIf; rw [x_bnd]; congr 1; funext p; cases p.1 <;> rfl
@[simp] theorem x_seq {a b : SM} : mSeq a b ρ = (a ρ).bind fun o => match o with
    | .nx ρ' => b ρ'
    | o => some o := by
  unfold mSeq
  cases a ρ with
  | none => rfl
  | some o => cases o <;> rfl
@[simp] theorem x_ifS {t : M Bool} {a b : SM} : mIfS t a b ρ = (t ρ).bind fun p => if p.1 then a p.2 else b p.2 := by
  unfold mIfS
  cases t ρ with
  | none => rfl
  | some p => obtain ⟨x, ρ1⟩ := p; cases x <;> rfl
def fixR (ρ : Rho) : Res → Option (Res × Rho)
  | .bw i => (demote ρ (.bw i)).map fun p => (.sh p.1, p.2)
  | r => some (r, ρ)
@[simp] theorem x_fix {a : M Res} : mFix a ρ = (a ρ).bind fun p => fixR p.2 p.1 := by
  unfold mFix
  rw [x_bnd]
  congr 1; funext p
  obtain ⟨r, ρ1⟩ := p
  cases r with
  | bw i => dsimp only [fixR]; cases demote ρ1 (.bw i) <;> rfl
  | _ => rfl
@[simp] theorem x_asg {i : Nat} {a : M Res} : mAsg i a ρ = (mFix a ρ).bind fun p => (putF i p.1 p.2).bind fun ρ2 => some (.nx ρ2) := by
  unfold mAsg
  cases mFix a ρ with
  | none => rfl
  | some p => obtain ⟨r, ρ1⟩ := p; dsimp only [Option.bind_some]; cases putF i r ρ1 <;> rfl
@[simp] theorem x_asgT {f : D → Rho → Option Rho} {a : M Res} : mAsgT f a ρ = (mShare a ρ).bind fun p => (f p.1 p.2).bind fun ρ2 => some (.nx ρ2) := by
  unfold mAsgT
  cases mShare a ρ with
  | none => rfl
  | some p => obtain ⟨r, ρ1⟩ := p; dsimp only [Option.bind_some]; cases f r ρ1 <;> rfl
@[simp] theorem x_drop {a : M Res} : mDrop a ρ = (a ρ).bind fun p => some (.nx p.2) := by
  unfold mDrop
  cases a ρ with
  | none => rfl
  | some p => rfl
def retR (ρ : Rho) : Res → Option SO
  | .sh d => some (.rt (.val d) ρ)
  | .fr d => some (.rt (.new d) ρ)
  | .bw i => match ρ[i]? with
    | some (.sh d) => some (.rt (.val d) ρ)
    | some (.ow d) => some (.rt (.new d) ρ)
    | _ => none
@[simp] theorem x_ret {a : M Res} : mRet a ρ = (a ρ).bind fun p => retR p.2 p.1 := by
  unfold mRet
  cases a ρ with
  | none => rfl
  | some p => obtain ⟨r, ρ1⟩ := p; cases r <;> rfl
theorem x_for {mi : M (List D)} {f : D → Rho → Option Rho} {b : SM} : mFor mi f b ρ = (mi ρ).bind fun p => forL f b p.1 p.2 := by
  unfold mFor
  cases mi ρ <;> rfl
@[simp] theorem x_par2 {i j : Nat} {a b : M Res} : mPar2 i j a b ρ = (mFix a ρ).bind fun p => (mFix b p.2).bind fun q => (putF j q.1 q.2).bind fun ρ2 => (putF i p.1 ρ2).bind fun ρ3 => some (.nx ρ3) := by
  unfold mPar2
  rw [x_bnd]
  cases mFix a ρ with
  | none => rfl
  | some p =>
    simp only [Option.bind_some]
    rw [x_bnd]
    cases mFix b p.2 with
    | none => rfl
    | some q =>
      simp only [Option.bind_some]
      cases putF j q.1 q.2 with
      | none => rfl
      | some ρ2 => simp only [Option.bind_some]; cases putF i p.1 ρ2 <;> rfl
end
end Z
end

section
set_option Elab.async false
set_option linter.all false
set_option maxRecDepth 100000
set_option maxHeartbeats 2000000
/-! ZW: codes run by rewriting (2). -/
namespace Z
open PySem L2
section
variable {ρ : Rho}
@[simp] theorem x_call {ms : List Bool} {f : Fn} {ma : M (List ArgD)} : mCall ms f ma ρ = (ma ρ).bind fun p => if modes p.1 = ms ∧ (mutIx p.1).Nodup then (fetch p.1 p.2).bind fun ds => (f ds).bind fun r => (putNews (mutIx p.1) r.2 p.2).bind fun ρ2 => some (r.1.res, ρ2) else none := by
  unfold mCall
  cases ma ρ with
  | none => rfl
  | some p =>
    obtain ⟨xs, ρ1⟩ := p
    simp only [Option.bind_some]
    congr 1
    cases fetch xs ρ1 with
    | none => rfl
    | some ds =>
      simp only [Option.bind_some]
      cases f ds with
      | none => rfl
      | some r =>
        obtain ⟨r, news⟩ := r
        simp only [Option.bind_some]
        cases putNews (mutIx xs) news ρ1 <;> rfl
@[simp] theorem x_mut {c : D → Bool} {i : Nat} {g : D → List D → Option (D × D)} {ms : M (List D)} : mMut c i g ms ρ = (ρ[i]?).bind fun s => if s.own && datIs c s then (ms ρ).bind fun p => (p.2[i]?).bind fun s1 => if s1.own then s1.dat.bind fun d => (g d p.1).bind fun z => some (.sh z.2, p.2.set i (s1.put z.1)) else none else none := by
  unfold mMut
  cases ρ[i]? with
  | none => rfl
  | some s =>
    simp only [Option.bind_some]
    congr 1
    cases ms ρ with
    | none => rfl
    | some p =>
      obtain ⟨ds, ρ1⟩ := p
      simp only [Option.bind_some]
      cases ρ1[i]? with
      | none => rfl
      | some s1 =>
        simp only [Option.bind_some]
        congr 1
        cases s1.dat with
        | none => rfl
        | some d =>
          simp only [Option.bind_some]
          cases g d ds <;> rfl
@[simp] theorem x_setK {i : Nat} {g : D → D → D → Option D} {mi me : M Res} : mSetK i g mi me ρ = (mShare me ρ).bind fun p => if ownAt i p.2 then (mShare mi p.2).bind fun q => if ownAt i q.2 then (q.2[i]?).bind fun s => s.dat.bind fun d => (g d q.1 p.1).bind fun d' => some (.nx (q.2.set i (s.put d'))) else none else none := by
  unfold mSetK
  cases mShare me ρ with
  | none => rfl
  | some p =>
    obtain ⟨e, ρ1⟩ := p
    simp only [Option.bind_some]
    congr 1
    cases mShare mi ρ1 with
    | none => rfl
    | some q =>
      obtain ⟨k, ρ2⟩ := q
      simp only [Option.bind_some]
      congr 1
      cases ρ2[i]? with
      | none => rfl
      | some s =>
        simp only [Option.bind_some]
        cases s.dat with
        | none => rfl
        | some d =>
          simp only [Option.bind_some]
          cases g d k e <;> rfl
end
section
variable {ρ : Rho}
@[simp] theorem x_args0 : mArgs [] ρ = some ([], ρ) := rfl
@[simp] theorem x_argV {m : M Res} {as : List ArgM} : mArgs (.val m :: as) ρ = (mShare m ρ).bind fun p => (mArgs as p.2).bind fun q => some (.val p.1 :: q.1, q.2) := by
  show bnd (mShare m) (fun d => bnd (mArgs as) fun ds ρ => some (.val d :: ds, ρ)) ρ = _
  rw [x_bnd]
  congr 1; funext p
  rw [x_bnd]
@[simp] theorem x_argC {i : Nat} {as : List ArgM} : mArgs (.chg i :: as) ρ = if ownAt i ρ then (mArgs as ρ).bind fun q => some (.chg i :: q.1, q.2) else none := by
  show (if ownAt i ρ then (bnd (mArgs as) fun ds ρ => some (ArgD.chg i :: ds, ρ)) ρ else none) = _
  rw [x_bnd]
@[simp] theorem x_slice {a : M Res} {ml mh : M (Option Int)} : mSlice a ml mh ρ = (a ρ).bind fun p => (ml p.2).bind fun lo => (mh lo.2).bind fun hi => (look hi.2 p.1).bind fun d => (dCut d lo.1 hi.1).bind fun rs => some (rs.res, hi.2) := by
  unfold mSlice
  rw [x_bnd]
  congr 1; funext p
  rw [x_bnd]
  congr 1; funext lo
  rw [x_bnd]
  congr 1; funext hi
  cases look hi.2 p.1 with
  | none => rfl
  | some d => simp only [Option.bind_some]; cases dCut d lo.1 hi.1 <;> rfl
def isI : D → Option Int
  | .int i => some i
  | _ => none
@[simp] theorem x_part {a : M Res} : mPart a ρ = (a ρ).bind fun p => ((look p.2 p.1).bind isI).bind fun i => some (some i, p.2) := by
  unfold mPart
  rw [x_bnd]
  congr 1; funext p
  cases look p.2 p.1 with
  | none => rfl
  | some d => cases d <;> rfl
@[simp] theorem x_noP : mNoP ρ = some (none, ρ) := rfl
@[simp] theorem x_cbs {g : List D → Option Rs} {ms : M (List D)} : mCBs g ms ρ = (ms ρ).bind fun p => (g p.1).bind fun r => some (r.res, p.2) := by
  unfold mCBs
  rw [x_bnd]
  congr 1; funext p
  cases g p.1 <;> rfl
@[simp] theorem x_items {a : M Res} : mItems a ρ = (mShare a ρ).bind fun p => (itemsD p.1).bind fun ds => some (ds, p.2) := by
  unfold mItems
  rw [x_bnd]
  congr 1; funext p
  cases itemsD p.1 <;> rfl
@[simp] theorem x_nil : mNil ρ = some ([], ρ) := rfl
@[simp] theorem x_c {d : D} : mC d ρ = some (.sh d, ρ) := rfl
@[simp] theorem x_skip : mSkip ρ = some (.nx ρ) := rfl
end
/-- a loop: what holds ahead of each turn -/
theorem forL_inv {f : D → Rho → Option Rho} {b : SM} (P : Nat → Rho → Prop) : ∀ (ds : List D) (n : Nat) (ρ : Rho), P n ρ →
    (∀ i d ρ, ds[i]? = some d → P (n + i) ρ → ∃ ρ1, f d ρ = some ρ1 ∧ ∃ ρ2, (b ρ1 = some (.nx ρ2) ∨ b ρ1 = some (.ct ρ2)) ∧ P (n + i + 1) ρ2) → ∃ ρ', forL f b ds ρ = some (.nx ρ') ∧ P (n + ds.length) ρ'
  | [], n, ρ, h, _ => ⟨ρ, rfl, h⟩
  | d :: ds, n, ρ, h, step => by
    obtain ⟨ρ1, e1, ρ2, e2, h2⟩ := step 0 d ρ rfl h
    obtain ⟨ρ', e3, h3⟩ := forL_inv P ds (n + 1) ρ2 h2 fun i d' ρ0 hd hp => by
      have := step (i + 1) d' ρ0 (by simpa using hd) (by rw [show n + (i + 1) = n + 1 + i by omega]; exact hp)
      rw [show n + (i + 1) + 1 = n + 1 + i + 1 by omega] at this
      exact this
    refine ⟨ρ', ?_, by rw [List.length_cons, show n + (ds.length + 1) = n + 1 + ds.length by omega]; exact h3⟩
    simp only [forL, e1]
    rcases e2 with e2 | e2 <;> simp only [e2, e3]
/-- a comprehension: what holds ahead of each turn -/
theorem lcL_inv {f : D → Rho → Option Rho} {tt : M Bool} {te : M Res} {vs : List Nat} (P : Nat → List D → Rho → Prop) : ∀ (ds : List D) (n : Nat) (acc : List D) (ρ : Rho), P n acc ρ →
    (∀ i d acc ρ, ds[i]? = some d → P (n + i) acc ρ → ∃ ρ1, f d (wipeR vs 0 ρ) = some ρ1 ∧ ∃ b ρ2, tt ρ1 = some (b, ρ2) ∧ (b = false → P (n + i + 1) acc ρ2) ∧
      (b = true → ∃ y ρ3, mShare te ρ2 = some (y, ρ3) ∧ isDict y = false ∧ acc.length < big ∧ P (n + i + 1) (acc ++ [y]) ρ3)) →
    ∃ acc' ρ', lcL f tt te vs ds acc ρ = some (acc', ρ') ∧ P (n + ds.length) acc' ρ'
  | [], n, acc, ρ, h, _ => ⟨acc, ρ, rfl, h⟩
  | d :: ds, n, acc, ρ, h, step => by
    have go : ∀ acc0 ρ0, P (n + 1) acc0 ρ0 → ∃ acc' ρ', lcL f tt te vs ds acc0 ρ0 = some (acc', ρ') ∧ P (n + (d :: ds).length) acc' ρ' := fun acc0 ρ0 h0 => by
      have := lcL_inv P ds (n + 1) acc0 ρ0 h0 fun i d' acc1 ρ1 hd hp => by
        have := step (i + 1) d' acc1 ρ1 (by simpa using hd) (by rw [show n + (i + 1) = n + 1 + i by omega]; exact hp)
        rw [show n + (i + 1) + 1 = n + 1 + i + 1 by omega] at this
        exact this
      rw [List.length_cons, show n + (ds.length + 1) = n + 1 + ds.length by omega]
      exact this
    obtain ⟨ρ1, e1, b, ρ2, e2, hf, ht⟩ := step 0 d acc ρ rfl h
    cases b with
    | false =>
      obtain ⟨acc', ρ', e3, h3⟩ := go acc ρ2 (hf rfl)
      exact ⟨acc', ρ', by simp only [lcL, e1, e2, e3], h3⟩
    | true =>
      obtain ⟨y, ρ3, e3, hd, hl, hp⟩ := ht rfl
      obtain ⟨acc', ρ', e4, h4⟩ := go _ ρ3 hp
      exact ⟨acc', ρ', by simp only [lcL, e1, e2, e3, hd, hl, decide_true, Bool.not_false, Bool.and_self, if_true, e4], h4⟩
section
variable {ρ : Rho}
theorem x_lc {mi : M (List D)} {f : D → Rho → Option Rho} {tt : M Bool} {te : M Res} {vs : List Nat} : mLc mi f tt te vs ρ = (mi ρ).bind fun p => if noOwn vs p.2 then (lcL f tt te vs p.1 [] p.2).bind fun q => some (.fr (.list q.1), backR vs 0 p.2 (wipeR vs 0 q.2)) else none := by
  unfold mLc
  cases mi ρ with
  | none => rfl
  | some p =>
    obtain ⟨ds, ρ1⟩ := p
    simp only [Option.bind_some]
    congr 1
    cases lcL f tt te vs ds [] ρ1 <;> rfl
end
end Z
end

section
set_option Elab.async false
set_option linter.all false
set_option maxRecDepth 100000
set_option maxHeartbeats 2000000
/-! ZX: codes run by rewriting (3): small words, operations. -/
namespace Z
open PySem L2
section
variable {ρ : Rho} {d e : D} {i : Nat}
@[simp] theorem w_lookS : look ρ (.sh d) = some d := rfl
@[simp] theorem w_lookF : look ρ (.fr d) = some d := rfl
@[simp] theorem w_lookB : look ρ (.bw i) = (ρ[i]?).bind Slot.dat := rfl
@[simp] theorem w_isB {b : Bool} : isB (.bool b) = some b := rfl
@[simp] theorem w_isI {b : Int} : isI (.int b) = some b := rfl
@[simp] theorem w_fixS : fixR ρ (.sh d) = some (.sh d, ρ) := rfl
@[simp] theorem w_fixF : fixR ρ (.fr d) = some (.fr d, ρ) := rfl
@[simp] theorem w_fixB : fixR ρ (.bw i) = (demote ρ (.bw i)).map fun p => (.sh p.1, p.2) := rfl
@[simp] theorem w_putS : Z.putF i (.sh d) ρ = putS i (.sh d) ρ := rfl
@[simp] theorem w_putF : Z.putF i (.fr d) ρ = putS i (.ow d) ρ := rfl
@[simp] theorem w_demS : demote ρ (.sh d) = some (d, ρ) := rfl
@[simp] theorem w_demF : demote ρ (.fr d) = some (d, ρ) := rfl
def demB (ρ : Rho) (i : Nat) : Slot → Option (D × Rho)
  | .sh d => some (d, ρ)
  | .ow d => some (d, ρ.set i (.sh d))
  | _ => none
@[simp] theorem w_demB : demote ρ (.bw i) = (ρ[i]?).bind (demB ρ i) := by
  unfold demote
  dsimp only
  cases ρ[i]? with
  | none => rfl
  | some s => cases s <;> rfl
@[simp] theorem w_demB1 : demB ρ i (.sh d) = some (d, ρ) := rfl
@[simp] theorem w_demB2 : demB ρ i (.ow d) = some (d, ρ.set i (.sh d)) := rfl
@[simp] theorem w_retS : retR ρ (.sh d) = some (.rt (.val d) ρ) := rfl
@[simp] theorem w_retF : retR ρ (.fr d) = some (.rt (.new d) ρ) := rfl
def retB (ρ : Rho) : Slot → Option SO
  | .sh d => some (.rt (.val d) ρ)
  | .ow d => some (.rt (.new d) ρ)
  | _ => none
@[simp] theorem w_retB : retR ρ (.bw i) = (ρ[i]?).bind (retB ρ) := by
  unfold retR
  dsimp only
  cases ρ[i]? with
  | none => rfl
  | some s => cases s <;> rfl
@[simp] theorem w_retB1 : retB ρ (.sh d) = some (.rt (.val d) ρ) := rfl
@[simp] theorem w_retB2 : retB ρ (.ow d) = some (.rt (.new d) ρ) := rfl
@[simp] theorem w_dat0 : Slot.dat .no = none := rfl
@[simp] theorem w_dat1 : Slot.dat (.sh d) = some d := rfl
@[simp] theorem w_dat2 : Slot.dat (.ow d) = some d := rfl
@[simp] theorem w_dat3 : Slot.dat (.mp d) = some d := rfl
@[simp] theorem w_own0 : Slot.own .no = false := rfl
@[simp] theorem w_own1 : Slot.own (.sh d) = false := rfl
@[simp] theorem w_own2 : Slot.own (.ow d) = true := rfl
@[simp] theorem w_own3 : Slot.own (.mp d) = true := rfl
@[simp] theorem w_put2 : Slot.put e (.ow d) = .ow e := rfl
@[simp] theorem w_put3 : Slot.put e (.mp d) = .mp e := rfl
def ownS : Option Slot → Bool
  | some s => s.own
  | none => false
@[simp] theorem w_ownAt : ownAt i ρ = ownS (ρ[i]?) := by unfold ownAt; cases ρ[i]? <;> rfl
@[simp] theorem w_ownS {s : Slot} : ownS (some s) = s.own := rfl
@[simp] theorem w_datIs {c : D → Bool} {s : Slot} : datIs c s = match s.dat with
    | some d => c d
    | none => false := rfl
@[simp] theorem w_isList {ds : List D} : isList (.list ds) = true := rfl
@[simp] theorem w_resV : Rs.res (.val d) = .sh d := rfl
@[simp] theorem w_resN : Rs.res (.new d) = .fr d := rfl
def putO (i : Nat) (t : Slot) (ρ : Rho) : Slot → Option Rho
  | .mp _ => none
  | _ => some (ρ.set i t)
@[simp] theorem w_putO {t : Slot} : putS i t ρ = (ρ[i]?).bind (putO i t ρ) := by
  unfold putS
  cases ρ[i]? with
  | none => rfl
  | some s => cases s <;> rfl
@[simp] theorem w_putO0 {t : Slot} : putO i t ρ .no = some (ρ.set i t) := rfl
@[simp] theorem w_putO1 {t : Slot} : putO i t ρ (.sh d) = some (ρ.set i t) := rfl
@[simp] theorem w_putO2 {t : Slot} : putO i t ρ (.ow d) = some (ρ.set i t) := rfl
@[simp] theorem w_mV : mV i ρ = (ρ[i]?).bind fun s => match s with
    | .sh d => some (.sh d, ρ)
    | .ow _ => some (.bw i, ρ)
    | .mp _ => some (.bw i, ρ)
    | .no => none := by
  unfold mV
  cases ρ[i]? with
  | none => rfl
  | some s => cases s <;> rfl
@[simp] theorem w_fName : fName i d ρ = putS i (.sh d) ρ := rfl
@[simp] theorem w_fNil : fNil [] ρ = some ρ := rfl
@[simp] theorem w_fCons {f : D → Rho → Option Rho} {g : List D → Rho → Option Rho} {ds : List D} : fCons f g (d :: ds) ρ = (f d ρ).bind (g ds) := by
  unfold fCons; dsimp only; cases f d ρ <;> rfl
@[simp] theorem w_fTup {n : Nat} {g : List D → Rho → Option Rho} {ds : List D} : fTup n g (.tuple ds) ρ = if ds.length = n then g ds ρ else none := rfl
end
section
variable {i j : Int} {a b : List D} {x z : Str}
@[simp] theorem o_addI : dAdd (.int i) (.int j) = some (.val (.int (i + j))) := rfl
@[simp] theorem o_subI : dSub (.int i) (.int j) = some (.val (.int (i - j))) := rfl
@[simp] theorem o_mulI : dMul (.int i) (.int j) = if cMul i j then some (.val (.int (i * j))) else none := by
  unfold dMul orG gII; dsimp only; cases cMul i j <;> rfl
@[simp] theorem o_divI : dFdiv (.int i) (.int j) = if cDivW i j then some (.val (.int (i / j))) else none := rfl
@[simp] theorem o_modI : dMod (.int i) (.int j) = if decide (0 < j) then some (.val (.int (i % j))) else none := rfl
@[simp] theorem o_gtI : dGt (.int i) (.int j) = some (.val (.bool (decide (j < i)))) := rfl
@[simp] theorem o_geI : dGe (.int i) (.int j) = some (.val (.bool (decide (j ≤ i)))) := rfl
@[simp] theorem o_leI : dLe (.int i) (.int j) = some (.val (.bool (decide (i ≤ j)))) := rfl
@[simp] theorem o_ltI : dLt (.int i) (.int j) = some (.val (.bool (decide (i < j)))) := rfl
@[simp] theorem o_negI : dNeg (.int i) = some (.val (.int (-i))) := rfl
@[simp] theorem o_lenL : dLen (.list a) = some (.val (.int a.length)) := rfl
@[simp] theorem o_lenT : dLen (.tuple a) = some (.val (.int a.length)) := rfl
@[simp] theorem o_tupL : dTuple (.list a) = some (.val (.tuple a)) := rfl
@[simp] theorem o_tupT : dTuple (.tuple a) = some (.val (.tuple a)) := rfl
@[simp] theorem o_lstL : dList (.list a) = some (.new (.list a)) := rfl
@[simp] theorem o_lstT : dList (.tuple a) = some (.new (.list a)) := rfl
@[simp] theorem o_intI : dInt1 (.int i) = some (.val (.int i)) := rfl
theorem o_ixL {n : Nat} {d : D} (h : a[n]? = some d) : dIxX (.list a) (.int n) = some (.val d) := by
  unfold dIxX orG dIx
  have : atI a (n : Int) = some d := atI_nat h
  simp only [this]
theorem o_ixT {n : Nat} {d : D} (h : a[n]? = some d) : dIxX (.tuple a) (.int n) = some (.val d) := by
  unfold dIxX orG dIx
  have : atI a (n : Int) = some d := atI_nat h
  simp only [this]
@[simp] theorem o_eqI : dEq (.int i) (.int j) = some (.val (.bool (decide (i = j)))) := by
  unfold dEq eqD scalE sv
  simp [scal]
@[simp] theorem o_neI : dNe (.int i) (.int j) = some (.val (.bool (!decide (i = j)))) := by
  unfold dNe eqD scalE sv
  simp [scal]
@[simp] theorem o_eqS : dEq (.str x) (.str z) = some (.val (.bool (decide (x = z)))) := by
  unfold dEq eqD scalE sv
  simp [scal]
@[simp] theorem o_neS : dNe (.str x) (.str z) = some (.val (.bool (!decide (x = z)))) := by
  unfold dNe eqD scalE sv
  simp [scal]
end
end Z
end

section
set_option Elab.async false
set_option linter.all false
set_option maxRecDepth 100000
set_option maxHeartbeats 2000000
/-! ZY: codes run by rewriting (4). -/
namespace Z
open PySem L2
section
variable {ρ : Rho}
noncomputable def rngO : List D → Option (List D)
  | [.int j] => @ite _ (-(2 ^ 62) ≤ j ∧ j < 2 ^ 62) (Classical.propDecidable _) (some (rangeD 0 j)) none
  | _ => none
noncomputable def rngO2 : List D → Option (List D)
  | [.int i, .int j] => @ite _ ((-(2 ^ 62) ≤ i ∧ i < 2 ^ 62) ∧ -(2 ^ 62) ≤ j ∧ j < 2 ^ 62) (Classical.propDecidable _) (some (rangeD i j)) none
  | _ => none
def enumO : List D → Option (List D)
  | [.list ds] => some (numbered ds)
  | [.tuple ds] => some (numbered ds)
  | _ => none
def dcO : D → Option (List (D × D))
  | .dict kvs => some kvs
  | _ => none
def shO : Res → Option D
  | .sh e => some e
  | _ => none
def rbO : Rs → Option Bool
  | .val (.bool b) => some b
  | _ => none
def noN : Rs × List D → Option Rs
  | (r, []) => some r
  | _ => none
@[simp] theorem x_rng1 {m : M (List D)} : mRange1 m ρ = (m ρ).bind fun p => (rngO p.1).bind fun l => some (l, p.2) := by
  unfold mRange1
  rw [x_bnd]
  congr 1; funext p
  obtain ⟨ds, ρ1⟩ := p
  cases ds with
  | nil => rfl
  | cons d r =>
    cases r with
    | cons e r => cases d <;> rfl
    | nil =>
      cases d with
      | int j =>
        dsimp only [rngO]
        by_cases h : -(2 ^ 62) ≤ j ∧ j < 2 ^ 62
        · rw [if_pos h, if_pos (by simpa using h)]; rfl
        · rw [if_neg h, if_neg (by rw [decide_eq_true_eq]; exact h)]; rfl
      | _ => rfl
@[simp] theorem x_rng2 {m : M (List D)} : mRange2 m ρ = (m ρ).bind fun p => (rngO2 p.1).bind fun l => some (l, p.2) := by
  unfold mRange2
  rw [x_bnd]
  congr 1; funext p
  obtain ⟨ds, ρ1⟩ := p
  cases ds with
  | nil => rfl
  | cons d r =>
    cases r with
    | nil => cases d <;> rfl
    | cons e r =>
      cases r with
      | cons f r => cases d <;> first
        | rfl
        | (cases e <;> rfl)
      | nil =>
        cases d with
        | int i =>
          cases e with
          | int j =>
            dsimp only [rngO2]
            by_cases h : (-(2 ^ 62) ≤ i ∧ i < 2 ^ 62) ∧ -(2 ^ 62) ≤ j ∧ j < 2 ^ 62
            · rw [if_pos h, if_pos (by rw [decide_eq_true_eq]; exact h)]; rfl
            · rw [if_neg h, if_neg (by rw [decide_eq_true_eq]; exact h)]; rfl
          | _ => rfl
        | _ => rfl
@[simp] theorem x_enum {m : M (List D)} : mEnum m ρ = (m ρ).bind fun p => (enumO p.1).bind fun l => some (l, p.2) := by
  unfold mEnum
  rw [x_bnd]
  congr 1; funext p
  obtain ⟨ds, ρ1⟩ := p
  unfold enumO
  dsimp only
  split <;> first
    | rfl
    | (split <;> first
      | rfl
      | simp_all)
theorem w_rngO {j : Int} (h : -(2 ^ 62) ≤ j ∧ j < 2 ^ 62) : rngO [.int j] = some (rangeD 0 j) := if_pos h
theorem w_rngO2 {i j : Int} (h : (-(2 ^ 62) ≤ i ∧ i < 2 ^ 62) ∧ -(2 ^ 62) ≤ j ∧ j < 2 ^ 62) : rngO2 [.int i, .int j] = some (rangeD i j) := if_pos h
@[simp] theorem w_enumO {ds : List D} : enumO [.tuple ds] = some (numbered ds) := rfl
@[simp] theorem w_dcO {ds : List (D × D)} : dcO (.dict ds) = some ds := rfl
@[simp] theorem w_shO {d : D} : shO (.sh d) = some d := rfl
@[simp] theorem w_rbO {b : Bool} : rbO (.val (.bool b)) = some b := rfl
@[simp] theorem w_noN {r : Rs} : noN (r, []) = some r := rfl
@[simp] theorem x_dict0 : mDict0 ρ = some (.fr (.dict []), ρ) := rfl
@[simp] theorem x_retN : mRetN ρ = some (.rt (.val .none) ρ) := rfl
@[simp] theorem x_idx {a b : M Res} : mIdx a b ρ = (mShare a ρ).bind fun p => (mShare b p.2).bind fun q => (dIdx p.1 q.1).bind fun r => some (r.res, q.2) := by
  unfold mIdx
  rw [x_bnd]
  congr 1; funext p
  rw [x_bnd]
  congr 1; funext q
  cases dIdx p.1 q.1 <;> rfl
@[simp] theorem x_disp1 {a b : M Res} : mDisp1 a b ρ = (mShare a ρ).bind fun p => (mShare b p.2).bind fun q => ((setD (.dict []) p.1 q.1).bind dcO).bind fun kvs => some (.fr (.dict kvs), q.2) := by
  unfold mDisp1
  rw [x_bnd]
  congr 1; funext p
  rw [x_bnd]
  congr 1; funext q
  cases setD (.dict []) p.1 q.1 with
  | none => rfl
  | some d => cases d <;> rfl
@[simp] theorem x_callK {g : Sig} {ks : List Str} {ms : M (List D)} : mCallK g ks ms ρ = (ms ρ).bind fun p => if p.1.length = ks.length ∧ g.ms = List.replicate (reord ks g.ps p.1).length false then ((g.fn (reord ks g.ps p.1)).bind noN).bind fun r => some (r.res, p.2) else none := by
  unfold mCallK
  rw [x_bnd]
  congr 1; funext p
  by_cases h : p.1.length = ks.length ∧ g.ms = List.replicate (reord ks g.ps p.1).length false
  · rw [if_pos h]
    simp only [h.1, h.2, decide_true, Bool.and_self, if_true]
    cases g.fn (reord ks g.ps p.1) with
    | none => rfl
    | some z => obtain ⟨r, news⟩ := z; cases news <;> rfl
  · rw [if_neg h]
    have : (decide (p.1.length = ks.length) && decide (g.ms = List.replicate (reord ks g.ps p.1).length false)) = false := by
      rw [Bool.and_eq_false_iff, decide_eq_false_iff_not, decide_eq_false_iff_not]
      by_cases c : p.1.length = ks.length
      · exact .inr fun d => h ⟨c, d⟩
      · exact .inl c
    rw [this]; rfl
@[simp] theorem x_chain {g g' : D → D → Option Rs} {a b c : M Res} : mChain g g' a b c ρ = (a ρ).bind fun p => (b p.2).bind fun q => (shO q.1).bind fun e => (look q.2 p.1).bind fun d => ((g d e).bind rbO).bind fun t => if t then (c q.2).bind fun s => (look s.2 s.1).bind fun f => (g' e f).bind fun r => some (r.res, s.2) else some (.sh (.bool false), q.2) := by
  unfold mChain
  rw [x_bnd]
  congr 1; funext p
  rw [x_bnd]
  congr 1; funext q
  obtain ⟨rb, ρ2⟩ := q
  cases rb with
  | fr d => rfl
  | bw i => rfl
  | sh e =>
    dsimp only [shO, Option.bind_some]
    cases look ρ2 p.1 with
    | none => rfl
    | some d =>
      dsimp only [Option.bind_some]
      cases g d e with
      | none => rfl
      | some r =>
        cases r with
        | new d => rfl
        | val d =>
          cases d with
          | bool t =>
            cases t with
            | false => rfl
            | true =>
              dsimp only [rbO, Option.bind_some]
              rw [x_bnd, if_pos rfl]
              congr 1; funext s
              cases look s.2 s.1 with
              | none => rfl
              | some f => dsimp only [Option.bind_some]; cases g' e f <;> rfl
          | _ => rfl
theorem x_dc {mi : M (List D)} {f : D → Rho → Option Rho} {tt : M Bool} {tk tv : M Res} {vs : List Nat} : mDc mi f tt tk tv vs ρ = (mi ρ).bind fun p => if noOwn vs p.2 then (dcL f tt tk tv vs p.1 [] p.2).bind fun q => some (.fr (.dict q.1), backR vs 0 p.2 (wipeR vs 0 q.2)) else none := by
  unfold mDc
  cases mi ρ with
  | none => rfl
  | some p =>
    obtain ⟨ds, ρ1⟩ := p
    simp only [Option.bind_some]
    congr 1
    cases dcL f tt tk tv vs ds [] ρ1 <;> rfl
end
theorem back_wipe (vs : List Nat) : ∀ (n : Nat) (ρ : Rho), backR vs n ρ (wipeR vs n ρ) = ρ
  | _, [] => rfl
  | n, s :: r => by
    show (if n ∈ vs then s else if n ∈ vs then Slot.no else s) :: backR vs (n + 1) r (wipeR vs (n + 1) r) = s :: r
    rw [back_wipe vs (n + 1) r]
    by_cases h : n ∈ vs <;> simp [h]
/-- one turn of a comprehension -/
def LcStep (f : D → Rho → Option Rho) (tt : M Bool) (te : M Res) (vs : List Nat) (w : Rho) (d : D) : Option D → Prop
  | none => ∃ ρ1 ρ2, f d w = some ρ1 ∧ tt ρ1 = some (false, ρ2) ∧ wipeR vs 0 ρ2 = w
  | some y => ∃ ρ1 ρ2 ρ3, f d w = some ρ1 ∧ tt ρ1 = some (true, ρ2) ∧ mShare te ρ2 = some (y, ρ3) ∧ isDict y = false ∧ wipeR vs 0 ρ3 = w
theorem lcL_run {β : Type} {f : D → Rho → Option Rho} {tt : M Bool} {te : M Res} {vs : List Nat} {w : Rho} (e : β → D) (g : β → Option D) : ∀ (xs : List β) (acc : List D) (ρ : Rho), wipeR vs 0 ρ = w → acc.length + xs.length ≤ big →
    (∀ x ∈ xs, LcStep f tt te vs w (e x) (g x)) → ∃ ρ', lcL f tt te vs (xs.map e) acc ρ = some (acc ++ xs.filterMap g, ρ') ∧ wipeR vs 0 ρ' = w
  | [], acc, ρ, hw, _, _ => ⟨ρ, by simp [lcL], hw⟩
  | x :: xs, acc, ρ, hw, hl, h => by
    have h0 := h x (by simp)
    rw [List.length_cons] at hl
    cases q : g x with
    | none =>
      rw [q] at h0
      obtain ⟨ρ1, ρ2, e1, e2, e3⟩ := h0
      obtain ⟨ρ', e4, e5⟩ := lcL_run e g xs acc ρ2 e3 (by omega) fun y hy => h y (by simp [hy])
      refine ⟨ρ', ?_, e5⟩
      simp only [List.map_cons, lcL, hw, e1, e2, e4, List.filterMap_cons, q]
    | some y =>
      rw [q] at h0
      obtain ⟨ρ1, ρ2, ρ3, e1, e2, e3, e4, e5⟩ := h0
      obtain ⟨ρ', e6, e7⟩ := lcL_run e g xs (acc ++ [y]) ρ3 e5 (by rw [List.length_append]; simp; omega) fun y hy => h y (by simp [hy])
      refine ⟨ρ', ?_, e7⟩
      have hb : acc.length < big := by omega
      simp only [List.map_cons, lcL, hw, e1, e2, e3, e4, hb, decide_true, Bool.not_false, Bool.and_self, if_true, e6, List.filterMap_cons, q]
      simp
theorem lc_run {β : Type} {mi : M (List D)} {f : D → Rho → Option Rho} {tt : M Bool} {te : M Res} {vs : List Nat} {ρ ρ1 : Rho} (e : β → D) (xs : List β) (g : β → Option D) (h1 : mi ρ = some (xs.map e, ρ1)) (h2 : noOwn vs ρ1 = true) (h3 : xs.length ≤ big)
    (h4 : ∀ x ∈ xs, LcStep f tt te vs (wipeR vs 0 ρ1) (e x) (g x)) : mLc mi f tt te vs ρ = some (.fr (.list (xs.filterMap g)), ρ1) := by
  obtain ⟨ρ', e1, e2⟩ := lcL_run e g xs [] ρ1 rfl (by simpa using h3) h4
  rw [x_lc, h1, Option.bind_some, if_pos h2, e1, Option.bind_some, e2, back_wipe]
  simp
theorem lc_map {β : Type} {mi : M (List D)} {f : D → Rho → Option Rho} {tt : M Bool} {te : M Res} {vs : List Nat} {ρ ρ1 : Rho} (e : β → D) (xs : List β) (g : β → D) (h1 : mi ρ = some (xs.map e, ρ1)) (h2 : noOwn vs ρ1 = true) (h3 : xs.length ≤ big)
    (h4 : ∀ x ∈ xs, LcStep f tt te vs (wipeR vs 0 ρ1) (e x) (some (g x))) : mLc mi f tt te vs ρ = some (.fr (.list (xs.map g)), ρ1) := by
  rw [lc_run e xs (fun x => some (g x)) h1 h2 h3 h4, ← List.filterMap_eq_map]
  rfl
/-- a comprehension whose turns change the state (draws): what holds ahead of each turn -/
theorem lc_inv {β : Type} {mi : M (List D)} {f : D → Rho → Option Rho} {tt : M Bool} {te : M Res} {vs : List Nat} {ρ ρ1 : Rho} (e : β → D) (xs : List β) (P : Nat → List D → Rho → Prop) (h1 : mi ρ = some (xs.map e, ρ1)) (h2 : noOwn vs ρ1 = true) (h0 : P 0 [] ρ1)
    (h4 : ∀ i x acc ρ, xs[i]? = some x → P i acc ρ → ∃ ρ1, f (e x) (wipeR vs 0 ρ) = some ρ1 ∧ ∃ b ρ2, tt ρ1 = some (b, ρ2) ∧ (b = false → P (i + 1) acc ρ2) ∧
      (b = true → ∃ y ρ3, mShare te ρ2 = some (y, ρ3) ∧ isDict y = false ∧ acc.length < big ∧ P (i + 1) (acc ++ [y]) ρ3)) :
    ∃ acc ρ', mLc mi f tt te vs ρ = some (.fr (.list acc), backR vs 0 ρ1 (wipeR vs 0 ρ')) ∧ P xs.length acc ρ' := by
  obtain ⟨acc, ρ', e1, e2⟩ := lcL_inv (f := f) (tt := tt) (te := te) (vs := vs) P (xs.map e) 0 [] ρ1 h0 fun i d acc ρ hd hp => by
    rw [List.getElem?_map, Option.map_eq_some_iff] at hd
    obtain ⟨x, hx, rfl⟩ := hd
    have := h4 i x acc ρ hx (by simpa using hp)
    simpa using this
  refine ⟨acc, ρ', ?_, by simpa using e2⟩
  rw [x_lc, h1, Option.bind_some, if_pos h2, e1, Option.bind_some]
/-- a loop over listed things -/
theorem for_inv {β : Type} {mi : M (List D)} {f : D → Rho → Option Rho} {b : SM} {ρ ρ1 : Rho} (e : β → D) (xs : List β) (P : Nat → Rho → Prop) (h1 : mi ρ = some (xs.map e, ρ1)) (h0 : P 0 ρ1)
    (h : ∀ i x ρ, xs[i]? = some x → P i ρ → ∃ ρ1, f (e x) ρ = some ρ1 ∧ ∃ ρ2, (b ρ1 = some (.nx ρ2) ∨ b ρ1 = some (.ct ρ2)) ∧ P (i + 1) ρ2) : ∃ ρ', mFor mi f b ρ = some (.nx ρ') ∧ P xs.length ρ' := by
  obtain ⟨ρ', e1, e2⟩ := forL_inv (f := f) (b := b) P (xs.map e) 0 ρ1 h0 fun i d ρ hd hp => by
    rw [List.getElem?_map, Option.map_eq_some_iff] at hd
    obtain ⟨x, hx, rfl⟩ := hd
    simpa using h i x ρ hx (by simpa using hp)
  exact ⟨ρ', by rw [x_for, h1]; exact e1, by simpa using e2⟩
theorem range0 (n : Nat) : rangeD 0 (n : Int) = (List.range n).map fun i : Nat => .int (i : Int) := by
  unfold rangeD
  simp
section
variable {i j : Int} {a b : List D} {x z : Str} {d e : D}
@[simp] theorem o_powI : dPow (.int i) (.int j) = if cPow i j then some (.val (.int (i ^ j.toNat))) else none := rfl
@[simp] theorem o_max : dII2 fMax [.int i, .int j] = some (.val (.int (max i j))) := by
  show some (Rs.val (.int (fMax i j))) = _
  unfold fMax; congr 3; split <;> omega
@[simp] theorem o_min : dII2 fMin [.int i, .int j] = some (.val (.int (min i j))) := by
  show some (Rs.val (.int (fMin i j))) = _
  unfold fMin; congr 3; split <;> omega
@[simp] theorem o_app : mtAppend (.list a) [e] = if !isDict e && decide (a.length < big) then some (.list (a ++ [e]), .none) else none := rfl
@[simp] theorem o_ext : mtExtend (.list a) [.list b] = if decide (a.length + b.length < big) then some (.list (a ++ b), .none) else none := rfl
@[simp] theorem o_addT : dAdd (.tuple a) (.tuple b) = if decide (a.length + b.length ≤ big) then some (.val (.tuple (a ++ b))) else none := rfl
@[simp] theorem o_cutT {lo hi : Option Int} : dCut (.tuple a) lo hi = some (.val (.tuple (cutD a lo hi))) := rfl
@[simp] theorem o_cutL {lo hi : Option Int} : dCut (.list a) lo hi = some (.new (.list (cutD a lo hi))) := rfl
@[simp] theorem o_backT : dBack (.tuple a) = some (.val (.tuple a.reverse)) := rfl
@[simp] theorem o_reprB {b : Bool} : dRepr (.bool b) = some (.val (.str (if b then "True" else "False"))) := rfl
@[simp] theorem o_itemsT : itemsD (.tuple a) = some a := rfl
@[simp] theorem o_itemsL : itemsD (.list a) = some a := rfl
@[simp] theorem w_isD1 : isDict (.int i) = false := rfl
@[simp] theorem w_isD2 : isDict (.str x) = false := rfl
@[simp] theorem w_isD3 : isDict (.tuple a) = false := rfl
@[simp] theorem w_isD4 : isDict (.list a) = false := rfl
@[simp] theorem w_isD5 {b : Bool} : isDict (.bool b) = false := rfl
theorem cut_take (n : Nat) : cutD a none (some (n : Int)) = a.take n := by
  unfold cutD
  rw [HT.sIx_none, HT.sIx_nat, List.drop_zero, Nat.sub_zero, List.take_eq_take_iff]
  omega
theorem cut_drop (n : Nat) : cutD a (some (n : Int)) none = a.drop n := by
  unfold cutD
  rw [HT.sIx_none, HT.sIx_nat]
  by_cases h : n ≤ a.length
  · rw [Nat.min_eq_left h, List.take_of_length_le]; simp
  · rw [Nat.min_eq_right (by omega), List.drop_of_length_le (by omega), List.drop_of_length_le (by omega)]; simp
theorem bools_map {β : Type} (g : β → Bool) : ∀ xs : List β, boolsD (xs.map fun x => .bool (g x)) = some (xs.map g)
  | [] => rfl
  | x :: xs => by simp only [List.map_cons, boolsD, bools_map g xs]
theorem o_all {β : Type} (g : β → Bool) (xs : List β) : dAll (.list (xs.map fun x => .bool (g x))) = some (.val (.bool (xs.all g))) := by
  unfold dAll onBools
  simp only [bools_map]
  simp [List.all_map]
theorem noD_map {β : Type} (e : β → D) (h : ∀ x, isDict (e x) = false) (xs : List β) : noDicts (xs.map e) = true := by
  unfold noDicts
  rw [List.all_map, List.all_eq_true]
  intro x _
  simp [h]
end
/-! ### a comprehension over a slot -/
def lcHb (i : Nat) (ds : List D) (p : Res × Rho) : Option (Res × Rho) := match p.2[i]? with
  | some .no => some (p.1, p.2.set i (.ow (.list ds)))
  | _ => none
def lcHo (i : Nat) (mi : M (List D)) (f : D → Rho → Option Rho) (tt : M Bool) (te : M Res) (vs : List Nat) (ρ : Rho) : Option Slot → Option (Res × Rho)
  | some (.ow (.list ds)) => (mLc (fun ρ => some (ds, ρ)) f tt te vs (ρ.set i .no)).bind (lcHb i ds)
  | _ => mLc mi f tt te vs ρ
section
variable {i : Nat} {mi : M (List D)} {f : D → Rho → Option Rho} {tt : M Bool} {te : M Res} {vs : List Nat} {ρ : Rho}
@[simp] theorem x_lcH : mLcH i mi f tt te vs ρ = lcHo i mi f tt te vs ρ (ρ[i]?) := by
  unfold mLcH lcHo
  cases ρ[i]? with
  | none => rfl
  | some s =>
    cases s with
    | ow d =>
      cases d with
      | list ds =>
        dsimp only
        cases mLc (fun ρ => some (ds, ρ)) f tt te vs (ρ.set i .no) with
        | none => rfl
        | some p =>
          obtain ⟨r, ρ'⟩ := p
          rfl
      | _ => rfl
    | _ => rfl
@[simp] theorem x_lcH1 {d : D} : lcHo i mi f tt te vs ρ (some (.sh d)) = mLc mi f tt te vs ρ := rfl
@[simp] theorem x_lcH2 : lcHo i mi f tt te vs ρ (some .no) = mLc mi f tt te vs ρ := rfl
@[simp] theorem x_lcH3 {d : D} : lcHo i mi f tt te vs ρ (some (.mp d)) = mLc mi f tt te vs ρ := rfl
@[simp] theorem x_lcH4 {ds : List D} : lcHo i mi f tt te vs ρ (some (.ow (.list ds))) = (mLc (fun ρ => some (ds, ρ)) f tt te vs (ρ.set i .no)).bind (lcHb i ds) := rfl
theorem lcH_run {β : Type} (e : β → D) (xs : List β) (g : β → Option D) (h1 : ρ[i]? = some (.ow (.list (xs.map e)))) (h2 : noOwn vs (ρ.set i .no) = true) (h3 : xs.length ≤ big)
    (h4 : ∀ x ∈ xs, LcStep f tt te vs (wipeR vs 0 (ρ.set i .no)) (e x) (g x)) : mLcH i mi f tt te vs ρ = some (.fr (.list (xs.filterMap g)), ρ) := by
  have hi : i < ρ.length := (List.getElem?_eq_some_iff.mp h1).1
  have hg : ρ[i] = .ow (.list (xs.map e)) := (List.getElem?_eq_some_iff.mp h1).2
  have hs : (ρ.set i .no)[i]? = some .no := List.getElem?_set_self hi
  rw [x_lcH, h1, x_lcH4, lc_run (ρ1 := ρ.set i .no) e xs g rfl h2 h3 h4, Option.bind_some]
  unfold lcHb
  dsimp only
  rw [hs]
  dsimp only
  rw [List.set_set]
  have : ρ.set i (.ow (.list (xs.map e))) = ρ := by
    rw [← hg]; exact List.set_getElem_self hi
  rw [this]
end
end Z
end

section
namespace M
variable {α : Type} [DecidableEq α]
def inv (o : List α) : List α → Nat
  | [] => 0
  | a :: l => l.countP (fun b => decide (o.idxOf b < o.idxOf a)) + inv o l
def Alike (R : List (α × α)) (o x : List α) : Prop := ∀ r ∈ R, (o.idxOf r.1 < o.idxOf r.2 ↔ x.idxOf r.1 < x.idxOf r.2)
def Apart (R : List (α × α)) (a b : α) : Prop := (a, b) ∉ R ∧ (b, a) ∉ R
instance (R : List (α × α)) (a b : α) : Decidable (Apart R a b) := inferInstanceAs (Decidable (_ ∧ _))
def arr (R : List (α × α)) (x : List α) : List (α × α) := R.map fun r => if x.idxOf r.1 < x.idxOf r.2 then r else (r.2, r.1)
theorem Alike.refl (R : List (α × α)) (o : List α) : Alike R o o := fun _ _ => Iff.rfl
theorem Alike.trans {R : List (α × α)} {o x y : List α} (h : Alike R o x) (g : Alike R x y) : Alike R o y := fun r hr => (h r hr).trans (g r hr)
theorem Alike.symm {R : List (α × α)} {o x : List α} (h : Alike R o x) : Alike R x o := fun r hr => (h r hr).symm
theorem arr_iff {R : List (α × α)} {o x : List α} (hR : ∀ r ∈ R, r.1 ≠ r.2) : arr R o = arr R x ↔ Alike R o x := by
  unfold arr Alike
  constructor
  · intro h r hr
    have := (List.map_inj_left.mp h) r hr
    have hne := hR r hr
    by_cases c : o.idxOf r.1 < o.idxOf r.2 <;> by_cases d : x.idxOf r.1 < x.idxOf r.2 <;> simp [c, d] at this ⊢
    · exact hne (congrArg Prod.fst this)
    · exact hne (congrArg Prod.snd this)
  · intro h
    refine List.map_congr_left fun r hr => ?_
    have := h r hr
    by_cases c : o.idxOf r.1 < o.idxOf r.2
    · rw [if_pos c, if_pos (this.mp c)]
    · rw [if_neg c, if_neg (fun d => c (this.mpr d))]
theorem inv_swap {o : List α} {a b : α} (h : o.idxOf a < o.idxOf b) (s : List α) : ∀ p : List α, inv o (p ++ b :: a :: s) = inv o (p ++ a :: b :: s) + 1
  | [] => by
    have h' : ¬ o.idxOf b < o.idxOf a := by omega
    simp only [List.nil_append, inv, List.countP_cons, h, h', decide_true, decide_false, if_true]
    simp
    omega
  | c :: p => by
    have e : (p ++ b :: a :: s).countP (fun d => decide (o.idxOf d < o.idxOf c)) = (p ++ a :: b :: s).countP (fun d => decide (o.idxOf d < o.idxOf c)) :=
      List.Perm.countP_eq _ (List.Perm.append_left p (List.Perm.swap a b s))
    simp only [List.cons_append, inv, e, inv_swap h s p]
    omega
theorem idx_a {p s : List α} {a : α} (h : a ∉ p) : (p ++ a :: s).idxOf a = p.length := by
  rw [List.idxOf_append, if_neg h]; simp
theorem idx_b {p s : List α} {a b : α} (h : b ∉ p) (n : b ≠ a) : (p ++ a :: b :: s).idxOf b = p.length + 1 := by
  have := idx_a (p := p ++ [a]) (s := s) (a := b) (by simp [h, n])
  simpa using this
theorem idx_c {p s : List α} {a b c : α} (ha : c ≠ a) (hb : c ≠ b) : (p ++ a :: b :: s).idxOf c = (p ++ b :: a :: s).idxOf c := by
  rw [List.idxOf_append, List.idxOf_append]
  split
  · rfl
  · rw [List.idxOf_cons, List.idxOf_cons, List.idxOf_cons, List.idxOf_cons]
    have h1 : (a == c) = false := by simpa using fun e : a = c => ha e.symm
    have h2 : (b == c) = false := by simpa using fun e : b = c => hb e.symm
    simp [h1, h2]
theorem idx_c2 {p s : List α} {a b c : α} (ha : c ≠ a) (hb : c ≠ b) : (p ++ a :: b :: s).idxOf c < p.length ∨ p.length + 1 < (p ++ a :: b :: s).idxOf c := by
  by_cases h : c ∈ p
  · left; rw [List.idxOf_append, if_pos h]; exact List.idxOf_lt_length_iff.mpr h
  · right
    rw [List.idxOf_append, if_neg h, List.idxOf_cons, List.idxOf_cons]
    have h1 : (a == c) = false := by simpa using fun e : a = c => ha e.symm
    have h2 : (b == c) = false := by simpa using fun e : b = c => hb e.symm
    simp [h1, h2]
    omega
theorem alike_swap {R : List (α × α)} {p s : List α} {a b : α} (hn : (p ++ a :: b :: s).Nodup) (hR : ∀ r ∈ R, r.1 ≠ r.2) (h : Apart R a b) : Alike R (p ++ a :: b :: s) (p ++ b :: a :: s) := by
  intro r hr
  obtain ⟨x, y⟩ := r
  have hxy : x ≠ y := hR _ hr
  have h1 : a ∉ p ∧ b ∉ p ∧ a ≠ b := by
    rw [List.nodup_append] at hn
    obtain ⟨_, h2, h3⟩ := hn
    refine ⟨fun c => h3 a c a (by simp) rfl, fun c => h3 b c b (by simp) rfl, fun e => ?_⟩
    rw [e] at h2; simp at h2
  obtain ⟨ha, hb, hab⟩ := h1
  have A1 := idx_a (s := b :: s) ha
  have A2 := idx_a (s := a :: s) hb
  have B1 := idx_b (s := s) hb (Ne.symm hab)
  have B2 := idx_b (s := s) ha hab
  show (List.idxOf x _ < List.idxOf y _) ↔ (List.idxOf x _ < List.idxOf y _)
  by_cases xa : x = a
  · subst xa
    by_cases yb : y = b
    · subst yb; exact absurd hr h.1
    · have := idx_c2 (p := p) (s := s) (a := x) (b := b) (c := y) (Ne.symm hxy) yb
      rw [A1, B2, ← idx_c (p := p) (s := s) (a := x) (b := b) (c := y) (Ne.symm hxy) yb]
      omega
  · by_cases xb : x = b
    · subst xb
      by_cases ya : y = a
      · subst ya; exact absurd hr h.2
      · have := idx_c2 (p := p) (s := s) (a := a) (b := x) (c := y) ya (Ne.symm hxy)
        rw [B1, A2, ← idx_c (p := p) (s := s) (a := a) (b := x) (c := y) ya (Ne.symm hxy)]
        omega
    · have cx := idx_c (p := p) (s := s) (a := a) (b := b) (c := x) xa xb
      have cx2 := idx_c2 (p := p) (s := s) (a := a) (b := b) (c := x) xa xb
      by_cases ya : y = a
      · subst ya; rw [A1, B2, ← cx]; omega
      · by_cases yb : y = b
        · subst yb; rw [B1, A2, ← cx]; omega
        · rw [← cx, ← idx_c (p := p) (s := s) (a := a) (b := b) (c := y) ya yb]
theorem inv_ge {o : List α} : ∀ {c : α} {l : List α}, inv o (c :: l) = 0 → ∀ b ∈ l, o.idxOf c ≤ o.idxOf b := fun {c l} h b hb => by
  have h1 : l.countP (fun b => decide (o.idxOf b < o.idxOf c)) = 0 := by unfold inv at h; omega
  have := List.countP_eq_zero.mp h1 b hb
  simpa using this
theorem ex_inv {o : List α} : ∀ {x : List α}, 0 < inv o x → ∃ p a b s, x = p ++ b :: a :: s ∧ o.idxOf a < o.idxOf b
  | [], h => absurd h (by simp [inv])
  | c :: l, h => by
    by_cases hl : 0 < inv o l
    · obtain ⟨p, a, b, s, e, h1⟩ := ex_inv hl
      exact ⟨c :: p, a, b, s, by rw [e]; rfl, h1⟩
    · cases l with
      | nil => simp [inv] at h
      | cons d l =>
        by_cases hd : o.idxOf d < o.idxOf c
        · exact ⟨[], d, c, l, rfl, hd⟩
        · exfalso
          have h0 : inv o (d :: l) = 0 := by omega
          have hc : (d :: l).countP (fun b => decide (o.idxOf b < o.idxOf c)) = 0 := by
            refine List.countP_eq_zero.mpr fun b hb => ?_
            rcases List.mem_cons.mp hb with e | e
            · subst e; simpa using hd
            · have := inv_ge h0 b e
              simp; omega
          have : inv o (c :: d :: l) = 0 := by show _ + inv o (d :: l) = 0; rw [hc, h0]
          omega
theorem pair_inv {o : List α} : ∀ {x : List α}, inv o x = 0 → x.Pairwise fun a b => o.idxOf a ≤ o.idxOf b
  | [], _ => .nil
  | c :: l, h => .cons (inv_ge h) (pair_inv (by unfold inv at h; omega))
theorem pair_self : ∀ {o : List α}, o.Nodup → o.Pairwise fun a b => o.idxOf a ≤ o.idxOf b := fun {o} hn => by
  rw [List.pairwise_iff_getElem]
  intro i j hi hj hij
  rw [hn.idxOf_getElem, hn.idxOf_getElem]
  omega
theorem eq_of_inv {o x : List α} (hn : o.Nodup) (hp : x.Perm o) (h : inv o x = 0) : x = o := by
  refine List.Perm.eq_of_pairwise (le := fun a b => o.idxOf a ≤ o.idxOf b) (fun a b ha hb h1 h2 => ?_) (pair_inv h) (pair_self hn) hp
  have e : o.idxOf a = o.idxOf b := by omega
  have h1 := List.idxOf_lt_length_iff.mpr (hp.mem_iff.mp ha)
  have h2 := List.idxOf_lt_length_iff.mpr hb
  have e1 := List.getElem_idxOf h1
  have e2 := List.getElem_idxOf h2
  rw [← e1, ← e2]
  simp [e]
theorem inv_of_pair {o : List α} : ∀ {x : List α}, (x.Pairwise fun a b => o.idxOf a ≤ o.idxOf b) → inv o x = 0
  | [], _ => rfl
  | c :: l, .cons h hs => by
    have : l.countP (fun b => decide (o.idxOf b < o.idxOf c)) = 0 := List.countP_eq_zero.mpr fun b hb => by
      have := h b hb; simp; omega
    show _ + inv o l = 0
    rw [this, inv_of_pair hs]
theorem inv_self {o : List α} (hn : o.Nodup) : inv o o = 0 := inv_of_pair (pair_self hn)
theorem inv_le (o : List α) : ∀ x : List α, inv o x ≤ x.length * x.length
  | [] => by simp [inv]
  | c :: l => by
    have h1 := inv_le o l
    have h2 : l.countP (fun b => decide (o.idxOf b < o.idxOf c)) ≤ l.length := List.countP_le_length
    show _ + inv o l ≤ (l.length + 1) * (l.length + 1)
    rw [Nat.add_mul, Nat.mul_add]
    omega
theorem apart_of {R : List (α × α)} {o p s : List α} {a b : α} (hn : (p ++ b :: a :: s).Nodup) (h : Alike R o (p ++ b :: a :: s)) (hi : o.idxOf a < o.idxOf b) : Apart R b a := by
  have h1 : a ∉ p ∧ b ∉ p ∧ a ≠ b := by
    rw [List.nodup_append] at hn
    obtain ⟨_, h2, h3⟩ := hn
    refine ⟨fun c => h3 a c a (by simp) rfl, fun c => h3 b c b (by simp) rfl, fun e => ?_⟩
    rw [e] at h2; simp at h2
  obtain ⟨ha, hb, hab⟩ := h1
  have A := idx_a (s := a :: s) hb
  have B := idx_b (s := s) ha hab
  constructor
  · intro m; have := h _ m; dsimp only at this; rw [A, B] at this; omega
  · intro m; have := h _ m; dsimp only at this; rw [A, B] at this; omega
/-- what stands in the flood behind t rounds -/
def At (R : List (α × α)) (o : List α) (y : List α) : Prop := y.Perm o ∧ Alike R o y
/-- one swap -/
def Nb (R : List (α × α)) (x y : List α) : Prop := ∃ p a b s, x = p ++ a :: b :: s ∧ y = p ++ b :: a :: s ∧ Apart R a b
theorem Nb.at {R : List (α × α)} {o x y : List α} (ho : o.Nodup) (hR : ∀ r ∈ R, r.1 ≠ r.2) (h : Nb R x y) (hx : At R o x) : At R o y := by
  obtain ⟨p, a, b, s, rfl, rfl, hap⟩ := h
  have hn := hx.1.nodup_iff.mpr ho
  exact ⟨(List.Perm.append_left p (List.Perm.swap a b s)).trans hx.1, hx.2.trans (alike_swap hn hR hap)⟩
theorem Nb.inv {R : List (α × α)} {o x y : List α} (ho : o.Nodup) (h : Nb R x y) (hx : At R o x) : inv o y = inv o x + 1 ∨ inv o x = M.inv o y + 1 := by
  obtain ⟨p, a, b, s, rfl, rfl, hap⟩ := h
  have hn := hx.1.nodup_iff.mpr ho
  have hab : a ≠ b := by
    rw [List.nodup_append] at hn
    intro e; rw [e] at hn; simp at hn
  have ha := List.idxOf_lt_length_iff.mpr (hx.1.mem_iff.mp (show a ∈ p ++ a :: b :: s by simp))
  have hb := List.idxOf_lt_length_iff.mpr (hx.1.mem_iff.mp (show b ∈ p ++ a :: b :: s by simp))
  have ne : o.idxOf a ≠ o.idxOf b := fun e => hab (by rw [← List.getElem_idxOf ha, ← List.getElem_idxOf hb]; simp [e])
  rcases Nat.lt_or_gt_of_ne ne with h | h
  · left; exact inv_swap h s p
  · right; exact inv_swap h s p
/-- the flood's round -/
theorem round {R : List (α × α)} {o : List α} (ho : o.Nodup) (hR : ∀ r ∈ R, r.1 ≠ r.2) {t : Nat} {K B K' B' : List α → Prop}
    (hK : ∀ y, K y ↔ At R o y ∧ inv o y ≤ t) (hB : ∀ y, B y ↔ At R o y ∧ inv o y = t)
    (hK' : ∀ y, K' y ↔ K y ∨ ∃ x, B x ∧ Nb R x y) (hB' : ∀ y, B' y ↔ (∃ x, B x ∧ Nb R x y) ∧ ¬ K y) :
    (∀ y, K' y ↔ At R o y ∧ inv o y ≤ t + 1) ∧ ∀ y, B' y ↔ At R o y ∧ inv o y = t + 1 := by
  have key : ∀ y, At R o y → inv o y = t + 1 → ∃ x, B x ∧ Nb R x y := fun y hy hi => by
    obtain ⟨p, a, b, s, rfl, hab⟩ := ex_inv (o := o) (x := y) (by omega)
    have hn := hy.1.nodup_iff.mpr ho
    have hap := apart_of hn hy.2 hab
    have nb : Nb R (p ++ b :: a :: s) (p ++ a :: b :: s) := ⟨p, b, a, s, rfl, rfl, hap⟩
    refine ⟨p ++ a :: b :: s, (hB _).mpr ⟨nb.at ho hR hy, ?_⟩, p, a, b, s, rfl, rfl, hap.2, hap.1⟩
    have := inv_swap hab s p
    omega
  have nx : ∀ x y, B x → Nb R x y → At R o y ∧ inv o y ≤ t + 1 ∧ (¬ K y → inv o y = t + 1) := fun x y hx nb => by
    have ⟨h1, h2⟩ := (hB x).mp hx
    have a := nb.at ho hR h1
    have i := nb.inv ho h1
    refine ⟨a, by omega, fun nk => ?_⟩
    rcases i with i | i
    · omega
    · exact absurd ((hK y).mpr ⟨a, by omega⟩) nk
  constructor
  · intro y
    rw [hK', hK]
    constructor
    · rintro (⟨h1, h2⟩ | ⟨x, hx, nb⟩)
      · exact ⟨h1, by omega⟩
      · have := nx x y hx nb; exact ⟨this.1, this.2.1⟩
    · rintro ⟨h1, h2⟩
      by_cases c : inv o y ≤ t
      · exact .inl ⟨h1, c⟩
      · exact .inr (key y h1 (by omega))
  · intro y
    rw [hB']
    constructor
    · rintro ⟨⟨x, hx, nb⟩, nk⟩
      have := nx x y hx nb
      exact ⟨this.1, this.2.2 nk⟩
    · rintro ⟨h1, h2⟩
      exact ⟨key y h1 h2, fun k => by have := ((hK y).mp k).2; omega⟩
/-- all sequences of k unlike things -/
def exts (P : List α) (got : List (List α)) : List (List α) := got.flatMap fun o => (P.filter fun x => !decide (x ∈ o)).map fun x => o ++ [x]
def allK (P : List α) : Nat → List (List α)
  | 0 => [[]]
  | k + 1 => exts P (allK P k)
theorem mem_allK {P : List α} : ∀ {k : Nat} {y : List α}, y ∈ allK P k ↔ y.Nodup ∧ (∀ x ∈ y, x ∈ P) ∧ y.length = k
  | 0, y => by
    simp only [allK, List.mem_singleton]
    constructor
    · rintro rfl; simp
    · rintro ⟨_, _, h⟩; exact List.length_eq_zero_iff.mp h
  | k + 1, y => by
    simp only [allK, exts, List.mem_flatMap, List.mem_map, List.mem_filter]
    constructor
    · rintro ⟨o, ho, x, ⟨hx, hd⟩, rfl⟩
      obtain ⟨h1, h2, h3⟩ := mem_allK.mp ho
      have hd : x ∉ o := by simpa using hd
      refine ⟨?_, fun z hz => ?_, by simp [h3]⟩
      · rw [List.nodup_append]
        exact ⟨h1, by simp, fun a ha b hb e => by simp at hb; subst hb; subst e; exact hd ha⟩
      · rcases List.mem_append.mp hz with hz | hz
        · exact h2 z hz
        · simp at hz; subst hz; exact hx
    · rintro ⟨h1, h2, h3⟩
      have hne : y ≠ [] := by intro e; rw [e] at h3; simp at h3
      have e := List.dropLast_concat_getLast hne
      refine ⟨y.dropLast, mem_allK.mpr ⟨?_, fun z hz => h2 z (List.dropLast_subset _ hz), by simp [h3]⟩, y.getLast hne, ⟨h2 _ (List.getLast_mem hne), ?_⟩, e⟩
      · exact h1.sublist (List.dropLast_sublist _)
      · rw [← e] at h1
        rw [List.nodup_append] at h1
        simp
        intro m
        exact h1.2.2 _ m _ (by simp) rfl
theorem len_exts (P : List α) : ∀ got : List (List α), (exts P got).length ≤ got.length * P.length
  | [] => by simp [exts]
  | o :: got => by
    have := len_exts P got
    unfold exts at this ⊢
    rw [List.flatMap_cons, List.length_append, List.length_cons, Nat.add_mul, List.length_map]
    have := List.length_filter_le (fun x => !decide (x ∈ o)) P
    omega
theorem len_allK (P : List α) : ∀ k, (allK P k).length ≤ P.length ^ k
  | 0 => by simp [allK]
  | k + 1 => by
    have h1 := len_exts P (allK P k)
    have h2 := Nat.mul_le_mul_right P.length (len_allK P k)
    rw [Nat.pow_succ]
    exact Nat.le_trans h1 h2
theorem perm_of {P y : List α} (hn : y.Nodup) (hs : ∀ x ∈ y, x ∈ P) (hl : y.length = P.length) : y.Perm P := by
  have key : ∀ (y P : List α), y.Nodup → (∀ x ∈ y, x ∈ P) → y.length = P.length → y.Perm P := by
    intro y
    induction y with
    | nil => intro P _ _ h; rw [List.length_eq_zero_iff.mp h.symm]
    | cons a y ih =>
      intro P hn hs hl
      have ha := hs a (by simp)
      have hp := List.perm_cons_erase ha
      rw [List.nodup_cons] at hn
      have hle := List.length_erase_of_mem ha
      rw [List.length_cons] at hl
      refine (List.Perm.cons a (ih (P.erase a) hn.2 (fun x hx => ?_) (by omega))).trans hp.symm
      have hx' := hp.mem_iff.mp (hs x (by simp [hx]))
      rcases List.mem_cons.mp hx' with e | e
      · subst e; exact absurd hx hn.1
      · exact e
  exact key y P hn hs hl
end M
end

section
set_option Elab.async false
set_option linter.all false
set_option maxRecDepth 100000
set_option maxHeartbeats 2000000
/-! ZZ: data: what is in what, equal to what, under which key. -/
namespace Z
open PySem L2
/-- flat data of at most so many levels -/
def Sh (k : Nat) (d : D) : Prop := d.canLay0 = true ∧ d.depth ≤ k
theorem Sh.ok {k : Nat} {d : D} (h : Sh k d) (hk : k ≤ 64) : SeqAt.shaped d = true := by
  unfold SeqAt.shaped
  rw [h.1, Bool.true_and, decide_eq_true_eq]
  exact Nat.le_trans h.2 hk
theorem Sh.int {i : Int} : Sh 0 (.int i) := ⟨by simp [PyData.canLay0], by simp [PyData.depth]⟩
theorem Sh.bool {i : Bool} : Sh 0 (.bool i) := ⟨by simp [PyData.canLay0], by simp [PyData.depth]⟩
theorem Sh.str {x : Str} (h : PyData.strOk x = true) : Sh 0 (.str x) := ⟨by simp [PyData.canLay0, h], by simp [PyData.depth]⟩
theorem sh_all {k : Nat} : ∀ {ds : List D}, (∀ d ∈ ds, Sh k d) → PyData.canLayAll0 ds = true ∧ PyData.depthAll ds ≤ k
  | [], _ => ⟨by simp [PyData.canLayAll0], by simp [PyData.depthAll]⟩
  | d :: ds, h => by
    have h1 := h d (by simp)
    have h2 := sh_all (ds := ds) fun x hx => h x (by simp [hx])
    exact ⟨by simp [PyData.canLayAll0, h1.1, h2.1], by simp only [PyData.depthAll]; have := h1.2; have := h2.2; omega⟩
theorem Sh.tup {k : Nat} {ds : List D} (h : ∀ d ∈ ds, Sh k d) : Sh (k + 1) (.tuple ds) := ⟨by simp [PyData.canLay0, (sh_all h).1], by simp only [PyData.depth]; have := (sh_all h).2; omega⟩
theorem Sh.lst {k : Nat} {ds : List D} (h : ∀ d ∈ ds, Sh k d) : Sh (k + 1) (.list ds) := ⟨by simp [PyData.canLay0, (sh_all h).1], by simp only [PyData.depth]; have := (sh_all h).2; omega⟩
theorem Sh.tupM {β : Type} {k : Nat} {e : β → D} {xs : List β} (h : ∀ x ∈ xs, Sh k (e x)) : Sh (k + 1) (.tuple (xs.map e)) := .tup fun d hd => by
  obtain ⟨x, hx, rfl⟩ := List.mem_map.mp hd
  exact h x hx
theorem Sh.lstM {β : Type} {k : Nat} {e : β → D} {xs : List β} (h : ∀ x ∈ xs, Sh k (e x)) : Sh (k + 1) (.list (xs.map e)) := .lst fun d hd => by
  obtain ⟨x, hx, rfl⟩ := List.mem_map.mp hd
  exact h x hx
/-- a way to write things as data: equal only if the same -/
def Inj {β : Type} [DecidableEq β] (e : β → D) : Prop := ∀ x y, PyData.eqv (e x) (e y) = decide (x = y)
theorem inj_str : Inj (fun x : Str => (.str x : D)) := fun x y => by simp only [PyData.eqv]; rfl
theorem inj_int : Inj (fun x : Int => (.int x : D)) := fun x y => by simp only [PyData.eqv]; rfl
section
variable {β : Type} [DecidableEq β] {e : β → D}
theorem eqv_all (h : Inj e) : ∀ xs ys : List β, PyData.eqvAll (xs.map e) (ys.map e) = decide (xs = ys)
  | [], [] => by simp [PyData.eqvAll]
  | [], _ :: _ => by simp [PyData.eqvAll]
  | _ :: _, [] => by simp [PyData.eqvAll]
  | x :: xs, y :: ys => by
    simp only [List.map_cons, PyData.eqvAll, h x y, eqv_all h xs ys]
    by_cases a : x = y <;> simp [a]
theorem Inj.tup (h : Inj e) : Inj (fun xs : List β => (.tuple (xs.map e) : D)) := fun x y => by simp only [PyData.eqv]; exact eqv_all h x y
theorem any_eqv (h : Inj e) (x : β) (xs : List β) [Decidable (x ∈ xs)] : ((xs.map e).any fun y => PyData.eqv y (e x)) = decide (x ∈ xs) := by
  rw [Bool.eq_iff_iff, List.any_eq_true, decide_eq_true_iff]
  constructor
  · rintro ⟨d, hd, he⟩
    obtain ⟨y, hy, rfl⟩ := List.mem_map.mp hd
    rw [h y x, decide_eq_true_eq] at he
    rw [← he]; exact hy
  · intro hx
    exact ⟨e x, List.mem_map.mpr ⟨x, hx, rfl⟩, by rw [h x x]; simp⟩
theorem in_tup (h : Inj e) {x : β} {xs : List β} [Decidable (x ∈ xs)] (h1 : SeqAt.shaped (e x) = true) (h2 : SeqAt.shaped (.tuple (xs.map e)) = true) : orG dIn (dInM false) (e x) (.tuple (xs.map e)) = some (.val (.bool (decide (x ∈ xs)))) := by
  unfold orG dIn inD
  simp only [h1, h2, Bool.and_self, if_true, any_eqv h]
theorem notIn_tup (h : Inj e) {x : β} {xs : List β} [Decidable (x ∈ xs)] (h1 : SeqAt.shaped (e x) = true) (h2 : SeqAt.shaped (.tuple (xs.map e)) = true) : orG dNotIn (dInM true) (e x) (.tuple (xs.map e)) = some (.val (.bool (!decide (x ∈ xs)))) := by
  unfold orG dNotIn inD
  simp only [h1, h2, Bool.and_self, if_true, any_eqv h]
theorem in_lst (h : Inj e) {x : β} {xs : List β} [Decidable (x ∈ xs)] (h1 : SeqAt.shaped (e x) = true) (h2 : SeqAt.shaped (.list (xs.map e)) = true) : orG dIn (dInM false) (e x) (.list (xs.map e)) = some (.val (.bool (decide (x ∈ xs)))) := by
  unfold orG dIn inD
  simp only [h1, h2, Bool.and_self, if_true, any_eqv h]
theorem notIn_lst (h : Inj e) {x : β} {xs : List β} [Decidable (x ∈ xs)] (h1 : SeqAt.shaped (e x) = true) (h2 : SeqAt.shaped (.list (xs.map e)) = true) : orG dNotIn (dInM true) (e x) (.list (xs.map e)) = some (.val (.bool (!decide (x ∈ xs)))) := by
  unfold orG dNotIn inD
  simp only [h1, h2, Bool.and_self, if_true, any_eqv h]
theorem idx_tup (h : Inj e) {x : β} {xs : List β} (h1 : SeqAt.shaped (e x) = true) (h2 : SeqAt.shaped (.tuple (xs.map e)) = true) (hx : x ∈ xs) : dIdx (.tuple (xs.map e)) (e x) = some (.val (.int (xs.idxOf x : Nat))) := by
  have q : idxD (xs.map e) (e x) = some (xs.idxOf x) := by
    unfold idxD
    have hl := List.idxOf_lt_length_iff.mpr hx
    rw [List.findIdx?_eq_some_iff_getElem]
    refine ⟨by simpa using hl, by rw [List.getElem_map, h, List.getElem_idxOf hl]; simp, fun j hj => ?_⟩
    have hj' : j < xs.length := by omega
    rw [List.getElem_map, h]
    intro c
    have c' : xs[j] = x := by simpa using c
    have := List.not_of_lt_findIdx (p := fun z => z == x) (xs := xs) hj
    simp [c'] at this
  unfold dIdx
  simp only [h1, h2, Bool.and_self, if_true, q]
theorem eq_tup (h : Inj e) {xs ys : List β} (h1 : SeqAt.shaped (.tuple (xs.map e)) = true) (h2 : SeqAt.shaped (.tuple (ys.map e)) = true) : dEq (.tuple (xs.map e)) (.tuple (ys.map e)) = some (.val (.bool (decide (xs = ys)))) := by
  unfold dEq eqD scalE sv
  simp only [h1, h2, Bool.and_self, if_true, PyData.eqv, eqv_all h]
theorem ne_lst (h : Inj e) {xs ys : List β} (h1 : SeqAt.shaped (.list (xs.map e)) = true) (h2 : SeqAt.shaped (.list (ys.map e)) = true) : dNe (.list (xs.map e)) (.list (ys.map e)) = some (.val (.bool (!decide (xs = ys)))) := by
  unfold dNe eqD scalE sv
  simp only [h1, h2, Bool.and_self, if_true, PyData.eqv, eqv_all h]
end
@[simp] theorem o_neB {a b : Bool} : dNe (.bool a) (.bool b) = some (.val (.bool (!decide (a = b)))) := by
  unfold dNe eqD scalE sv
  simp [scal]
@[simp] theorem o_eqB {a b : Bool} : dEq (.bool a) (.bool b) = some (.val (.bool (decide (a = b)))) := by
  unfold dEq eqD scalE sv
  simp [scal]
/-! ### keys -/
def ps (l : List Str) : D := .tuple (l.map .str)
theorem nks_str : ∀ l : List Str, nks (l.map .str) = some (l.map .text)
  | [] => by simp [nks]
  | x :: l => by simp [nks, nk, nks_str l]
theorem nk_ps (l : List Str) : nk (ps l) = some (.tup (l.map .text)) := by
  unfold ps; simp only [nk, nks_str]
theorem depth_text : ∀ l : List Str, NestedKey.depthAll (l.map .text) ≤ 1
  | [] => by simp [NestedKey.depthAll]
  | x :: l => by
    have := depth_text l
    simp only [List.map_cons, NestedKey.depthAll, NestedKey.depth]
    omega
theorem nkOk_ps (l : List Str) : nkOk (ps l) = true := by
  unfold nkOk
  rw [nk_ps]
  have h : (NestedKey.tup (l.map .text)).depth ≤ 8 := by
    have := depth_text l
    simp only [NestedKey.depth]
    omega
  dsimp only
  rw [decide_eq_true h]
  rfl
theorem eqK_ps (a b : List Str) : eqK (ps a) (ps b) = decide (a = b) := by
  unfold eqK
  rw [nk_ps, nk_ps]
  dsimp only
  rw [decide_eq_decide]
  constructor
  · intro h
    have h' : a.map NestedKey.text = b.map NestedKey.text := by injection h
    exact (List.map_inj_right fun x y z => by injection z).mp h'
  · rintro rfl; rfl
/-- a dict of orders, each with True -/
def dK (ks : List (List Str)) : D := .dict (ks.map fun k => (ps k, .bool true))
theorem hasD_K (ks : List (List Str)) (y : List Str) : hasD (ks.map fun k => (ps k, (.bool true : D))) (ps y) = decide (y ∈ ks) := by
  unfold hasD
  rw [List.any_map]
  induction ks with
  | nil => rfl
  | cons a ks ih =>
    rw [List.any_cons, ih]
    simp only [Function.comp, eqK_ps]
    by_cases c : a = y
    · simp [c]
    · simp [c]; exact fun z => absurd z.symm c
theorem suits_K (ks : List (List Str)) (y : List Str) : suits (ks.map fun k => (ps k, (.bool true : D))) (ps y) = true := by
  unfold suits
  rw [nkOk_ps]
  have : allN (ks.map fun k => (ps k, (.bool true : D))) = true := by
    unfold allN
    rw [List.all_map, List.all_eq_true]
    intro x _; rfl
  rw [this]; simp
theorem in_K {ks : List (List Str)} {y : List Str} : orG dIn (dInM false) (ps y) (dK ks) = some (.val (.bool (decide (y ∈ ks)))) := by
  unfold orG dIn inD dK dInM inDict
  simp only [suits_K, hasD_K, if_true]
  rfl
theorem notIn_K {ks : List (List Str)} {y : List Str} : orG dNotIn (dInM true) (ps y) (dK ks) = some (.val (.bool (!decide (y ∈ ks)))) := by
  unfold orG dNotIn inD dK dInM inDict
  simp only [suits_K, hasD_K, if_true]
theorem set_K {ks : List (List Str)} {y : List Str} (h : y ∉ ks) (hl : ks.length < big) : setD (dK ks) (ps y) (.bool true) = some (dK (ks ++ [y])) := by
  unfold dK setD
  have : decide ((ks.map fun k => (ps k, (.bool true : D))).length < big) = true := by simpa using hl
  simp only [suits_K, this, isDict, Bool.not_false, Bool.and_self, if_true]
  unfold putD
  rw [hasD_K]
  simp [h]
/-! ### a dict from names to their places -/
def dkL : Nat → List Str → List (D × D)
  | _, [] => []
  | k, x :: l => (.str x, .int (k : Int)) :: dkL (k + 1) l
theorem eqK_str (a b : Str) : eqK (.str a) (.str b) = decide (a = b) := by
  unfold eqK
  simp [nk]
theorem val_dk {a : Str} : ∀ {l : List Str} (k : Nat), a ∈ l → valD (dkL k l) (.str a) = some (.int (((k + l.idxOf a : Nat)) : Int))
  | [], _, h => by cases h
  | x :: l, k, h => by
    unfold valD dkL
    rw [List.find?_cons]
    dsimp only
    rw [eqK_str]
    by_cases c : x = a
    · subst c; simp
    · have ha : a ∈ l := by
        rcases List.mem_cons.mp h with e | e
        · exact absurd e.symm c
        · exact e
      have := val_dk (k + 1) ha
      unfold valD at this
      simp only [c, decide_false]
      rw [this]
      have cc : (x == a) = false := by simpa using c
      rw [List.idxOf_cons, cc]
      simp
      omega
theorem allK_dk : ∀ (k : Nat) (l : List Str), allK (dkL k l) = true
  | _, [] => rfl
  | k, x :: l => by
    have := allK_dk (k + 1) l
    unfold allK at this ⊢
    unfold dkL
    rw [List.all_cons, this]
    rfl
theorem ix_dk {a : Str} {l : List Str} (h : a ∈ l) : dIxX (.dict (dkL 0 l)) (.str a) = some (.val (.int (l.idxOf a : Nat))) := by
  unfold dIxX orG dIx dIxM
  have hs : suits (dkL 0 l) (.str a) = true := by
    unfold suits
    rw [allK_dk]
    rfl
  simp only [hs, if_true, val_dk 0 h]
  simp
end Z
end

section
set_option Elab.async false
set_option linter.all false
set_option maxRecDepth 100000
set_option maxHeartbeats 2000000
/-! ZZA: a def's run; feeds. -/
namespace Z
open PySem L2
def endF (ms : List Bool) : SO → Option (Rs × List D)
  | .rt r ρ => (finals ms ρ).bind fun news => some (r, news)
  | .nx ρ => (finals ms ρ).bind fun news => some (.val .none, news)
  | _ => none
theorem w_run {ms : List Bool} {n : Nat} {m : SM} {ds : List D} : runF ms n m ds = if ds.length = ms.length then (m (startS ms ds ++ List.replicate (n - ms.length) .no)).bind (endF ms) else none := by
  unfold runF
  congr 1
  cases m (startS ms ds ++ List.replicate (n - ms.length) .no) with
  | none => rfl
  | some o =>
    cases o with
    | rt r ρ => simp only [Option.bind_some, endF]; cases finals ms ρ <;> rfl
    | nx ρ => simp only [Option.bind_some, endF]; cases finals ms ρ <;> rfl
    | bk ρ => rfl
    | ct ρ => rfl
@[simp] theorem w_endR {ms : List Bool} {r : Rs} {ρ : Rho} : endF ms (.rt r ρ) = (finals ms ρ).bind fun news => some (r, news) := rfl
@[simp] theorem w_endN {ms : List Bool} {ρ : Rho} : endF ms (.nx ρ) = (finals ms ρ).bind fun news => some (.val .none, news) := rfl
@[simp] theorem w_st0 {ds : List D} : startS [] ds = [] := rfl
@[simp] theorem w_st1 {ms : List Bool} {d : D} {ds : List D} : startS (true :: ms) (d :: ds) = .mp d :: startS ms ds := rfl
@[simp] theorem w_st2 {ms : List Bool} {d : D} {ds : List D} : startS (false :: ms) (d :: ds) = .sh d :: startS ms ds := rfl
@[simp] theorem w_fin0 {ρ : Rho} : finals [] ρ = some [] := rfl
@[simp] theorem w_fin1 {ms : List Bool} {s : Slot} {ρ : Rho} : finals (false :: ms) (s :: ρ) = finals ms ρ := rfl
@[simp] theorem w_fin2 {ms : List Bool} {d : D} {ρ : Rho} : finals (true :: ms) (.mp d :: ρ) = (finals ms ρ).bind fun ds => some (d :: ds) := by
  show (match finals ms ρ with | some ds => some (d :: ds) | none => none) = _
  cases finals ms ρ <;> rfl
@[simp] theorem w_mod0 : modes [] = [] := rfl
@[simp] theorem w_mod1 {d : D} {xs : List ArgD} : modes (.val d :: xs) = false :: modes xs := rfl
@[simp] theorem w_mod2 {i : Nat} {xs : List ArgD} : modes (.chg i :: xs) = true :: modes xs := rfl
@[simp] theorem w_mut0 : mutIx [] = [] := rfl
@[simp] theorem w_mut1 {d : D} {xs : List ArgD} : mutIx (.val d :: xs) = mutIx xs := rfl
@[simp] theorem w_mut2 {i : Nat} {xs : List ArgD} : mutIx (.chg i :: xs) = i :: mutIx xs := rfl
@[simp] theorem w_fet0 {ρ : Rho} : fetch [] ρ = some [] := rfl
@[simp] theorem w_fet1 {d : D} {xs : List ArgD} {ρ : Rho} : fetch (.val d :: xs) ρ = (fetch xs ρ).bind fun ds => some (d :: ds) := by
  show (match fetch xs ρ with | some ds => some (d :: ds) | none => none) = _
  cases fetch xs ρ <;> rfl
def fetO (xs : List ArgD) (ρ : Rho) (s : Slot) : Option (List D) := if s.own then s.dat.bind fun d => (fetch xs ρ).bind fun ds => some (d :: ds) else none
@[simp] theorem w_fet2 {i : Nat} {xs : List ArgD} {ρ : Rho} : fetch (.chg i :: xs) ρ = (ρ[i]?).bind (fetO xs ρ) := by
  show (if ownAt i ρ then (match ρ[i]? with | some s => (match s.dat, fetch xs ρ with | some d, some ds => some (d :: ds) | _, _ => none) | none => none) else none) = _
  unfold ownAt fetO
  cases ρ[i]? with
  | none => rfl
  | some s =>
    dsimp only [Option.bind_some]
    congr 1
    cases s.dat with
    | none => rfl
    | some d => cases fetch xs ρ <;> rfl
@[simp] theorem w_fetM {xs : List ArgD} {ρ : Rho} {d : D} : fetO xs ρ (.mp d) = (fetch xs ρ).bind fun ds => some (d :: ds) := rfl
@[simp] theorem w_fetW {xs : List ArgD} {ρ : Rho} {d : D} : fetO xs ρ (.ow d) = (fetch xs ρ).bind fun ds => some (d :: ds) := rfl
@[simp] theorem w_new0 {ρ : Rho} : putNews [] [] ρ = some ρ := rfl
@[simp] theorem w_new1 {i : Nat} {is : List Nat} {d : D} {ds : List D} {ρ : Rho} : putNews (i :: is) (d :: ds) ρ = (ρ[i]?).bind fun s => putNews is ds (ρ.set i (s.put d)) := by
  show (match ρ[i]? with | some s => putNews is ds (ρ.set i (s.put d)) | none => none) = _
  cases ρ[i]? <;> rfl
theorem cmul_r {i j : Int} (h0 : 0 ≤ j) (h : j < 2 ^ 64) : cMul i j = true := by
  unfold cMul
  have : decide (-(2 ^ 64) < j ∧ j < 2 ^ 64) = true := by rw [decide_eq_true_eq]; exact ⟨by omega, h⟩
  rw [this]; simp
theorem cmul_l {i j : Int} (h0 : 0 ≤ i) (h : i < 2 ^ 64) : cMul i j = true := by
  unfold cMul
  have : decide (-(2 ^ 64) < i ∧ i < 2 ^ 64) = true := by rw [decide_eq_true_eq]; exact ⟨by omega, h⟩
  rw [this]; simp
theorem log_lt {i : Int} {k : Nat} (h0 : 0 ≤ i) (h : i < 2 ^ k) : i.natAbs.log2 < k + 1 := by
  have : i.natAbs < 2 ^ k := by
    have e : ((i.natAbs : Nat) : Int) = i := Int.natAbs_of_nonneg h0
    have : ((i.natAbs : Nat) : Int) < ((2 ^ k : Nat) : Int) := by rw [e]; simpa using h
    exact_mod_cast this
  by_cases z : i.natAbs = 0
  · rw [z]; simp
  · have := (Nat.log2_lt z).mpr this; omega
theorem cmul_b {i j : Int} {k l : Nat} (hi : 0 ≤ i) (hik : i < 2 ^ k) (hj : 0 ≤ j) (hjl : j < 2 ^ l) (h : k + l < 900000) : cMul i j = true := by
  unfold cMul
  have a := log_lt hi hik
  have b := log_lt hj hjl
  have : decide (i.natAbs.log2 + j.natAbs.log2 < 1000000) = true := by rw [decide_eq_true_eq]; omega
  rw [this]; simp
theorem cdiv_s {i j : Int} (h0 : 0 < j) (h : j < 2 ^ 64) : cDivW i j = true := by
  unfold cDivW
  rw [decide_eq_true_eq]
  exact ⟨h0, by have := log_lt (k := 64) (Int.le_of_lt h0) h; omega⟩
/-- a feed from which n may still be drawn -/
def Feed (n : Nat) (d : D) : Prop := ∃ a b c : Int, d = .list [.int a, .int b, .int c] ∧ 0 ≤ b ∧ b < 10 ^ 40 ∧ 0 ≤ c ∧ c + n ≤ 1000000000
theorem Feed.mono {n m : Nat} {d : D} (h : m ≤ n) : Feed n d → Feed m d
  | ⟨a, b, c, e, h1, h2, h3, h4⟩ => ⟨a, b, c, e, h1, h2, h3, by omega⟩
theorem rng_nat {n : Nat} (h : n < 1000000) : rngO [.int (n : Int)] = some ((List.range n).map fun i : Nat => .int (i : Int)) := by
  rw [w_rngO (by omega), range0]
theorem rng_nat2 {m n : Nat} (h : n < 1000000) (h1 : m < 1000000) : rngO2 [.int (m : Int), .int (n : Int)] = some ((List.range (n - m)).map fun i : Nat => .int ((m + i : Nat) : Int)) := by
  rw [w_rngO2 (by omega)]
  unfold rangeD
  have : ((n : Int) - (m : Int)).toNat = n - m := by omega
  rw [this]
  congr 1
@[simp] theorem w_noD0 : noDicts [] = true := rfl
@[simp] theorem w_noD1 {d : D} {ds : List D} : noDicts (d :: ds) = (!isDict d && noDicts ds) := rfl
theorem orM_n {g g' : D → List D → Option (D × D)} {d : D} {ds : List D} (h : g d ds = none) : Z.orM g g' d ds = g' d ds := by unfold Z.orM; rw [h]
theorem popAt_i {ds : List D} {i : Int} : mtPopAt (.list ds) [.int i] = if decide (-(2 ^ 63) ≤ i ∧ i < 2 ^ 63) then (match seqIndex? i ds.length with
      | some j => (match ds[j]? with
        | some e => some (.list (ds.eraseIdx j), e)
        | none => none)
      | none => none)
    else none := by unfold mtPopAt; rfl
theorem seq_nat {r n : Nat} (h : r < n) : seqIndex? (r : Int) n = some r := by
  unfold seqIndex?
  have a : ¬ ((r : Int) < 0) := by omega
  have b : (decide (0 ≤ (r : Int)) && decide ((r : Int) < (n : Int))) = true := by rw [Bool.and_eq_true, decide_eq_true_eq, decide_eq_true_eq]; omega
  dsimp only
  rw [if_neg a, b]
  rfl
theorem pop_at {ds : List D} {r : Nat} (h : r < ds.length) (h2 : r < 1000000) : Z.orM mtPop mtPopAt (.list ds) [.int (r : Int)] = some (.list (ds.eraseIdx r), ds[r]) := by
  rw [orM_n (by unfold mtPop; rfl), popAt_i, if_pos (decide_eq_true ⟨by omega, by omega⟩), seq_nat h]
  simp -implicitDefEqProofs only [List.getElem?_eq_getElem h]
@[simp] theorem w_bigle {k : Nat} : (k ≤ big) = (k ≤ 100000) := by unfold big; exact Eq.refl _
@[simp] theorem w_biglt {k : Nat} : (k < big) = (k < 100000) := by unfold big; exact Eq.refl _
end Z
end

section
set_option Elab.async false
set_option linter.all false
set_option maxRecDepth 100000
set_option maxHeartbeats 2000000
/-! ZZB: what an end is like. -/
namespace Z
open PySem L2
def Ends {γ : Type} (x : Option γ) (Q : γ → Prop) : Prop := ∃ z, x = some z ∧ Q z
@[simp] theorem ends_some {γ : Type} {z : γ} {Q : γ → Prop} : Ends (some z) Q = Q z := by
  apply propext
  constructor
  · rintro ⟨y, e, h⟩; cases e; exact h
  · intro h; exact ⟨z, by rw [Eq.comm], h⟩
theorem Ends.imp {γ : Type} {x : Option γ} {Q Q' : γ → Prop} (h : Ends x Q) (i : ∀ z, Q z → Q' z) : Ends x Q' := let ⟨z, e, q⟩ := h; ⟨z, e, i z q⟩
theorem Ends.gen {γ : Type} {x : Option γ} {Q : γ → Prop} (h : ∀ K : γ → Prop, (∀ z, Q z → K z) → Ends x K) : Ends x Q := h Q fun _ z => z
theorem ends_for {β γ : Type} {mi : M (List D)} {f : D → Rho → Option Rho} {b : SM} {ρ : Rho} {k : SO → Option γ} {Q : γ → Prop} (ρ1 : Rho) (e : β → D) (xs : List β) (P : Nat → Rho → Prop) (h1 : mi ρ = some (xs.map e, ρ1)) (h0 : P 0 ρ1)
    (h : ∀ i x ρ, xs[i]? = some x → P i ρ → ∀ K : SO → Prop, (∀ ρ2, P (i + 1) ρ2 → K (.nx ρ2)) → (∀ ρ2, P (i + 1) ρ2 → K (.ct ρ2)) → Ends (f (e x) ρ) fun ρ1 => Ends (b ρ1) K)
    (hk : ∀ ρ', P xs.length ρ' → Ends (k (.nx ρ')) Q) : Ends ((mFor mi f b ρ).bind k) Q := by
  obtain ⟨ρ', e1, e2⟩ := for_inv (b := b) e xs P h1 h0 fun i x ρ hx hp => by
    obtain ⟨ρ1, e1, o, e2, ρ2, e3, e4⟩ := h i x ρ hx hp (fun o => ∃ ρ2, (o = .nx ρ2 ∨ o = .ct ρ2) ∧ P (i + 1) ρ2) (fun ρ2 h2 => ⟨ρ2, .inl rfl, h2⟩) (fun ρ2 h2 => ⟨ρ2, .inr rfl, h2⟩)
    refine ⟨ρ1, e1, ρ2, ?_, e4⟩
    rcases e3 with rfl | rfl
    · exact .inl e2
    · exact .inr e2
  rw [e1, Option.bind_some]
  exact hk ρ' e2
theorem ends_lc {β γ : Type} {mi : M (List D)} {f : D → Rho → Option Rho} {tt : M Bool} {te : M Res} {vs : List Nat} {ρ : Rho} {k : Res × Rho → Option γ} {Q : γ → Prop} (ρ1 : Rho) (e : β → D) (xs : List β) (P : Nat → List D → Rho → Prop)
    (h1 : mi ρ = some (xs.map e, ρ1)) (h2 : noOwn vs ρ1 = true) (h0 : P 0 [] ρ1) (hl : ∀ i acc ρ, i < xs.length → P i acc ρ → acc.length < big)
    (h : ∀ i x acc ρ, xs[i]? = some x → P i acc ρ → ∀ (K : D × Rho → Prop) (K' : Rho → Prop), (∀ y ρ', isDict y = false → P (i + 1) (acc ++ [y]) ρ' → K (y, ρ')) → (∀ ρ', P (i + 1) acc ρ' → K' ρ') →
      Ends (f (e x) (wipeR vs 0 ρ)) fun ρ1 => Ends (tt ρ1) fun p => if p.1 = true then Ends (mShare te p.2) K else K' p.2)
    (hk : ∀ acc ρ', P xs.length acc ρ' → Ends (k (.fr (.list acc), backR vs 0 ρ1 (wipeR vs 0 ρ'))) Q) : Ends ((mLc mi f tt te vs ρ).bind k) Q := by
  obtain ⟨acc, ρ', e1, e2⟩ := lc_inv (f := f) (tt := tt) (te := te) e xs P h1 h2 h0 fun i x acc ρ hx hp => by
    obtain ⟨ρ1, e1, ⟨b, ρ2⟩, e2, e3⟩ := h i x acc ρ hx hp (fun q => isDict q.1 = false ∧ P (i + 1) (acc ++ [q.1]) q.2) (fun ρ' => P (i + 1) acc ρ') (fun y ρ' a b => ⟨a, b⟩) (fun ρ' a => a)
    refine ⟨ρ1, e1, b, ρ2, e2, fun hb => ?_, fun hb => ?_⟩
    · subst hb; simpa using e3
    · subst hb
      rw [if_pos rfl] at e3
      obtain ⟨⟨y, ρ3⟩, e4, e5, e6⟩ := e3
      exact ⟨y, ρ3, e4, e5, hl i acc ρ (List.getElem?_eq_some_iff.mp hx).1 hp, e6⟩
  rw [e1, Option.bind_some]
  exact hk acc ρ' e2
/-- a slot that may be written -/
def Fre (s : Slot) : Prop := ∀ d, s ≠ .mp d
theorem fr_no : Fre .no := fun d h => by cases h
theorem fr_sh {d : D} : Fre (.sh d) := fun e h => by cases h
theorem fr_ow {d : D} : Fre (.ow d) := fun e h => by cases h
theorem put_fr {i : Nat} {t s : Slot} {ρ : Rho} (h : Fre s) : putO i t ρ s = some (ρ.set i t) := by
  cases s with
  | mp d => exact (h d rfl).elim
  | _ => rfl
theorem filterMap_if {β γ : Type} (p : β → Bool) (f : β → γ) : ∀ xs : List β, xs.filterMap (fun x => if p x then some (f x) else none) = (xs.filter p).map f
  | [] => rfl
  | x :: xs => by
    rw [List.filterMap_cons, List.filter_cons]
    cases p x with
    | true => simp [filterMap_if p f xs]
    | false => simp [filterMap_if p f xs]
theorem inj_nat : Inj (fun x : Nat => (.int (x : Int) : D)) := fun x y => by
  simp only [PyData.eqv]
  by_cases h : x = y
  · simp [h]
  · have : ¬ (x : Int) = (y : Int) := by omega
    rw [decide_eq_false h, beq_eq_false_iff_ne]
    exact this
theorem ix_last {l : List D} {x : D} : dIxX (.list (l ++ [x])) (.int (-1)) = some (.val x) := by
  unfold dIxX orG dIx
  have : atI (l ++ [x]) (-1) = some x := by
    unfold atI ixN
    have a : ¬ (0 ≤ (-1 : Int)) := by omega
    have b : -(((l ++ [x]).length : Nat) : Int) ≤ -1 := by simp; omega
    rw [if_neg a, if_pos b]
    have c : (-1 + (((l ++ [x]).length : Nat) : Int)).toNat = l.length := by simp; omega
    rw [c]
    simp
  simp only [this]
end Z
end

section
set_option Elab.async false
set_option linter.all false
set_option maxRecDepth 100000
set_option maxHeartbeats 2000000
/-! ZZC: texts of data; while loops. -/
namespace Z
open PySem L2
/-- data whose text is of at most k signs -/
def Wd (k : Nat) (d : D) : Prop := d.showable = true ∧ d.hasDict = false ∧ d.shown.length ≤ k
theorem Wd.mono {k l : Nat} {d : D} (h : Wd k d) (hl : k ≤ l) : Wd l d := ⟨h.1, h.2.1, Nat.le_trans h.2.2 hl⟩
theorem Wd.str {k : Nat} {x : Str} (h : (reprText x).length ≤ k) : Wd k (.str x) := ⟨by simp [PyData.showable], by simp [PyData.hasDict], by simpa [PyData.shown] using h⟩
theorem wd_all {k : Nat} : ∀ {ds : List D}, (∀ d ∈ ds, Wd k d) → PyData.showableAll ds = true ∧ PyData.hasDictAll ds = false ∧ piled (PyData.shownAll ds) ≤ ds.length * (k + 2)
  | [], _ => ⟨by simp [PyData.showableAll], by simp [PyData.hasDictAll], by simp [PyData.shownAll, piled_nil]⟩
  | d :: ds, h => by
    obtain ⟨a, b, c⟩ := h d (by simp)
    obtain ⟨a2, b2, c2⟩ := wd_all (ds := ds) fun x hx => h x (by simp [hx])
    refine ⟨by simp [PyData.showableAll, a, a2], by simp [PyData.hasDictAll, b, b2], ?_⟩
    rw [PyData.shownAll, piled_cons, List.length_cons, Nat.add_mul]
    omega
theorem Wd.tup {k : Nat} {ds : List D} (h : ∀ d ∈ ds, Wd k d) : Wd (ds.length * (k + 2) + 4) (.tuple ds) := by
  obtain ⟨a, b, c⟩ := wd_all h
  refine ⟨by simpa [PyData.showable] using a, by simpa [PyData.hasDict] using b, ?_⟩
  have e : (PyData.shown (.tuple ds)) = tupleText (PyData.shownAll ds) := by simp [PyData.shown]
  rw [e]
  unfold tupleText
  rw [strLen_append, strLen_append]
  have l1 : (("(" : String) : Str).length = 1 := rfl
  have l2 : ∀ c : Bool, (((if c = true then ",)" else ")" : String)) : Str).length ≤ 2 := fun c => by cases c <;> decide
  have l3 : (Str.join ", " (PyData.shownAll ds)).length ≤ piled (PyData.shownAll ds) := by
    by_cases hn : PyData.shownAll ds = []
    · rw [hn]; decide
    · have := join_length_add _ hn; omega
  have := l2 ((PyData.shownAll ds).length == 1)
  omega
theorem tells_of {k j : Nat} {d : D} (h : Wd k d) (hk : k ≤ 100000) (hs : Sh j d) (hj : j ≤ 64) : tells d = true := by
  unfold tells
  have a : decide (d.shown.length ≤ big) = true := decide_eq_true (Nat.le_trans h.2.2 hk)
  have b : decide (d.depth ≤ 64) = true := decide_eq_true (Nat.le_trans hs.2 hj)
  rw [h.1, h.2.1, a, b]; rfl
theorem o_reprT {ds : List D} (h : tells (.tuple ds) = true) : dRepr (.tuple ds) = some (.val (.str (PyData.shown (.tuple ds)))) := by
  show (if tells (.tuple ds) then some (Rs.val (.str (PyData.shown (.tuple ds)))) else none) = _
  rw [if_pos h]
/-- a loop with a measure: what holds ahead of each turn; j is what is left -/
theorem wh_run {t : M Bool} {b : SM} (P : Nat → Rho → Prop) : ∀ (j f : Nat) (ρ : Rho), j < f → P j ρ → (∀ j ρ, P j ρ → ∃ ρ1, (j = 0 ∧ t ρ = some (false, ρ1) ∧ P 0 ρ1) ∨ (0 < j ∧ t ρ = some (true, ρ1) ∧ ∃ ρ2, b ρ1 = some (.nx ρ2) ∧ P (j - 1) ρ2)) →
    ∃ ρ', mWh t b f ρ = some (.nx ρ') ∧ P 0 ρ'
  | j, 0, ρ, h, _, _ => absurd h (by omega)
  | j, f + 1, ρ, h, hp, step => by
    obtain ⟨ρ1, ⟨rfl, e, hp'⟩ | ⟨hj, e, ρ2, e2, hp2⟩⟩ := step j ρ hp
    · exact ⟨ρ1, by simp only [mWh, e], hp'⟩
    · obtain ⟨ρ', e3, hp3⟩ := wh_run P (j - 1) f ρ2 (by omega) hp2 step
      exact ⟨ρ', by simp only [mWh, e, e2, e3], hp3⟩
theorem ends_wh {γ : Type} {t : M Bool} {b : SM} {f : Nat} {ρ : Rho} {k : SO → Option γ} {Q : γ → Prop} (P : Nat → Rho → Prop) (j : Nat) (hj : j < f) (h0 : P j ρ)
    (h : ∀ j ρ, P j ρ → ∀ (K : Bool × Rho → Prop), (j = 0 → ∀ ρ1, P 0 ρ1 → K (false, ρ1)) → (0 < j → ∀ ρ1, (∀ K2 : SO → Prop, (∀ ρ2, P (j - 1) ρ2 → K2 (.nx ρ2)) → Ends (b ρ1) K2) → K (true, ρ1)) → Ends (t ρ) K)
    (hk : ∀ ρ', P 0 ρ' → Ends (k (.nx ρ')) Q) : Ends ((mWh t b f ρ).bind k) Q := by
  obtain ⟨ρ', e1, e2⟩ := wh_run (t := t) (b := b) P j f ρ hj h0 fun j ρ hp => by
    obtain ⟨⟨c, ρ1⟩, e, z⟩ := h j ρ hp (fun p => (j = 0 ∧ p.1 = false ∧ P 0 p.2) ∨ (0 < j ∧ p.1 = true ∧ ∃ ρ2, b p.2 = some (.nx ρ2) ∧ P (j - 1) ρ2)) (fun hj ρ1 hp1 => .inl ⟨hj, rfl, hp1⟩) (fun hj ρ1 hb => .inr ⟨hj, rfl, by
      obtain ⟨o, e1, ρ2, rfl, hp2⟩ := hb (fun o => ∃ ρ2, o = .nx ρ2 ∧ P (j - 1) ρ2) fun ρ2 hp2 => ⟨ρ2, rfl, hp2⟩
      exact ⟨ρ2, e1, hp2⟩⟩)
    rcases z with ⟨z1, z2, z3⟩ | ⟨z1, z2, z3⟩
    · dsimp only at z2 z3; subst z2; exact ⟨ρ1, .inl ⟨z1, e, z3⟩⟩
    · dsimp only at z2 z3; subst z2; exact ⟨ρ1, .inr ⟨z1, e, z3⟩⟩
  rw [e1, Option.bind_some]
  exact hk ρ' e2
end Z
end

section
set_option Elab.async false
set_option linter.all false
set_option maxRecDepth 100000
set_option maxHeartbeats 2000000
/-! ZZE: sorted pairs, sets, a dict over enumerate. -/
namespace Z
open PySem L2
theorem ms2 {α : Type} (le : α → α → Bool) (a b : α) : [a, b].mergeSort le = if le a b then [a, b] else [b, a] := by
  simp [List.mergeSort, List.MergeSort.Internal.splitInTwo, List.merge]
theorem sorts2 (a b : Str) : sortsD [.str a, .str b] = true := by
  unfold sortsD
  simp [PySem.W.alike, tupD, plainD, PyData.depth]
theorem o_isiT {a : List D} : dIsi "tuple" (.tuple a) = some (.val (.bool true)) := rfl
theorem o_isiS {a : Str} : dIsi "str" (.str a) = some (.val (.bool true)) := rfl
theorem sorted2 (a b : Str) : dSorted (.tuple [.str a, .str b]) = some (.new (.list ((if leD (.str a) (.str b) then [a, b] else [b, a]).map .str))) := by
  unfold dSorted
  dsimp only
  rw [if_pos (sorts2 a b)]
  unfold sortD
  rw [ms2]
  split <;> rfl
section
variable {α : Type} [DecidableEq α]
theorem see_nodup : ∀ (l acc : List α), l.Nodup → (∀ x ∈ l, x ∉ acc) → (l.foldl see acc).length = acc.length + l.length
  | [], acc, _, _ => by simp
  | x :: l, acc, hn, h => by
    rw [List.nodup_cons] at hn
    have hx := h x (by simp)
    rw [List.foldl_cons]
    have e : see acc x = x :: acc := by unfold see; rw [if_neg hx]
    rw [e, see_nodup l (x :: acc) hn.2 fun y hy => by
      rw [List.mem_cons]
      rintro (rfl | c)
      · exact hn.1 hy
      · exact h y (by simp [hy]) c]
    simp; omega
theorem seen_nodup {l : List α} (h : l.Nodup) : (seen l).length = l.length := by
  unfold seen
  rw [see_nodup l [] h (by simp)]
  simp
end
theorem keysD_str : ∀ l : List Str, keysD (l.map .str) = some (l.map Sum.inr)
  | [] => rfl
  | x :: l => by simp [keysD, keyD, keysD_str l]
theorem nodup_map {α β : Type} {f : α → β} (hf : ∀ x y, f x = f y → x = y) {l : List α} (h : l.Nodup) : (l.map f).Nodup := by
  unfold List.Nodup at h ⊢
  rw [List.pairwise_map]
  exact h.imp fun hne e => hne (hf _ _ e)
theorem setLen_str {l : List Str} (h : l.Nodup) (hl : l.length < 60) : setLen (l.map .str) = some l.length := by
  unfold setLen
  rw [if_pos (by simpa using hl), keysD_str]
  dsimp only
  rw [seen_nodup (nodup_map (fun x y e => by injection e) h), List.length_map]
theorem nks_ps : ∀ L : List (List Str), nks (L.map ps) = some (L.map fun l => .tup (l.map .text))
  | [] => by simp [nks]
  | x :: L => by simp [nks, nk_ps, nks_ps L]
theorem setLen_ps {L : List (List Str)} (h : L.Nodup) (hl : L.length < 60) : setLen (L.map ps) = some L.length := by
  cases L with
  | nil => rfl
  | cons x L =>
    have e : keysD ((x :: L).map ps) = none := rfl
    have a : ((x :: L).map ps).all isTup = true := by rw [List.all_map, List.all_eq_true]; intro y _; rfl
    have b : (((x :: L).map fun l : List Str => NestedKey.tup (l.map .text)).all fun k => decide (k.depth ≤ 8)) = true := by
      rw [List.all_map, List.all_eq_true]
      intro y _
      have h8 : (NestedKey.tup (y.map .text)).depth ≤ 8 := by
        have := depth_text y
        simp only [NestedKey.depth]
        omega
      exact decide_eq_true h8
    unfold setLen
    rw [if_pos (by simpa using hl), e]
    dsimp only
    rw [if_pos a, nks_ps]
    dsimp only
    rw [if_pos b, seen_nodup (nodup_map (fun x y e => by
      have e' : x.map NestedKey.text = y.map NestedKey.text := by injection e
      exact (List.map_inj_right fun x y z => by injection z).mp e') h), List.length_map]
/-! ### a dict comprehension over enumerate -/
def numL : Nat → List Str → List D
  | _, [] => []
  | k, x :: l => .tuple [.int (k : Int), .str x] :: numL (k + 1) l
theorem num_is (l : List Str) : numbered (l.map .str) = numL 0 l := by
  unfold numbered
  generalize 0 = k
  induction l generalizing k with
  | nil => rfl
  | cons x l ih => simp [List.zipIdx_cons, numL, ih]
theorem hasD_snoc (acc : List (D × D)) (k e : D) (y : D) : hasD (acc ++ [(k, e)]) y = (hasD acc y || eqK k y) := by
  unfold hasD; simp
theorem dcL_dk {f : D → Rho → Option Rho} {tt : M Bool} {tk tv : M Res} {vs : List Nat} {w : Rho}
    (hs : ∀ (k : Nat) (x : Str), ∃ ρ1 ρ2 ρ3 ρ4, f (.tuple [.int (k : Int), .str x]) w = some ρ1 ∧ tt ρ1 = some (true, ρ2) ∧ mShare tk ρ2 = some (.str x, ρ3) ∧ mShare tv ρ3 = some (.int (k : Int), ρ4) ∧ wipeR vs 0 ρ4 = w) :
    ∀ (l : List Str) (k : Nat) (acc : List (D × D)) (ρ : Rho), wipeR vs 0 ρ = w → l.Nodup → (∀ x ∈ l, hasD acc (.str x) = false) → allK acc = true → acc.length + l.length ≤ big →
      ∃ ρ', dcL f tt tk tv vs (numL k l) acc ρ = some (acc ++ dkL k l, ρ') ∧ wipeR vs 0 ρ' = w
  | [], k, acc, ρ, hw, _, _, _, _ => ⟨ρ, by simp [dcL, numL, dkL], hw⟩
  | x :: l, k, acc, ρ, hw, hn, hh, ha, hl => by
    obtain ⟨ρ1, ρ2, ρ3, ρ4, e1, e2, e3, e4, e5⟩ := hs k x
    rw [List.nodup_cons] at hn
    rw [List.length_cons] at hl
    have hx := hh x (by simp)
    have pu : putD acc (.str x) (.int (k : Int)) = acc ++ [(.str x, .int (k : Int))] := by unfold putD; rw [hx]; rfl
    obtain ⟨ρ', e6, e7⟩ := dcL_dk hs l (k + 1) (acc ++ [(.str x, .int (k : Int))]) ρ4 e5 hn.2 (fun y hy => by
      rw [hasD_snoc, hh y (by simp [hy]), eqK_str]
      have : ¬ x = y := fun e => hn.1 (e ▸ hy)
      simp [this]) (by unfold allK at ha ⊢; rw [List.all_append, ha]; rfl) (by rw [List.length_append]; show acc.length + 1 + l.length ≤ big; omega)
    refine ⟨ρ', ?_, e7⟩
    have g : ((keyD (.str x)).isSome && !isDict (.int (k : Int)) && decide (acc.length < big) && allK acc) = true := by
      rw [ha, decide_eq_true (show acc.length < big by omega)]; rfl
    have e6' : dcL f tt tk tv vs (numL (k + 1) l) (putD acc (.str x) (.int (k : Int))) ρ4 = some (acc ++ dkL k (x :: l), ρ') := by
      rw [pu, e6]; simp [dkL]
    simp only [numL, dcL, hw, e1, e2, e3, e4, g, if_true, e6']
theorem dc_dk {mi : M (List D)} {f : D → Rho → Option Rho} {tt : M Bool} {tk tv : M Res} {vs : List Nat} {ρ ρ1 : Rho} (l : List Str) (h1 : mi ρ = some (numL 0 l, ρ1)) (h2 : noOwn vs ρ1 = true) (hn : l.Nodup) (hl : l.length ≤ big)
    (hs : ∀ (k : Nat) (x : Str), ∃ ρ2 ρ3 ρ4 ρ5, f (.tuple [.int (k : Int), .str x]) (wipeR vs 0 ρ1) = some ρ2 ∧ tt ρ2 = some (true, ρ3) ∧ mShare tk ρ3 = some (.str x, ρ4) ∧ mShare tv ρ4 = some (.int (k : Int), ρ5) ∧ wipeR vs 0 ρ5 = wipeR vs 0 ρ1) :
    mDc mi f tt tk tv vs ρ = some (.fr (.dict (dkL 0 l)), ρ1) := by
  obtain ⟨ρ', e1, e2⟩ := dcL_dk hs l 0 [] ρ1 rfl hn (fun _ _ => rfl) rfl (by simpa using hl)
  rw [x_dc, h1, Option.bind_some, if_pos h2, e1, Option.bind_some, e2, back_wipe]
  rfl
end Z
end

section
namespace M
variable {α : Type} [DecidableEq α]
def fre (A : List (α × α)) (g : List α) (x : α) : Bool := !decide (x ∈ g) && A.all fun a => !decide (a.2 = x) || decide (a.1 ∈ g)
theorem fre_iff {A : List (α × α)} {g : List α} {x : α} : fre A g x = true ↔ x ∉ g ∧ ∀ a ∈ A, a.2 = x → a.1 ∈ g := by
  unfold fre
  rw [Bool.and_eq_true, Bool.not_eq_true', decide_eq_false_iff_not, List.all_eq_true]
  constructor
  · rintro ⟨h1, h2⟩
    refine ⟨h1, fun a ha e => ?_⟩
    have := h2 a ha
    simpa [e] using this
  · rintro ⟨h1, h2⟩
    refine ⟨h1, fun a ha => ?_⟩
    by_cases e : a.2 = x
    · simp [e, h2 a ha e]
    · simp [e]
/-- what is free first, one after the other -/
def gr (A : List (α × α)) (P : List α) : Nat → List α
  | 0 => []
  | k + 1 => match P.filter (fre A (gr A P k)) with
    | x :: _ => gr A P k ++ [x]
    | [] => gr A P k
theorem gr_cons {A : List (α × α)} {P : List α} {k : Nat} {x : α} {r : List α} (h : P.filter (fre A (gr A P k)) = x :: r) : gr A P (k + 1) = gr A P k ++ [x] := by
  show (match P.filter (fre A (gr A P k)) with
    | x :: _ => gr A P k ++ [x]
    | [] => gr A P k) = _
  rw [h]
/-- all that must be ahead is ahead -/
def Idl (A : List (α × α)) (g : List α) : Prop := ∀ a ∈ A, a.2 ∈ g → a.1 ∈ g ∧ g.idxOf a.1 < g.idxOf a.2
instance (A : List (α × α)) (g : List α) : Decidable (Idl A g) := inferInstanceAs (Decidable (∀ a ∈ A, _))
theorem idx_snoc_in {g : List α} {x y : α} (h : y ∈ g) : (g ++ [x]).idxOf y = g.idxOf y := by rw [List.idxOf_append, if_pos h]
theorem idx_snoc_new {g : List α} {x : α} (h : x ∉ g) : (g ++ [x]).idxOf x = g.length := by rw [List.idxOf_append, if_neg h]; simp
theorem idl_snoc {A : List (α × α)} {g : List α} {x : α} (hx : x ∉ g) : Idl A (g ++ [x]) ↔ Idl A g ∧ fre A g x = true := by
  rw [fre_iff]
  constructor
  · intro h
    have key : ∀ a ∈ A, a.2 ∈ g ++ [x] → a.1 ∈ g := fun a ha hm => by
      obtain ⟨h1, h2⟩ := h a ha hm
      rcases List.mem_append.mp h1 with m | m
      · exact m
      · rw [List.mem_singleton] at m
        rw [m, idx_snoc_new hx] at h2
        have := List.idxOf_lt_length_iff.mpr hm
        rw [List.length_append, List.length_singleton] at this
        omega
    refine ⟨fun a ha hm => ⟨key a ha (by simp [hm]), ?_⟩, hx, fun a ha e => key a ha (by simp [e])⟩
    have h2 := (h a ha (by simp [hm])).2
    rwa [idx_snoc_in (key a ha (by simp [hm])), idx_snoc_in hm] at h2
  · rintro ⟨h1, _, h2⟩ a ha hm
    rcases List.mem_append.mp hm with m | m
    · obtain ⟨b1, b2⟩ := h1 a ha m
      exact ⟨by simp [b1], by rw [idx_snoc_in b1, idx_snoc_in m]; exact b2⟩
    · rw [List.mem_singleton] at m
      have b := h2 a ha m
      refine ⟨by simp [b], ?_⟩
      rw [idx_snoc_in b, m, idx_snoc_new hx]
      exact List.idxOf_lt_length_iff.mpr b
section
variable {R : List (α × α)} {P y : List α}
theorem arr_lt (hR : ∀ r ∈ R, r.1 ∈ P ∧ r.2 ∈ P ∧ r.1 ≠ r.2) (hy : y.Perm P) : ∀ a ∈ arr R y, a.1 ∈ P ∧ a.2 ∈ P ∧ y.idxOf a.1 < y.idxOf a.2 := by
  intro a ha
  unfold arr at ha
  obtain ⟨r, hr, rfl⟩ := List.mem_map.mp ha
  obtain ⟨h1, h2, h3⟩ := hR r hr
  split
  · exact ⟨h1, h2, by assumption⟩
  · rename_i h
    have l1 := List.idxOf_lt_length_iff.mpr (hy.mem_iff.mpr h1)
    have l2 := List.idxOf_lt_length_iff.mpr (hy.mem_iff.mpr h2)
    have ne : y.idxOf r.1 ≠ y.idxOf r.2 := fun e => h3 (by rw [← List.getElem_idxOf l1, ← List.getElem_idxOf l2]; simp [e])
    exact ⟨h2, h1, by show y.idxOf r.2 < y.idxOf r.1; omega⟩
/-- while some are left, one is free -/
theorem ex_free (hR : ∀ r ∈ R, r.1 ∈ P ∧ r.2 ∈ P ∧ r.1 ≠ r.2) (hy : y.Perm P) (hn : P.Nodup) {g : List α} (hg : ∀ x ∈ g, x ∈ P) (hgn : g.Nodup) (hl : g.length < P.length) : ∃ x ∈ P, fre (arr R y) g x = true := by
  have ex : ∃ x ∈ y, x ∉ g := by
    apply Classical.byContradiction
    intro no
    have sub : y ⊆ g := fun x hx => Classical.byContradiction fun c => no ⟨x, hx, c⟩
    have := (hy.nodup_iff.mpr hn).length_le_of_subset sub
    rw [hy.length_eq] at this
    omega
  obtain ⟨x0, hx0, hx0g⟩ := ex
  cases hf : y.find? fun x => !decide (x ∈ g) with
  | none =>
    have := List.find?_eq_none.mp hf x0 hx0
    simp [hx0g] at this
  | some x =>
    rw [List.find?_eq_some_iff_append] at hf
    obtain ⟨h1, as, bs, e, h2⟩ := hf
    have hxg : x ∉ g := by simpa using h1
    refine ⟨x, hy.mem_iff.mp (by rw [e]; simp), fre_iff.mpr ⟨hxg, fun a ha ea => ?_⟩⟩
    have lt := (arr_lt hR hy a ha).2.2
    rw [ea] at lt
    have hxa : x ∉ as := fun m => by
      have := h2 x m
      simp [hxg] at this
    have ix : y.idxOf x = as.length := by rw [e]; exact idx_a hxa
    rw [ix] at lt
    have m : a.1 ∈ as := by
      apply Classical.byContradiction
      intro c
      rw [e, List.idxOf_append, if_neg c] at lt
      omega
    simpa using h2 a.1 m
theorem gr_ok (hR : ∀ r ∈ R, r.1 ∈ P ∧ r.2 ∈ P ∧ r.1 ≠ r.2) (hy : y.Perm P) (hn : P.Nodup) : ∀ k, k ≤ P.length → (gr (arr R y) P k).Nodup ∧ (∀ x ∈ gr (arr R y) P k, x ∈ P) ∧ (gr (arr R y) P k).length = k ∧ Idl (arr R y) (gr (arr R y) P k)
  | 0, _ => ⟨by simp [gr], by simp [gr], rfl, fun a _ h => by simp [gr] at h⟩
  | k + 1, hk => by
    obtain ⟨h1, h2, h3, h4⟩ := gr_ok hR hy hn k (by omega)
    obtain ⟨x0, hx0, hf0⟩ := ex_free hR hy hn h2 h1 (by omega)
    have hm : x0 ∈ P.filter (fre (arr R y) (gr (arr R y) P k)) := List.mem_filter.mpr ⟨hx0, hf0⟩
    unfold gr
    cases q : P.filter (fre (arr R y) (gr (arr R y) P k)) with
    | nil => rw [q] at hm; cases hm
    | cons x r =>
      dsimp only
      have hx : x ∈ P.filter (fre (arr R y) (gr (arr R y) P k)) := by rw [q]; simp
      obtain ⟨hxP, hxf⟩ := List.mem_filter.mp hx
      have hxg := (fre_iff.mp hxf).1
      refine ⟨?_, fun z hz => ?_, by simp [h3], (idl_snoc hxg).mpr ⟨h4, hxf⟩⟩
      · rw [List.nodup_append]
        exact ⟨h1, by simp, fun a ha b hb e => by simp at hb; subst hb; subst e; exact hxg ha⟩
      · rcases List.mem_append.mp hz with m | m
        · exact h2 z m
        · rw [List.mem_singleton] at m; subst m; exact hxP
theorem idl_alike (hR : ∀ r ∈ R, r.1 ∈ P ∧ r.2 ∈ P ∧ r.1 ≠ r.2) {z : List α} (hy : y.Perm P) (hz : z.Perm P) : Idl (arr R y) z ↔ arr R z = arr R y := by
  have hne : ∀ r ∈ R, r.1 ≠ r.2 := fun r hr => (hR r hr).2.2
  rw [arr_iff hne]
  constructor
  · intro h r hr
    have e : (if y.idxOf r.1 < y.idxOf r.2 then r else (r.2, r.1)) ∈ arr R y := List.mem_map.mpr ⟨r, hr, rfl⟩
    obtain ⟨h1, h2, h3⟩ := hR r hr
    by_cases c : y.idxOf r.1 < y.idxOf r.2
    · rw [if_pos c] at e
      have := (h r e (hz.mem_iff.mpr h2)).2
      exact ⟨fun _ => c, fun _ => this⟩
    · rw [if_neg c] at e
      have := (h _ e (hz.mem_iff.mpr h1)).2
      exact ⟨fun q => by have this : z.idxOf r.2 < z.idxOf r.1 := this; omega, fun q => absurd q c⟩
  · intro h a ha hm
    have e : arr R z = arr R y := (arr_iff hne).mpr h
    rw [← e] at ha
    obtain ⟨h1, h2, h3⟩ := arr_lt hR hz a ha
    exact ⟨hz.mem_iff.mpr h1, h3⟩
theorem gr_perm (hR : ∀ r ∈ R, r.1 ∈ P ∧ r.2 ∈ P ∧ r.1 ≠ r.2) (hy : y.Perm P) (hn : P.Nodup) : (gr (arr R y) P P.length).Perm P ∧ arr R (gr (arr R y) P P.length) = arr R y := by
  obtain ⟨h1, h2, h3, h4⟩ := gr_ok hR hy hn P.length (Nat.le_refl _)
  have p := perm_of h1 h2 h3
  exact ⟨p, (idl_alike hR hy p).mp h4⟩
theorem find_ext {A : List (α × α)} {o : List α} : ((P.filter fun x => !decide (x ∈ o)).map fun x => o ++ [x]).find? (fun z => decide (Idl A z)) = if Idl A o then ((P.filter (fre A o)).head?).map fun x => o ++ [x] else none := by
  rw [List.find?_map, List.find?_filter]
  have e : P.find? (fun a => decide ((!decide (a ∈ o)) = true ∧ ((fun z => decide (Idl A z)) ∘ fun x => o ++ [x]) a = true)) = if Idl A o then P.find? (fre A o) else none := by
    by_cases h : Idl A o
    · rw [if_pos h]
      congr 1
      funext x
      by_cases hx : x ∈ o
      · have : fre A o x = false := by
          cases q : fre A o x with
          | false => rfl
          | true => exact absurd hx (fre_iff.mp q).1
        simp [hx, this]
      · have := idl_snoc (A := A) hx
        cases q : fre A o x with
        | true => simp [hx, this, h, q]
        | false => simp [hx, this, q]
    · rw [if_neg h, List.find?_eq_none]
      intro x _
      by_cases hx : x ∈ o
      · simp [hx]
      · have := idl_snoc (A := A) hx
        simp [this, h]
  rw [e]
  split
  · rw [List.head?_filter]
  · rfl
theorem first_idl (hR : ∀ r ∈ R, r.1 ∈ P ∧ r.2 ∈ P ∧ r.1 ≠ r.2) (hy : y.Perm P) (hn : P.Nodup) : ∀ k, k ≤ P.length → (allK P k).find? (fun z => decide (Idl (arr R y) z)) = some (gr (arr R y) P k)
  | 0, _ => by
    have : Idl (arr R y) ([] : List α) := fun a _ h => by cases h
    simp [allK, gr, this]
  | k + 1, hk => by
    have ih := first_idl hR hy hn k (by omega)
    obtain ⟨h1, h2, h3, h4⟩ := gr_ok hR hy hn k (by omega)
    obtain ⟨x0, hx0, hf0⟩ := ex_free hR hy hn h2 h1 (by omega)
    have hm : x0 ∈ P.filter (fre (arr R y) (gr (arr R y) P k)) := List.mem_filter.mpr ⟨hx0, hf0⟩
    rw [allK, exts, List.find?_flatMap]
    rw [List.find?_eq_some_iff_append] at ih
    obtain ⟨_, as, bs, e, hno⟩ := ih
    rw [e, List.findSome?_append]
    have none1 : as.findSome? (fun o => ((P.filter fun x => !decide (x ∈ o)).map fun x => o ++ [x]).find? fun z => decide (Idl (arr R y) z)) = none := by
      rw [List.findSome?_eq_none_iff]
      intro o ho
      have := hno o ho
      rw [find_ext, if_neg (by simpa using this)]
    rw [none1, Option.none_or, List.findSome?_cons, find_ext, if_pos h4]
    cases q : P.filter (fre (arr R y) (gr (arr R y) P k)) with
    | nil => rw [q] at hm; cases hm
    | cons x r => rw [gr_cons q]; rfl
/-- the first of all orders with these arrows -/
theorem first_arr (hR : ∀ r ∈ R, r.1 ∈ P ∧ r.2 ∈ P ∧ r.1 ≠ r.2) (hy : y.Perm P) (hn : P.Nodup) : (allK P P.length).find? (fun z => decide (arr R z = arr R y)) = some (gr (arr R y) P P.length) := by
  rw [← first_idl hR hy hn P.length (Nat.le_refl _)]
  have : ∀ (l : List (List α)), (∀ z ∈ l, z.Perm P) → l.find? (fun z => decide (arr R z = arr R y)) = l.find? (fun z => decide (Idl (arr R y) z)) := by
    intro l
    induction l with
    | nil => intro _; rfl
    | cons z l ih =>
      intro h
      have e : decide (arr R z = arr R y) = decide (Idl (arr R y) z) := by rw [decide_eq_decide]; exact (idl_alike hR hy (h z (by simp))).symm
      rw [List.find?_cons, List.find?_cons, e, ih fun x hx => h x (by simp [hx])]
  exact this _ fun z hz => by
    obtain ⟨a, b, c⟩ := mem_allK.mp hz
    exact perm_of a b c
end
end M
end

section
namespace M
variable {α : Type} [DecidableEq α]
def ent (o : List α) (r : α × α) : α × α := if o.idxOf r.1 < o.idxOf r.2 then r else (r.2, r.1)
theorem ent_lt {o : List α} {r e : α × α} (he : e = r ∨ e = (r.2, r.1)) (h : o.idxOf e.1 < o.idxOf e.2) : ent o r = e := by
  unfold ent
  rcases he with rfl | rfl
  · rw [if_pos h]
  · have h' : o.idxOf r.2 < o.idxOf r.1 := h
    rw [if_neg (by omega)]
theorem ent_is {o : List α} {r : α × α} (h1 : r.1 ∈ o) (h2 : r.2 ∈ o) (hne : r.1 ≠ r.2) : (ent o r = r ∨ ent o r = (r.2, r.1)) ∧ o.idxOf (ent o r).1 < o.idxOf (ent o r).2 := by
  unfold ent
  have l1 := List.idxOf_lt_length_iff.mpr h1
  have l2 := List.idxOf_lt_length_iff.mpr h2
  have ne : o.idxOf r.1 ≠ o.idxOf r.2 := fun e => hne (by rw [← List.getElem_idxOf l1, ← List.getElem_idxOf l2]; simp [e])
  split
  · exact ⟨.inl rfl, by assumption⟩
  · exact ⟨.inr rfl, by show o.idxOf r.2 < o.idxOf r.1; omega⟩
/-- arrows of another order: some are turned about -/
theorem arr_turn {R : List (α × α)} {o o' : List α} (hR : ∀ r ∈ R, r.1 ∈ o ∧ r.2 ∈ o ∧ r.1 ≠ r.2) (c : α × α → Bool)
    (h : ∀ e : α × α, e.1 ∈ o → e.2 ∈ o → o.idxOf e.1 < o.idxOf e.2 → if c e = true then o'.idxOf e.2 < o'.idxOf e.1 else o'.idxOf e.1 < o'.idxOf e.2) :
    arr R o' = (arr R o).map fun e => if c e = true then (e.2, e.1) else e := by
  have a1 : arr R o' = R.map (ent o') := rfl
  have a2 : arr R o = R.map (ent o) := rfl
  rw [a1, a2, List.map_map]
  refine List.map_congr_left fun r hr => ?_
  obtain ⟨h1, h2, h3⟩ := hR r hr
  obtain ⟨e1, e2⟩ := ent_is h1 h2 h3
  have m : (ent o r).1 ∈ o ∧ (ent o r).2 ∈ o := by rcases e1 with q | q <;> rw [q] <;> simp [h1, h2]
  have k := h (ent o r) m.1 m.2 e2
  show ent o' r = if c (ent o r) = true then ((ent o r).2, (ent o r).1) else ent o r
  split
  · rename_i q
    rw [if_pos q] at k
    refine ent_lt ?_ k
    rcases e1 with q | q
    · right; rw [q]
    · left; rw [q]
  · rename_i q
    rw [if_neg q] at k
    exact ent_lt e1 k
theorem idx_rev {o : List α} (hn : o.Nodup) {x : α} (hx : x ∈ o) : o.reverse.idxOf x = o.length - 1 - o.idxOf x := by
  have l := List.idxOf_lt_length_iff.mpr hx
  have hr : o.reverse.Nodup := by
    unfold List.Nodup at hn ⊢
    rw [List.pairwise_reverse]
    exact hn.imp fun h => Ne.symm h
  have li : o.length - 1 - o.idxOf x < o.reverse.length := by rw [List.length_reverse]; omega
  have g : o.reverse[o.length - 1 - o.idxOf x] = x := by
    rw [List.getElem_reverse]
    have : o.length - 1 - (o.length - 1 - o.idxOf x) = o.idxOf x := by omega
    simp only [this]
    exact List.getElem_idxOf l
  have := hr.idxOf_getElem _ li
  rw [g] at this
  exact this
theorem arr_rev {R : List (α × α)} {o : List α} (hn : o.Nodup) (hR : ∀ r ∈ R, r.1 ∈ o ∧ r.2 ∈ o ∧ r.1 ≠ r.2) : arr R o.reverse = (arr R o).map fun e => (e.2, e.1) := by
  have := arr_turn (o' := o.reverse) hR (fun _ => true) fun e h1 h2 h => by
    rw [if_pos rfl, idx_rev hn h1, idx_rev hn h2]
    have := List.idxOf_lt_length_iff.mpr h1
    have := List.idxOf_lt_length_iff.mpr h2
    omega
  simpa using this
theorem arr_sw {R : List (α × α)} {p s : List α} {a b : α} (hn : (p ++ a :: b :: s).Nodup) (hR : ∀ r ∈ R, r.1 ∈ p ++ a :: b :: s ∧ r.2 ∈ p ++ a :: b :: s ∧ r.1 ≠ r.2) :
    arr R (p ++ b :: a :: s) = (arr R (p ++ a :: b :: s)).map fun e => if decide (e = (a, b)) = true then (e.2, e.1) else e := by
  have h1 : a ∉ p ∧ b ∉ p ∧ a ≠ b := by
    rw [List.nodup_append] at hn
    obtain ⟨_, h2, h3⟩ := hn
    refine ⟨fun c => h3 a c a (by simp) rfl, fun c => h3 b c b (by simp) rfl, fun e => ?_⟩
    rw [e] at h2; simp at h2
  obtain ⟨ha, hb, hab⟩ := h1
  have A1 := idx_a (s := b :: s) ha
  have A2 := idx_a (s := a :: s) hb
  have B1 := idx_b (s := s) hb (Ne.symm hab)
  have B2 := idx_b (s := s) ha hab
  refine arr_turn hR (fun e => decide (e = (a, b))) fun e m1 m2 h => ?_
  obtain ⟨x, y⟩ := e
  dsimp only at m1 m2 h ⊢
  by_cases c : x = a ∧ y = b
  · obtain ⟨rfl, rfl⟩ := c
    rw [if_pos (by simp)]
    rw [A2, B2]; omega
  · rw [if_neg (by simpa using c)]
    by_cases xa : x = a
    · subst xa
      have yb : y ≠ b := fun e => c ⟨rfl, e⟩
      by_cases ya : y = x
      · subst ya; omega
      · have i := idx_c (p := p) (s := s) (a := x) (b := b) (c := y) ya yb
        have j := idx_c2 (p := p) (s := s) (a := x) (b := b) (c := y) ya yb
        rw [A1] at h
        rw [B2, ← i]; omega
    · by_cases xb : x = b
      · subst xb
        by_cases ya : y = a
        · subst ya; rw [B1, A1] at h; omega
        · by_cases yx : y = x
          · subst yx; omega
          · have i := idx_c (p := p) (s := s) (a := a) (b := x) (c := y) ya yx
            have j := idx_c2 (p := p) (s := s) (a := a) (b := x) (c := y) ya yx
            rw [B1] at h
            rw [A2, ← i]; omega
      · have cx := idx_c (p := p) (s := s) (a := a) (b := b) (c := x) xa xb
        have cx2 := idx_c2 (p := p) (s := s) (a := a) (b := b) (c := x) xa xb
        by_cases ya : y = a
        · subst ya; rw [A1] at h; rw [B2, ← cx]; omega
        · by_cases yb : y = b
          · subst yb; rw [B1] at h; rw [A2, ← cx]; omega
          · have i := idx_c (p := p) (s := s) (a := a) (b := b) (c := y) ya yb
            rw [← cx, ← i]; exact h
theorem arr_rot {R : List (α × α)} {s : List α} {a : α} (hn : (a :: s).Nodup) (hR : ∀ r ∈ R, r.1 ∈ a :: s ∧ r.2 ∈ a :: s ∧ r.1 ≠ r.2) :
    arr R (s ++ [a]) = (arr R (a :: s)).map fun e => if decide (e.1 = a) = true then (e.2, e.1) else e := by
  rw [List.nodup_cons] at hn
  have ia : (s ++ [a]).idxOf a = s.length := idx_a (s := []) hn.1
  have is : ∀ x ∈ s, (s ++ [a]).idxOf x = s.idxOf x := fun x hx => by rw [List.idxOf_append, if_pos hx]
  have ic : ∀ x, x ≠ a → (a :: s).idxOf x = s.idxOf x + 1 := fun x hx => by
    rw [List.idxOf_cons]
    have : (a == x) = false := by simpa using fun e : a = x => hx e.symm
    rw [this]; rfl
  refine arr_turn hR (fun e => decide (e.1 = a)) fun e m1 m2 h => ?_
  obtain ⟨x, y⟩ := e
  dsimp only at m1 m2 h ⊢
  have ys : y ≠ a := fun e => by subst e; simp at h
  have hy : y ∈ s := by
    rcases List.mem_cons.mp m2 with e | e
    · exact absurd e ys
    · exact e
  have ly := List.idxOf_lt_length_iff.mpr hy
  by_cases c : x = a
  · subst c
    rw [if_pos (by simp), ia, is y hy]
    exact ly
  · rw [if_neg (by simpa using c)]
    have hx : x ∈ s := by
      rcases List.mem_cons.mp m1 with e | e
      · exact absurd e c
      · exact e
    rw [is x hx, is y hy]
    rw [ic x c, ic y ys] at h
    omega
end M
end

section
set_option Elab.async false
set_option linter.all false
set_option maxRecDepth 100000
set_option maxHeartbeats 2000000
/-! ZZD: dict comprehensions, lists equal, remove, slices. -/
namespace Z
open PySem L2
theorem dcL_run {β : Type} {f : D → Rho → Option Rho} {tt : M Bool} {tk tv : M Res} {vs : List Nat} {w : Rho} (e : β → D) (kf vf : β → D) :
    ∀ (xs : List β) (acc : List (D × D)) (ρ : Rho), wipeR vs 0 ρ = w → (∀ x ∈ xs, ∃ ρ1 ρ2 ρ3 ρ4, f (e x) w = some ρ1 ∧ tt ρ1 = some (true, ρ2) ∧ mShare tk ρ2 = some (kf x, ρ3) ∧ mShare tv ρ3 = some (vf x, ρ4) ∧ wipeR vs 0 ρ4 = w) →
      (∀ x ∈ xs, (keyD (kf x)).isSome = true ∧ isDict (vf x) = false) → xs.Pairwise (fun x y => eqK (kf x) (kf y) = false) → (∀ x ∈ xs, hasD acc (kf x) = false) → allK acc = true → acc.length + xs.length ≤ big →
      ∃ ρ', dcL f tt tk tv vs (xs.map e) acc ρ = some (acc ++ xs.map fun x => (kf x, vf x), ρ') ∧ wipeR vs 0 ρ' = w
  | [], acc, ρ, hw, _, _, _, _, _, _ => ⟨ρ, by simp [dcL], hw⟩
  | x :: xs, acc, ρ, hw, hs, hk, hp, hh, ha, hl => by
    obtain ⟨ρ1, ρ2, ρ3, ρ4, e1, e2, e3, e4, e5⟩ := hs x (by simp)
    obtain ⟨k1, k2⟩ := hk x (by simp)
    rw [List.pairwise_cons] at hp
    rw [List.length_cons] at hl
    have hx := hh x (by simp)
    have pu : putD acc (kf x) (vf x) = acc ++ [(kf x, vf x)] := by unfold putD; rw [hx]; rfl
    obtain ⟨ρ', e6, e7⟩ := dcL_run e kf vf xs (acc ++ [(kf x, vf x)]) ρ4 e5 (fun y hy => hs y (by simp [hy])) (fun y hy => hk y (by simp [hy])) hp.2 (fun y hy => by
      rw [hasD_snoc, hh y (by simp [hy]), hp.1 y hy]; rfl) (by unfold allK at ha ⊢; rw [List.all_append, ha]; simp [k1]) (by rw [List.length_append]; show acc.length + 1 + xs.length ≤ big; omega)
    refine ⟨ρ', ?_, e7⟩
    have g : ((keyD (kf x)).isSome && !isDict (vf x) && decide (acc.length < big) && allK acc) = true := by
      rw [ha, k1, k2, decide_eq_true (show acc.length < big by omega)]; rfl
    have e6' : dcL f tt tk tv vs (xs.map e) (putD acc (kf x) (vf x)) ρ4 = some (acc ++ (x :: xs).map fun x => (kf x, vf x), ρ') := by
      rw [pu, e6]; simp
    simp only [List.map_cons, dcL, hw, e1, e2, e3, e4, g, if_true]
    rw [e6']
    simp
theorem dc_run {β : Type} {mi : M (List D)} {f : D → Rho → Option Rho} {tt : M Bool} {tk tv : M Res} {vs : List Nat} {ρ ρ1 : Rho} (e : β → D) (kf vf : β → D) (xs : List β) (h1 : mi ρ = some (xs.map e, ρ1)) (h2 : noOwn vs ρ1 = true) (hl : xs.length ≤ big)
    (hp : xs.Pairwise fun x y => eqK (kf x) (kf y) = false) (hk : ∀ x ∈ xs, (keyD (kf x)).isSome = true ∧ isDict (vf x) = false)
    (hs : ∀ x ∈ xs, ∃ ρ2 ρ3 ρ4 ρ5, f (e x) (wipeR vs 0 ρ1) = some ρ2 ∧ tt ρ2 = some (true, ρ3) ∧ mShare tk ρ3 = some (kf x, ρ4) ∧ mShare tv ρ4 = some (vf x, ρ5) ∧ wipeR vs 0 ρ5 = wipeR vs 0 ρ1) :
    mDc mi f tt tk tv vs ρ = some (.fr (.dict (xs.map fun x => (kf x, vf x))), ρ1) := by
  obtain ⟨ρ', e1, e2⟩ := dcL_run e kf vf xs [] ρ1 rfl hs hk hp (fun _ _ => rfl) rfl (by simpa using hl)
  rw [x_dc, h1, Option.bind_some, if_pos h2, e1, Option.bind_some, e2, back_wipe]
  rfl
/-- under a name in such a dict -/
theorem ix_names {vf : Str → D} {P : List Str} {x : Str} (hx : x ∈ P) : dIxX (.dict (P.map fun p => ((.str p : D), vf p))) (.str x) = some (.val (vf x)) := by
  have hs : suits (P.map fun p => ((.str p : D), vf p)) (.str x) = true := by
    unfold suits
    have : allK (P.map fun p => ((.str p : D), vf p)) = true := by
      unfold allK
      rw [List.all_map, List.all_eq_true]
      intro y _; rfl
    rw [this]; rfl
  have hv : valD (P.map fun p => ((.str p : D), vf p)) (.str x) = some (vf x) := by
    induction P with
    | nil => cases hx
    | cons p P ih =>
      unfold valD
      rw [List.map_cons, List.find?_cons]
      dsimp only
      rw [eqK_str]
      by_cases c : p = x
      · subst c; simp
      · have hx' : x ∈ P := by
          rcases List.mem_cons.mp hx with e | e
          · exact absurd e.symm c
          · exact e
        have := ih hx' (by
          unfold suits
          have : allK (P.map fun p => ((.str p : D), vf p)) = true := by
            unfold allK
            rw [List.all_map, List.all_eq_true]
            intro y _; rfl
          rw [this]; rfl)
        unfold valD at this
        simp only [c, decide_false]
        exact this
  unfold dIxX orG dIx dIxM
  simp only [hs, if_true, hv]
section
variable {β : Type} [DecidableEq β] {e : β → D}
theorem eq_lst (h : Inj e) {xs ys : List β} (h1 : SeqAt.shaped (.list (xs.map e)) = true) (h2 : SeqAt.shaped (.list (ys.map e)) = true) : dEq (.list (xs.map e)) (.list (ys.map e)) = some (.val (.bool (decide (xs = ys)))) := by
  unfold dEq eqD scalE sv
  simp only [h1, h2, Bool.and_self, if_true, PyData.eqv, eqv_all h]
theorem ne_tup (h : Inj e) {xs ys : List β} (h1 : SeqAt.shaped (.tuple (xs.map e)) = true) (h2 : SeqAt.shaped (.tuple (ys.map e)) = true) : dNe (.tuple (xs.map e)) (.tuple (ys.map e)) = some (.val (.bool (!decide (xs = ys)))) := by
  unfold dNe eqD scalE sv
  simp only [h1, h2, Bool.and_self, if_true, PyData.eqv, eqv_all h]
theorem remove_at (h : Inj e) {xs : List β} {x : β} (h1 : SeqAt.shaped (.list (xs.map e)) = true) (h2 : SeqAt.shaped (e x) = true) (hx : x ∈ xs) : mtRemove (.list (xs.map e)) [e x] = some (.list ((xs.erase x).map e), .none) := by
  have hl := List.idxOf_lt_length_iff.mpr hx
  have q : SeqAt.dataPlace (xs.map e) (e x) = some (xs.idxOf x) := by
    unfold SeqAt.dataPlace
    rw [List.findIdx?_eq_some_iff_getElem]
    refine ⟨by simpa using hl, by rw [List.getElem_map, h, List.getElem_idxOf hl]; simp, fun j hj => ?_⟩
    have hj' : j < xs.length := by omega
    rw [List.getElem_map, h]
    intro c
    have c' : xs[j] = x := by simpa using c
    have := List.not_of_lt_findIdx (p := fun z => z == x) (xs := xs) hj
    simp [c'] at this
  have er : xs.erase x = xs.eraseIdx (xs.idxOf x) := by
    rw [List.erase_eq_eraseIdx]
    have : xs.idxOf? x = some (xs.idxOf x) := by
      rw [List.idxOf?_eq_some_iff]
      refine ⟨hl, List.getElem_idxOf hl, fun j hj => ?_⟩
      intro c
      have := List.not_of_lt_findIdx (p := fun z => z == x) (xs := xs) hj
      simp [c] at this
    rw [this]
  show (if SeqAt.shaped (.list (xs.map e)) && SeqAt.shaped (e x) then match SeqAt.dataPlace (xs.map e) (e x) with
      | some j => some (PyData.list ((xs.map e).eraseIdx j), PyData.none)
      | none => none
    else none) = _
  rw [h1, h2, q]
  simp [er, List.eraseIdx_eq_take_drop_succ, List.map_take, List.map_drop]
end
theorem cut_mid {a : List D} {i : Nat} (h : i + 1 < a.length) : cutD a (some (i : Int)) (some ((i : Int) + 2)) = [a[i], a[i + 1]] := by
  have e : ((i : Int) + 2) = ((i + 2 : Nat) : Int) := by omega
  unfold cutD
  rw [e, HT.sIx_nat, HT.sIx_nat, Nat.min_eq_left (by omega), Nat.min_eq_left (by omega)]
  have : i + 2 - i = 2 := by omega
  rw [this, List.drop_eq_getElem_cons (show i < a.length by omega), List.drop_eq_getElem_cons h]
  rfl
end Z
end

section
set_option Elab.async false
set_option linter.all false
set_option maxRecDepth 100000
set_option maxHeartbeats 2000000
namespace T
open PySem L2 Z
def top (i : Nat) : Stmt := PySem.Challenge.pw_allseen_k27_arrows_of_orders_and_first_a.main.body.getD i (.Pass ⟨0, 0, 0, 0⟩)
abbrev cs : List (Str × D) := [(("LETTERS" : Str), .str "abcdefghijklmnopqrstuvwxyz"), (("DIGITS" : Str), .str "0123456789"), (("MOST_SIGNS" : Str), .int 8), (("MOST_PLACES" : Str), .int 8), (("MOST_ROADS" : Str), .int 14)]
abbrev n_1 : List Str := [("web" : Str), ("order" : Str), ("ranks" : Str), ("rank" : Str), ("place" : Str), ("one" : Str), ("other" : Str)]
abbrev m_1 : List Bool := [false, false]
def s_arrows_of : Fn := runF m_1 7 (meaning ⟨n_1, [], cs⟩ (top 1))
abbrev g_1 : Sig := { ps := [("web" : Str), ("order" : Str)], ms := m_1, fn := s_arrows_of, kws := [] }
abbrev f_1 : List (Str × Sig) := (("arrows_of" : Str), g_1) :: []
abbrev n_2 : List Str := [("web" : Str), ("arrows" : Str), ("place" : Str), ("one" : Str), ("other" : Str)]
abbrev m_2 : List Bool := [false, false]
def s_ahead_of : Fn := runF m_2 5 (meaning ⟨n_2, f_1, cs⟩ (top 2))
abbrev g_2 : Sig := { ps := [("web" : Str), ("arrows" : Str)], ms := m_2, fn := s_ahead_of, kws := [] }
abbrev f_2 : List (Str × Sig) := (("ahead_of" : Str), g_2) :: f_1
abbrev n_3 : List Str := [("web" : Str), ("arrows" : Str), ("ahead" : Str), ("left" : Str), ("found" : Str), ("free" : Str), ("place" : Str), ("one" : Str)]
abbrev m_3 : List Bool := [false, false]
def s_first_order : Fn := runF m_3 8 (meaning ⟨n_3, f_2, cs⟩ (top 3))
abbrev g_3 : Sig := { ps := [("web" : Str), ("arrows" : Str)], ms := m_3, fn := s_first_order, kws := [] }
abbrev f_3 : List (Str × Sig) := (("first_order" : Str), g_3) :: f_2
abbrev n_12 : List Str := [("thing" : Str), ("sign" : Str)]
abbrev m_12 : List Bool := [false]
def s_is_name : Fn := runF m_12 2 (meaning ⟨n_12, f_3, cs⟩ (top 12))
abbrev g_12 : Sig := { ps := [("thing" : Str)], ms := m_12, fn := s_is_name, kws := [] }
abbrev f_12 : List (Str × Sig) := (("is_name" : Str), g_12) :: f_3
abbrev n_13 : List Str := [("thing" : Str), ("least" : Str), ("most" : Str)]
abbrev m_13 : List Bool := [false, false, false]
def s_is_row_of : Fn := runF m_13 3 (meaning ⟨n_13, f_12, cs⟩ (top 13))
abbrev g_13 : Sig := { ps := [("thing" : Str), ("least" : Str), ("most" : Str)], ms := m_13, fn := s_is_row_of, kws := [] }
abbrev f_13 : List (Str × Sig) := (("is_row_of" : Str), g_13) :: f_12
abbrev n_14 : List Str := [("things" : Str)]
abbrev m_14 : List Bool := [false]
def s_are_unlike : Fn := runF m_14 1 (meaning ⟨n_14, f_13, cs⟩ (top 14))
abbrev g_14 : Sig := { ps := [("things" : Str)], ms := m_14, fn := s_are_unlike, kws := [] }
abbrev f_14 : List (Str × Sig) := (("are_unlike" : Str), g_14) :: f_13
abbrev n_18 : List Str := [("places" : Str), ("thing" : Str), ("place" : Str)]
abbrev m_18 : List Bool := [false, false]
def s_are_places : Fn := runF m_18 3 (meaning ⟨n_18, f_14, cs⟩ (top 18))
abbrev g_18 : Sig := { ps := [("places" : Str), ("thing" : Str)], ms := m_18, fn := s_are_places, kws := [] }
abbrev f_18 : List (Str × Sig) := (("are_places" : Str), g_18) :: f_14
abbrev n_19 : List Str := [("places" : Str), ("thing" : Str)]
abbrev m_19 : List Bool := [false, false]
def s_is_road : Fn := runF m_19 2 (meaning ⟨n_19, f_18, cs⟩ (top 19))
abbrev g_19 : Sig := { ps := [("places" : Str), ("thing" : Str)], ms := m_19, fn := s_is_road, kws := [] }
abbrev f_19 : List (Str × Sig) := (("is_road" : Str), g_19) :: f_18
abbrev n_20 : List Str := [("thing" : Str), ("places" : Str), ("roads" : Str), ("place" : Str), ("road" : Str)]
abbrev m_20 : List Bool := [false]
def s_is_web_form : Fn := runF m_20 5 (meaning ⟨n_20, f_19, cs⟩ (top 20))
abbrev g_20 : Sig := { ps := [("thing" : Str)], ms := m_20, fn := s_is_web_form, kws := [] }
abbrev f_20 : List (Str × Sig) := (("is_web_form" : Str), g_20) :: f_19
abbrev n_21 : List Str := [("web" : Str)]
abbrev m_21 : List Bool := [false]
def s_need_web : Fn := runF m_21 1 (meaning ⟨n_21, f_20, cs⟩ (top 21))
abbrev g_21 : Sig := { ps := [("web" : Str)], ms := m_21, fn := s_need_web, kws := [] }
abbrev f_21 : List (Str × Sig) := (("need_web" : Str), g_21) :: f_20
abbrev n_22 : List Str := [("web" : Str), ("thing" : Str)]
abbrev m_22 : List Bool := [false, false]
def s_is_order : Fn := runF m_22 2 (meaning ⟨n_22, f_21, cs⟩ (top 22))
abbrev g_22 : Sig := { ps := [("web" : Str), ("thing" : Str)], ms := m_22, fn := s_is_order, kws := [] }
abbrev f_22 : List (Str × Sig) := (("is_order" : Str), g_22) :: f_21
abbrev n_23 : List Str := [("web" : Str), ("order" : Str)]
abbrev m_23 : List Bool := [false, false]
def s_need_order : Fn := runF m_23 2 (meaning ⟨n_23, f_22, cs⟩ (top 23))
abbrev g_23 : Sig := { ps := [("web" : Str), ("order" : Str)], ms := m_23, fn := s_need_order, kws := [] }
abbrev f_23 : List (Str × Sig) := (("need_order" : Str), g_23) :: f_22
abbrev n_25 : List Str := [("web" : Str), ("order" : Str), ("other" : Str)]
abbrev m_25 : List Bool := [false, false, false]
def s_need_two_orders : Fn := runF m_25 3 (meaning ⟨n_25, f_23, cs⟩ (top 25))
abbrev g_25 : Sig := { ps := [("web" : Str), ("order" : Str), ("other" : Str)], ms := m_25, fn := s_need_two_orders, kws := [] }
abbrev f_25 : List (Str × Sig) := (("need_two_orders" : Str), g_25) :: f_23
abbrev n_26 : List Str := [("web" : Str), ("order" : Str)]
abbrev m_26 : List Bool := [false, false]
def s_arrows : Fn := runF m_26 2 (meaning ⟨n_26, f_25, cs⟩ (top 26))
abbrev g_26 : Sig := { ps := [("web" : Str), ("order" : Str)], ms := m_26, fn := s_arrows, kws := [[("order" : Str), ("web" : Str)]] }
abbrev f_26 : List (Str × Sig) := (("arrows" : Str), g_26) :: f_25
abbrev n_27 : List Str := [("web" : Str), ("order" : Str), ("other" : Str)]
abbrev m_27 : List Bool := [false, false, false]
def s_are_alike : Fn := runF m_27 3 (meaning ⟨n_27, f_26, cs⟩ (top 27))
abbrev g_27 : Sig := { ps := [("web" : Str), ("order" : Str), ("other" : Str)], ms := m_27, fn := s_are_alike, kws := [] }
abbrev f_27 : List (Str × Sig) := (("are_alike" : Str), g_27) :: f_26
abbrev n_28 : List Str := [("web" : Str), ("order" : Str)]
abbrev m_28 : List Bool := [false, false]
def s_first_alike : Fn := runF m_28 2 (meaning ⟨n_28, f_27, cs⟩ (top 28))
abbrev g_28 : Sig := { ps := [("web" : Str), ("order" : Str)], ms := m_28, fn := s_first_alike, kws := [[("order" : Str), ("web" : Str)]] }
abbrev f_28 : List (Str × Sig) := (("first_alike" : Str), g_28) :: f_27
abbrev n_30 : List Str := [("script" : Str), ("k" : Str), ("cell" : Str)]
abbrev m_30 : List Bool := [false, false]
def s_law_feed : Fn := runF m_30 3 (meaning ⟨n_30, f_28, cs⟩ (top 30))
abbrev g_30 : Sig := { ps := [("script" : Str), ("k" : Str)], ms := m_30, fn := s_law_feed, kws := [] }
abbrev f_30 : List (Str × Sig) := (("_law_feed" : Str), g_30) :: f_28
abbrev n_31 : List Str := [("feed" : Str), ("many" : Str), ("rest" : Str), ("got" : Str), ("stir" : Str)]
abbrev m_31 : List Bool := [true, false]
def s_law_draw : Fn := runF m_31 5 (meaning ⟨n_31, f_30, cs⟩ (top 31))
abbrev g_31 : Sig := { ps := [("feed" : Str), ("many" : Str)], ms := m_31, fn := s_law_draw, kws := [] }
abbrev f_31 : List (Str × Sig) := (("_law_draw" : Str), g_31) :: f_30
abbrev n_32 : List Str := [("feed" : Str), ("things" : Str)]
abbrev m_32 : List Bool := [true, false]
def s_law_one : Fn := runF m_32 2 (meaning ⟨n_32, f_31, cs⟩ (top 32))
abbrev g_32 : Sig := { ps := [("feed" : Str), ("things" : Str)], ms := m_32, fn := s_law_one, kws := [] }
abbrev f_32 : List (Str × Sig) := (("_law_one" : Str), g_32) :: f_31
abbrev n_33 : List Str := [("feed" : Str), ("things" : Str), ("pool" : Str), ("got" : Str), ("turn" : Str)]
abbrev m_33 : List Bool := [true, false]
def s_law_mixed : Fn := runF m_33 5 (meaning ⟨n_33, f_32, cs⟩ (top 33))
abbrev g_33 : Sig := { ps := [("feed" : Str), ("things" : Str)], ms := m_33, fn := s_law_mixed, kws := [] }
abbrev f_33 : List (Str × Sig) := (("_law_mixed" : Str), g_33) :: f_32
abbrev n_34 : List Str := [("feed" : Str), ("many" : Str)]
abbrev m_34 : List Bool := [true, false]
def s_law_names : Fn := runF m_34 2 (meaning ⟨n_34, f_33, cs⟩ (top 34))
abbrev g_34 : Sig := { ps := [("feed" : Str), ("many" : Str)], ms := m_34, fn := s_law_names, kws := [] }
abbrev f_34 : List (Str × Sig) := (("_law_names" : Str), g_34) :: f_33
abbrev n_35 : List Str := [("feed" : Str), ("way" : Str), ("most" : Str), ("many" : Str), ("pairs" : Str), ("shape" : Str), ("at" : Str), ("back" : Str), ("turn" : Str), ("one" : Str), ("other" : Str), ("pair" : Str), ("names" : Str), ("roads" : Str)]
abbrev m_35 : List Bool := [true, false, false]
def s_law_web : Fn := runF m_35 14 (meaning ⟨n_35, f_34, cs⟩ (top 35))
abbrev g_35 : Sig := { ps := [("feed" : Str), ("way" : Str), ("most" : Str)], ms := m_35, fn := s_law_web, kws := [] }
abbrev f_35 : List (Str × Sig) := (("_law_web" : Str), g_35) :: f_34
abbrev n_36 : List Str := [("feed" : Str), ("web" : Str)]
abbrev m_36 : List Bool := [true, false]
def s_law_order : Fn := runF m_36 2 (meaning ⟨n_36, f_35, cs⟩ (top 36))
abbrev g_36 : Sig := { ps := [("feed" : Str), ("web" : Str)], ms := m_36, fn := s_law_order, kws := [] }
abbrev f_36 : List (Str × Sig) := (("_law_order" : Str), g_36) :: f_35
abbrev n_37 : List Str := [("web" : Str), ("order" : Str), ("road" : Str)]
abbrev m_37 : List Bool := [false, false]
def s_law_arrows : Fn := runF m_37 3 (meaning ⟨n_37, f_36, cs⟩ (top 37))
abbrev g_37 : Sig := { ps := [("web" : Str), ("order" : Str)], ms := m_37, fn := s_law_arrows, kws := [] }
abbrev f_37 : List (Str × Sig) := (("_law_arrows" : Str), g_37) :: f_36
abbrev n_38 : List Str := [("feed" : Str), ("most" : Str), ("many" : Str), ("pairs" : Str), ("names" : Str), ("at" : Str), ("roads" : Str), ("to" : Str), ("one" : Str), ("other" : Str)]
abbrev m_38 : List Bool := [true, false]
def s_law_wide_web : Fn := runF m_38 10 (meaning ⟨n_38, f_37, cs⟩ (top 38))
abbrev g_38 : Sig := { ps := [("feed" : Str), ("most" : Str)], ms := m_38, fn := s_law_wide_web, kws := [] }
abbrev f_38 : List (Str × Sig) := (("_law_wide_web" : Str), g_38) :: f_37
abbrev n_39 : List Str := [("feed" : Str), ("most" : Str)]
abbrev m_39 : List Bool := [true, false]
def s_law_any_web : Fn := runF m_39 2 (meaning ⟨n_39, f_38, cs⟩ (top 39))
abbrev g_39 : Sig := { ps := [("feed" : Str), ("most" : Str)], ms := m_39, fn := s_law_any_web, kws := [] }
abbrev f_39 : List (Str × Sig) := (("_law_any_web" : Str), g_39) :: f_38
abbrev n_40 : List Str := [("order" : Str), ("at" : Str)]
abbrev m_40 : List Bool := [false, false]
def s_law_swapped : Fn := runF m_40 2 (meaning ⟨n_40, f_39, cs⟩ (top 40))
abbrev g_40 : Sig := { ps := [("order" : Str), ("at" : Str)], ms := m_40, fn := s_law_swapped, kws := [] }
abbrev f_40 : List (Str × Sig) := (("_law_swapped" : Str), g_40) :: f_39
abbrev n_41 : List Str := [("script" : Str), ("k" : Str), ("feed" : Str), ("web" : Str), ("order" : Str), ("due" : Str), ("at" : Str), ("pair" : Str), ("turned" : Str), ("arrow" : Str)]
abbrev m_41 : List Bool := [false]
def s_law_asked_one : Fn := runF m_41 10 (meaning ⟨n_41, f_40, cs⟩ (top 41))
abbrev g_41 : Sig := { ps := [("script" : Str)], ms := m_41, fn := s_law_asked_one, kws := [] }
abbrev f_41 : List (Str × Sig) := (("_law_asked_one" : Str), g_41) :: f_40
abbrev n_42 : List Str := [("web" : Str), ("got" : Str), ("turn" : Str), ("more" : Str), ("order" : Str), ("place" : Str)]
abbrev m_42 : List Bool := [false]
def s_law_orders : Fn := runF m_42 6 (meaning ⟨n_42, f_41, cs⟩ (top 42))
abbrev g_42 : Sig := { ps := [("web" : Str)], ms := m_42, fn := s_law_orders, kws := [] }
abbrev f_42 : List (Str × Sig) := (("_law_orders" : Str), g_42) :: f_41
abbrev n_43 : List Str := [("web" : Str), ("one" : Str), ("other" : Str)]
abbrev m_43 : List Bool := [false, false, false]
def s_law_apart : Fn := runF m_43 3 (meaning ⟨n_43, f_42, cs⟩ (top 43))
abbrev g_43 : Sig := { ps := [("web" : Str), ("one" : Str), ("other" : Str)], ms := m_43, fn := s_law_apart, kws := [] }
abbrev f_43 : List (Str × Sig) := (("_law_apart" : Str), g_43) :: f_42
abbrev n_44 : List Str := [("web" : Str), ("order" : Str), ("at" : Str)]
abbrev m_44 : List Bool := [false, false]
def s_law_swaps : Fn := runF m_44 3 (meaning ⟨n_44, f_43, cs⟩ (top 44))
abbrev g_44 : Sig := { ps := [("web" : Str), ("order" : Str)], ms := m_44, fn := s_law_swaps, kws := [] }
abbrev f_44 : List (Str × Sig) := (("_law_swaps" : Str), g_44) :: f_43
abbrev n_45 : List Str := [("feed" : Str), ("web" : Str), ("order" : Str), ("many" : Str), ("path" : Str), ("turn" : Str), ("free" : Str)]
abbrev m_45 : List Bool := [true, false, false, false]
def s_law_like : Fn := runF m_45 7 (meaning ⟨n_45, f_44, cs⟩ (top 45))
abbrev g_45 : Sig := { ps := [("feed" : Str), ("web" : Str), ("order" : Str), ("many" : Str)], ms := m_45, fn := s_law_like, kws := [] }
abbrev f_45 : List (Str × Sig) := (("_law_like" : Str), g_45) :: f_44
abbrev n_46 : List Str := [("web" : Str), ("told" : Str), ("got" : Str), ("turn" : Str), ("free" : Str), ("place" : Str), ("one" : Str), ("other" : Str)]
abbrev m_46 : List Bool := [false, false]
def s_law_first : Fn := runF m_46 8 (meaning ⟨n_46, f_45, cs⟩ (top 46))
abbrev g_46 : Sig := { ps := [("web" : Str), ("told" : Str)], ms := m_46, fn := s_law_first, kws := [] }
abbrev f_46 : List (Str × Sig) := (("_law_first" : Str), g_46) :: f_45
abbrev n_47 : List Str := [("script" : Str), ("k" : Str), ("feed" : Str), ("web" : Str), ("firsts" : Str), ("order" : Str), ("due" : Str), ("turn" : Str), ("other" : Str)]
abbrev m_47 : List Bool := [false]
def s_law_asked_two : Fn := runF m_47 9 (meaning ⟨n_47, f_46, cs⟩ (top 47))
abbrev g_47 : Sig := { ps := [("script" : Str)], ms := m_47, fn := s_law_asked_two, kws := [] }
abbrev f_47 : List (Str × Sig) := (("_law_asked_two" : Str), g_47) :: f_46
abbrev n_48 : List Str := [("script" : Str)]
abbrev m_48 : List Bool := [false]
def s_law : Fn := runF m_48 1 (meaning ⟨n_48, f_47, cs⟩ (top 48))
abbrev g_48 : Sig := { ps := [("script" : Str)], ms := m_48, fn := s_law, kws := [] }
abbrev f_48 : List (Str × Sig) := (("law" : Str), g_48) :: f_47
theorem sc_1 : FnScope n_1 [("web" : Str), ("order" : Str)] (defScope (top 1)) := ⟨rfl, rfl, rfl, by decide +kernel, rfl, by decide +kernel, by decide +kernel⟩
theorem sc_2 : FnScope n_2 [("web" : Str), ("arrows" : Str)] (defScope (top 2)) := ⟨rfl, rfl, rfl, by decide +kernel, rfl, by decide +kernel, by decide +kernel⟩
theorem sc_3 : FnScope n_3 [("web" : Str), ("arrows" : Str)] (defScope (top 3)) := ⟨rfl, rfl, rfl, by decide +kernel, rfl, by decide +kernel, by decide +kernel⟩
theorem sc_12 : FnScope n_12 [("thing" : Str)] (defScope (top 12)) := ⟨rfl, rfl, rfl, by decide +kernel, rfl, by decide +kernel, by decide +kernel⟩
theorem sc_13 : FnScope n_13 [("thing" : Str), ("least" : Str), ("most" : Str)] (defScope (top 13)) := ⟨rfl, rfl, rfl, by decide +kernel, rfl, by decide +kernel, by decide +kernel⟩
theorem sc_14 : FnScope n_14 [("things" : Str)] (defScope (top 14)) := ⟨rfl, rfl, rfl, by decide +kernel, rfl, by decide +kernel, by decide +kernel⟩
theorem sc_18 : FnScope n_18 [("places" : Str), ("thing" : Str)] (defScope (top 18)) := ⟨rfl, rfl, rfl, by decide +kernel, rfl, by decide +kernel, by decide +kernel⟩
theorem sc_19 : FnScope n_19 [("places" : Str), ("thing" : Str)] (defScope (top 19)) := ⟨rfl, rfl, rfl, by decide +kernel, rfl, by decide +kernel, by decide +kernel⟩
theorem sc_20 : FnScope n_20 [("thing" : Str)] (defScope (top 20)) := ⟨rfl, rfl, rfl, by decide +kernel, rfl, by decide +kernel, by decide +kernel⟩
theorem sc_21 : FnScope n_21 [("web" : Str)] (defScope (top 21)) := ⟨rfl, rfl, rfl, by decide +kernel, rfl, by decide +kernel, by decide +kernel⟩
theorem sc_22 : FnScope n_22 [("web" : Str), ("thing" : Str)] (defScope (top 22)) := ⟨rfl, rfl, rfl, by decide +kernel, rfl, by decide +kernel, by decide +kernel⟩
theorem sc_23 : FnScope n_23 [("web" : Str), ("order" : Str)] (defScope (top 23)) := ⟨rfl, rfl, rfl, by decide +kernel, rfl, by decide +kernel, by decide +kernel⟩
theorem sc_25 : FnScope n_25 [("web" : Str), ("order" : Str), ("other" : Str)] (defScope (top 25)) := ⟨rfl, rfl, rfl, by decide +kernel, rfl, by decide +kernel, by decide +kernel⟩
theorem sc_26 : FnScope n_26 [("web" : Str), ("order" : Str)] (defScope (top 26)) := ⟨rfl, rfl, rfl, by decide +kernel, rfl, by decide +kernel, by decide +kernel⟩
theorem sc_27 : FnScope n_27 [("web" : Str), ("order" : Str), ("other" : Str)] (defScope (top 27)) := ⟨rfl, rfl, rfl, by decide +kernel, rfl, by decide +kernel, by decide +kernel⟩
theorem sc_28 : FnScope n_28 [("web" : Str), ("order" : Str)] (defScope (top 28)) := ⟨rfl, rfl, rfl, by decide +kernel, rfl, by decide +kernel, by decide +kernel⟩
theorem sc_30 : FnScope n_30 [("script" : Str), ("k" : Str)] (defScope (top 30)) := ⟨rfl, rfl, rfl, by decide +kernel, rfl, by decide +kernel, by decide +kernel⟩
theorem sc_31 : FnScope n_31 [("feed" : Str), ("many" : Str)] (defScope (top 31)) := ⟨rfl, rfl, rfl, by decide +kernel, rfl, by decide +kernel, by decide +kernel⟩
theorem sc_32 : FnScope n_32 [("feed" : Str), ("things" : Str)] (defScope (top 32)) := ⟨rfl, rfl, rfl, by decide +kernel, rfl, by decide +kernel, by decide +kernel⟩
theorem sc_33 : FnScope n_33 [("feed" : Str), ("things" : Str)] (defScope (top 33)) := ⟨rfl, rfl, rfl, by decide +kernel, rfl, by decide +kernel, by decide +kernel⟩
theorem sc_34 : FnScope n_34 [("feed" : Str), ("many" : Str)] (defScope (top 34)) := ⟨rfl, rfl, rfl, by decide +kernel, rfl, by decide +kernel, by decide +kernel⟩
theorem sc_35 : FnScope n_35 [("feed" : Str), ("way" : Str), ("most" : Str)] (defScope (top 35)) := ⟨rfl, rfl, rfl, by decide +kernel, rfl, by decide +kernel, by decide +kernel⟩
theorem sc_36 : FnScope n_36 [("feed" : Str), ("web" : Str)] (defScope (top 36)) := ⟨rfl, rfl, rfl, by decide +kernel, rfl, by decide +kernel, by decide +kernel⟩
theorem sc_37 : FnScope n_37 [("web" : Str), ("order" : Str)] (defScope (top 37)) := ⟨rfl, rfl, rfl, by decide +kernel, rfl, by decide +kernel, by decide +kernel⟩
theorem sc_38 : FnScope n_38 [("feed" : Str), ("most" : Str)] (defScope (top 38)) := ⟨rfl, rfl, rfl, by decide +kernel, rfl, by decide +kernel, by decide +kernel⟩
theorem sc_39 : FnScope n_39 [("feed" : Str), ("most" : Str)] (defScope (top 39)) := ⟨rfl, rfl, rfl, by decide +kernel, rfl, by decide +kernel, by decide +kernel⟩
theorem sc_40 : FnScope n_40 [("order" : Str), ("at" : Str)] (defScope (top 40)) := ⟨rfl, rfl, rfl, by decide +kernel, rfl, by decide +kernel, by decide +kernel⟩
theorem sc_41 : FnScope n_41 [("script" : Str)] (defScope (top 41)) := ⟨rfl, rfl, rfl, by decide +kernel, rfl, by decide +kernel, by decide +kernel⟩
theorem sc_42 : FnScope n_42 [("web" : Str)] (defScope (top 42)) := ⟨rfl, rfl, rfl, by decide +kernel, rfl, by decide +kernel, by decide +kernel⟩
theorem sc_43 : FnScope n_43 [("web" : Str), ("one" : Str), ("other" : Str)] (defScope (top 43)) := ⟨rfl, rfl, rfl, by decide +kernel, rfl, by decide +kernel, by decide +kernel⟩
theorem sc_44 : FnScope n_44 [("web" : Str), ("order" : Str)] (defScope (top 44)) := ⟨rfl, rfl, rfl, by decide +kernel, rfl, by decide +kernel, by decide +kernel⟩
theorem sc_45 : FnScope n_45 [("feed" : Str), ("web" : Str), ("order" : Str), ("many" : Str)] (defScope (top 45)) := ⟨rfl, rfl, rfl, by decide +kernel, rfl, by decide +kernel, by decide +kernel⟩
theorem sc_46 : FnScope n_46 [("web" : Str), ("told" : Str)] (defScope (top 46)) := ⟨rfl, rfl, rfl, by decide +kernel, rfl, by decide +kernel, by decide +kernel⟩
theorem sc_47 : FnScope n_47 [("script" : Str)] (defScope (top 47)) := ⟨rfl, rfl, rfl, by decide +kernel, rfl, by decide +kernel, by decide +kernel⟩
theorem sc_48 : FnScope n_48 [("script" : Str)] (defScope (top 48)) := ⟨rfl, rfl, rfl, by decide +kernel, rfl, by decide +kernel, by decide +kernel⟩
theorem wld {K K' : PySem.W.Frag} {P : Program} {w : World} {mg : Str → Option Value} {h base : Heap} (C : CsOk K cs) (B : BlOk K) (t1 : TopD K "arrows_of" (top 1)) (t2 : TopD K "ahead_of" (top 2)) (t3 : TopD K "first_order" (top 3)) (t12 : TopD K "is_name" (top 12)) (t13 : TopD K "is_row_of" (top 13)) (t14 : TopD K "are_unlike" (top 14)) (t18 : TopD K "are_places" (top 18)) (t19 : TopD K "is_road" (top 19)) (t20 : TopD K "is_web_form" (top 20)) (t21 : TopD K "need_web" (top 21)) (t22 : TopD K "is_order" (top 22)) (t23 : TopD K "need_order" (top 23)) (t25 : TopD K "need_two_orders" (top 25)) (t26 : TopD K "arrows" (top 26)) (t27 : TopD K "are_alike" (top 27)) (t28 : TopD K "first_alike" (top 28)) (t30 : TopD K "_law_feed" (top 30)) (t31 : TopD K "_law_draw" (top 31)) (t32 : TopD K "_law_one" (top 32)) (t33 : TopD K "_law_mixed" (top 33)) (t34 : TopD K "_law_names" (top 34)) (t35 : TopD K "_law_web" (top 35)) (t36 : TopD K "_law_order" (top 36)) (t37 : TopD K "_law_arrows" (top 37)) (t38 : TopD K "_law_wide_web" (top 38)) (t39 : TopD K "_law_any_web" (top 39)) (t40 : TopD K "_law_swapped" (top 40)) (t41 : TopD K "_law_asked_one" (top 41)) (t42 : TopD K "_law_orders" (top 42)) (t43 : TopD K "_law_apart" (top 43)) (t44 : TopD K "_law_swaps" (top 44)) (t45 : TopD K "_law_like" (top 45)) (t46 : TopD K "_law_first" (top 46)) (t47 : TopD K "_law_asked_two" (top 47)) (X : K'.In h) (G : h.Ns mainGlobals mg) (p : Part K K') : Wld K' P w mg base 34 f_47 cs := by
  have w0 : Wld K' P w mg base 0 [] cs := Wld.nil X G (C.part p) (B.part p)
  have w1 := w0.addT X G (t1.part p) (N := n_1) g_1 sc_1 rfl (by decide) (fun _ _ _ _ _ _ us hl => match us, hl with | [_, _], _ => rfl) (fun ks hks => by cases hks) (fun _ _ z => z)
  have w2 := w1.addT X G (t2.part p) (N := n_2) g_2 sc_2 rfl (by decide) (fun _ _ _ _ _ _ us hl => match us, hl with | [_, _], _ => rfl) (fun ks hks => by cases hks) (fun _ _ z => z)
  have w3 := w2.addT X G (t3.part p) (N := n_3) g_3 sc_3 rfl (by decide) (fun _ _ _ _ _ _ us hl => match us, hl with | [_, _], _ => rfl) (fun ks hks => by cases hks) (fun _ _ z => z)
  have w4 := w3.addT X G (t12.part p) (N := n_12) g_12 sc_12 rfl (by decide) (fun _ _ _ _ _ _ us hl => match us, hl with | [_], _ => rfl) (fun ks hks => by cases hks) (fun _ _ z => z)
  have w5 := w4.addT X G (t13.part p) (N := n_13) g_13 sc_13 rfl (by decide) (fun _ _ _ _ _ _ us hl => match us, hl with | [_, _, _], _ => rfl) (fun ks hks => by cases hks) (fun _ _ z => z)
  have w6 := w5.addT X G (t14.part p) (N := n_14) g_14 sc_14 rfl (by decide) (fun _ _ _ _ _ _ us hl => match us, hl with | [_], _ => rfl) (fun ks hks => by cases hks) (fun _ _ z => z)
  have w7 := w6.addT X G (t18.part p) (N := n_18) g_18 sc_18 rfl (by decide) (fun _ _ _ _ _ _ us hl => match us, hl with | [_, _], _ => rfl) (fun ks hks => by cases hks) (fun _ _ z => z)
  have w8 := w7.addT X G (t19.part p) (N := n_19) g_19 sc_19 rfl (by decide) (fun _ _ _ _ _ _ us hl => match us, hl with | [_, _], _ => rfl) (fun ks hks => by cases hks) (fun _ _ z => z)
  have w9 := w8.addT X G (t20.part p) (N := n_20) g_20 sc_20 rfl (by decide) (fun _ _ _ _ _ _ us hl => match us, hl with | [_], _ => rfl) (fun ks hks => by cases hks) (fun _ _ z => z)
  have w10 := w9.addT X G (t21.part p) (N := n_21) g_21 sc_21 rfl (by decide) (fun _ _ _ _ _ _ us hl => match us, hl with | [_], _ => rfl) (fun ks hks => by cases hks) (fun _ _ z => z)
  have w11 := w10.addT X G (t22.part p) (N := n_22) g_22 sc_22 rfl (by decide) (fun _ _ _ _ _ _ us hl => match us, hl with | [_, _], _ => rfl) (fun ks hks => by cases hks) (fun _ _ z => z)
  have w12 := w11.addT X G (t23.part p) (N := n_23) g_23 sc_23 rfl (by decide) (fun _ _ _ _ _ _ us hl => match us, hl with | [_, _], _ => rfl) (fun ks hks => by cases hks) (fun _ _ z => z)
  have w13 := w12.addT X G (t25.part p) (N := n_25) g_25 sc_25 rfl (by decide) (fun _ _ _ _ _ _ us hl => match us, hl with | [_, _, _], _ => rfl) (fun ks hks => by cases hks) (fun _ _ z => z)
  have w14 := w13.addT X G (t26.part p) (N := n_26) g_26 sc_26 rfl (by decide) (fun _ _ _ _ _ _ us hl => match us, hl with | [_, _], _ => rfl) (fun ks hks => by
    simp only [List.mem_cons, List.not_mem_nil, or_false] at hks
    subst hks
    exact fun _ _ _ _ _ _ us hl => match us, hl with | [_, _], _ => rfl) (fun _ _ z => z)
  have w15 := w14.addT X G (t27.part p) (N := n_27) g_27 sc_27 rfl (by decide) (fun _ _ _ _ _ _ us hl => match us, hl with | [_, _, _], _ => rfl) (fun ks hks => by cases hks) (fun _ _ z => z)
  have w16 := w15.addT X G (t28.part p) (N := n_28) g_28 sc_28 rfl (by decide) (fun _ _ _ _ _ _ us hl => match us, hl with | [_, _], _ => rfl) (fun ks hks => by
    simp only [List.mem_cons, List.not_mem_nil, or_false] at hks
    subst hks
    exact fun _ _ _ _ _ _ us hl => match us, hl with | [_, _], _ => rfl) (fun _ _ z => z)
  have w17 := w16.addT X G (t30.part p) (N := n_30) g_30 sc_30 rfl (by decide) (fun _ _ _ _ _ _ us hl => match us, hl with | [_, _], _ => rfl) (fun ks hks => by cases hks) (fun _ _ z => z)
  have w18 := w17.addT X G (t31.part p) (N := n_31) g_31 sc_31 rfl (by decide) (fun _ _ _ _ _ _ us hl => match us, hl with | [_, _], _ => rfl) (fun ks hks => by cases hks) (fun _ _ z => z)
  have w19 := w18.addT X G (t32.part p) (N := n_32) g_32 sc_32 rfl (by decide) (fun _ _ _ _ _ _ us hl => match us, hl with | [_, _], _ => rfl) (fun ks hks => by cases hks) (fun _ _ z => z)
  have w20 := w19.addT X G (t33.part p) (N := n_33) g_33 sc_33 rfl (by decide) (fun _ _ _ _ _ _ us hl => match us, hl with | [_, _], _ => rfl) (fun ks hks => by cases hks) (fun _ _ z => z)
  have w21 := w20.addT X G (t34.part p) (N := n_34) g_34 sc_34 rfl (by decide) (fun _ _ _ _ _ _ us hl => match us, hl with | [_, _], _ => rfl) (fun ks hks => by cases hks) (fun _ _ z => z)
  have w22 := w21.addT X G (t35.part p) (N := n_35) g_35 sc_35 rfl (by decide) (fun _ _ _ _ _ _ us hl => match us, hl with | [_, _, _], _ => rfl) (fun ks hks => by cases hks) (fun _ _ z => z)
  have w23 := w22.addT X G (t36.part p) (N := n_36) g_36 sc_36 rfl (by decide) (fun _ _ _ _ _ _ us hl => match us, hl with | [_, _], _ => rfl) (fun ks hks => by cases hks) (fun _ _ z => z)
  have w24 := w23.addT X G (t37.part p) (N := n_37) g_37 sc_37 rfl (by decide) (fun _ _ _ _ _ _ us hl => match us, hl with | [_, _], _ => rfl) (fun ks hks => by cases hks) (fun _ _ z => z)
  have w25 := w24.addT X G (t38.part p) (N := n_38) g_38 sc_38 rfl (by decide) (fun _ _ _ _ _ _ us hl => match us, hl with | [_, _], _ => rfl) (fun ks hks => by cases hks) (fun _ _ z => z)
  have w26 := w25.addT X G (t39.part p) (N := n_39) g_39 sc_39 rfl (by decide) (fun _ _ _ _ _ _ us hl => match us, hl with | [_, _], _ => rfl) (fun ks hks => by cases hks) (fun _ _ z => z)
  have w27 := w26.addT X G (t40.part p) (N := n_40) g_40 sc_40 rfl (by decide) (fun _ _ _ _ _ _ us hl => match us, hl with | [_, _], _ => rfl) (fun ks hks => by cases hks) (fun _ _ z => z)
  have w28 := w27.addT X G (t41.part p) (N := n_41) g_41 sc_41 rfl (by decide) (fun _ _ _ _ _ _ us hl => match us, hl with | [_], _ => rfl) (fun ks hks => by cases hks) (fun _ _ z => z)
  have w29 := w28.addT X G (t42.part p) (N := n_42) g_42 sc_42 rfl (by decide) (fun _ _ _ _ _ _ us hl => match us, hl with | [_], _ => rfl) (fun ks hks => by cases hks) (fun _ _ z => z)
  have w30 := w29.addT X G (t43.part p) (N := n_43) g_43 sc_43 rfl (by decide) (fun _ _ _ _ _ _ us hl => match us, hl with | [_, _, _], _ => rfl) (fun ks hks => by cases hks) (fun _ _ z => z)
  have w31 := w30.addT X G (t44.part p) (N := n_44) g_44 sc_44 rfl (by decide) (fun _ _ _ _ _ _ us hl => match us, hl with | [_, _], _ => rfl) (fun ks hks => by cases hks) (fun _ _ z => z)
  have w32 := w31.addT X G (t45.part p) (N := n_45) g_45 sc_45 rfl (by decide) (fun _ _ _ _ _ _ us hl => match us, hl with | [_, _, _, _], _ => rfl) (fun ks hks => by cases hks) (fun _ _ z => z)
  have w33 := w32.addT X G (t46.part p) (N := n_46) g_46 sc_46 rfl (by decide) (fun _ _ _ _ _ _ us hl => match us, hl with | [_, _], _ => rfl) (fun ks hks => by cases hks) (fun _ _ z => z)
  have w34 := w33.addT X G (t47.part p) (N := n_47) g_47 sc_47 rfl (by decide) (fun _ _ _ _ _ _ us hl => match us, hl with | [_], _ => rfl) (fun ks hks => by cases hks) (fun _ _ z => z)
  exact w34
theorem walk {l : PySem.W.OpenLaw} {q : Program} {loose : List Str} {XP : (Str → Option Value) → Heap → Prop} {YP : World → Heap → Prop} {d : DefRec} {K : Params → PySem.W.Frag} (hn : l.most = some 63) (hdf : d.params.defaults = []) (hd : d.name = ("law" : Str))
    (hY : ∀ (w : World) (h : Heap), YP w h → (K w.params).In h) (L : Holds s_law 63) (C : ∀ w : World, CsOk (K w.params) cs) (B : ∀ w : World, BlOk (K w.params))
    (t1 : ∀ w : World, TopD (K w.params) "arrows_of" (top 1)) (t2 : ∀ w : World, TopD (K w.params) "ahead_of" (top 2)) (t3 : ∀ w : World, TopD (K w.params) "first_order" (top 3)) (t12 : ∀ w : World, TopD (K w.params) "is_name" (top 12)) (t13 : ∀ w : World, TopD (K w.params) "is_row_of" (top 13)) (t14 : ∀ w : World, TopD (K w.params) "are_unlike" (top 14)) (t18 : ∀ w : World, TopD (K w.params) "are_places" (top 18)) (t19 : ∀ w : World, TopD (K w.params) "is_road" (top 19)) (t20 : ∀ w : World, TopD (K w.params) "is_web_form" (top 20)) (t21 : ∀ w : World, TopD (K w.params) "need_web" (top 21)) (t22 : ∀ w : World, TopD (K w.params) "is_order" (top 22)) (t23 : ∀ w : World, TopD (K w.params) "need_order" (top 23)) (t25 : ∀ w : World, TopD (K w.params) "need_two_orders" (top 25)) (t26 : ∀ w : World, TopD (K w.params) "arrows" (top 26)) (t27 : ∀ w : World, TopD (K w.params) "are_alike" (top 27)) (t28 : ∀ w : World, TopD (K w.params) "first_alike" (top 28)) (t30 : ∀ w : World, TopD (K w.params) "_law_feed" (top 30)) (t31 : ∀ w : World, TopD (K w.params) "_law_draw" (top 31)) (t32 : ∀ w : World, TopD (K w.params) "_law_one" (top 32)) (t33 : ∀ w : World, TopD (K w.params) "_law_mixed" (top 33)) (t34 : ∀ w : World, TopD (K w.params) "_law_names" (top 34)) (t35 : ∀ w : World, TopD (K w.params) "_law_web" (top 35)) (t36 : ∀ w : World, TopD (K w.params) "_law_order" (top 36)) (t37 : ∀ w : World, TopD (K w.params) "_law_arrows" (top 37)) (t38 : ∀ w : World, TopD (K w.params) "_law_wide_web" (top 38)) (t39 : ∀ w : World, TopD (K w.params) "_law_any_web" (top 39)) (t40 : ∀ w : World, TopD (K w.params) "_law_swapped" (top 40)) (t41 : ∀ w : World, TopD (K w.params) "_law_asked_one" (top 41)) (t42 : ∀ w : World, TopD (K w.params) "_law_orders" (top 42)) (t43 : ∀ w : World, TopD (K w.params) "_law_apart" (top 43)) (t44 : ∀ w : World, TopD (K w.params) "_law_swaps" (top 44)) (t45 : ∀ w : World, TopD (K w.params) "_law_like" (top 45)) (t46 : ∀ w : World, TopD (K w.params) "_law_first" (top 46)) (t47 : ∀ w : World, TopD (K w.params) "_law_asked_two" (top 47)) (t48 : ∀ w : World, TopD (K w.params) "law" (top 48)) :
    PySem.W.WalkO q loose XP YP l.row.toRowW d [] (fun f vs => PySem.call f vs) :=
  walkD (n := 63) (k := 34) (f := s_law) (st := top 48) (N := n_48) (fs := f_47) (cs := cs) hn (by decide) hdf ⟨rfl, by decide, by decide⟩ hd hY sc_48 (by decide) (fun _ _ _ _ _ _ _ => rfl) L (fun _ _ z => z) t48
    fun w K' mg h base X G p => wld (C w) (B w) (t1 w) (t2 w) (t3 w) (t12 w) (t13 w) (t14 w) (t18 w) (t19 w) (t20 w) (t21 w) (t22 w) (t23 w) (t25 w) (t26 w) (t27 w) (t28 w) (t30 w) (t31 w) (t32 w) (t33 w) (t34 w) (t35 w) (t36 w) (t37 w) (t38 w) (t39 w) (t40 w) (t41 w) (t42 w) (t43 w) (t44 w) (t45 w) (t46 w) (t47 w) X G p
end T
end

section
set_option Elab.async false
set_option linter.all false
set_option maxRecDepth 100000
set_option maxHeartbeats 2000000
open PySem Z
theorem T.c_1 : code ⟨T.n_1, [], T.cs⟩ (T.top 1) =
    (.seq (.asg 2 (.dc (.enum (.cons (.v 1) .nil)) (.gTup 2 (.cons (.gName 3) (.cons (.gName 4) .nil))) .tru (.v 4) (.v 3) [3, 4])) (.seq (.ret (.b1 1 (.lc (.items (.ix (.v 0) (.k (.int 1)))) (.gTup 2 (.cons (.gName 5) (.cons (.gName 6) .nil))) .tru (.ife (.tst (.cmp .Lt (.ix (.v 2) (.v 5)) (.ix (.v 2) (.v 6)))) (.tup (.cons (.v 5) (.cons (.v 6) .nil))) (.tup (.cons (.v 6) (.cons (.v 5) .nil)))) [5, 6]))) .skip) : Cd) := by decide +kernel
theorem T.c_2 : code ⟨T.n_2, T.f_1, T.cs⟩ (T.top 2) =
    (.seq (.ret (.dc (.items (.ix (.v 0) (.k (.int 0)))) (.gName 2) .tru (.v 2) (.b1 1 (.lcH 1 (.items (.v 1)) (.gTup 2 (.cons (.gName 3) (.cons (.gName 4) .nil))) (.tst (.cmp .Eq (.v 4) (.v 2))) (.v 3) [3, 4])) [2])) .skip : Cd) := by decide +kernel
theorem T.c_3 : code ⟨T.n_3, T.f_2, T.cs⟩ (T.top 3) =
    (.seq (.asg 2 (.call 0 (.aVal (.v 0) (.aVal (.v 1) .nil)))) (.seq (.asg 3 (.b1 2 (.ix (.v 0) (.k (.int 0))))) (.seq (.asg 4 (.lst .nil)) (.seq (.wh (.tst (.cmp .NotEq (.v 3) (.lst .nil))) (.seq (.asg 5 (.lcH 3 (.items (.v 3)) (.gName 6) (.tst (.b1 3 (.lc (.items (.ix (.v 2) (.v 6))) (.gName 7) .tru (.cmp .In (.v 7) (.v 4)) [7]))) (.v 6) [6])) (.seq (.ifS (.tst (.cmp .Eq (.v 5) (.lst .nil))) (.seq (.ret (.k (.non))) .skip) .skip) (.seq (.drop (.mut 0 4 (.cons (.ix (.v 5) (.k (.int 0))) .nil))) (.seq (.drop (.mut 3 3 (.cons (.ix (.v 5) (.k (.int 0))) .nil))) .skip))))) (.seq (.ret (.b1 1 (.v 4))) .skip)))) : Cd) := by decide +kernel
theorem T.c_12 : code ⟨T.n_12, T.f_3, T.cs⟩ (T.top 12) =
    (.seq (.ifS (.orT (.notT (.tst (.isi 1 (.v 0)))) (.orT (.notT (.tst (.chn .LtE .LtE (.k (.int 1)) (.b1 0 (.v 0)) (.gc 2)))) (.tst (.cmp .NotIn (.ix (.v 0) (.k (.int 0))) (.gc 0))))) (.seq (.ret (.k (.bool false))) .skip) .skip) (.seq (.ret (.b1 3 (.lcH 0 (.items (.v 0)) (.gName 1) .tru (.orE (.cmp .In (.v 1) (.gc 0)) (.cmp .In (.v 1) (.gc 1))) [1]))) .skip) : Cd) := by decide +kernel
theorem T.c_13 : code ⟨T.n_13, T.f_12, T.cs⟩ (T.top 13) =
    (.seq (.ret (.andE (.isi 0 (.v 0)) (.chn .LtE .LtE (.v 1) (.b1 0 (.v 0)) (.v 2)))) .skip : Cd) := by decide +kernel
theorem T.c_14 : code ⟨T.n_14, T.f_13, T.cs⟩ (T.top 14) =
    (.seq (.ret (.cmp .Eq (.lenset (.v 0)) (.b1 0 (.v 0)))) .skip : Cd) := by decide +kernel
theorem T.c_18 : code ⟨T.n_18, T.f_14, T.cs⟩ (T.top 18) =
    (.seq (.ret (.andE (.b1 3 (.lcH 1 (.items (.v 1)) (.gName 2) .tru (.andE (.isi 1 (.v 2)) (.cmp .In (.v 2) (.v 0))) [2])) (.call 0 (.aVal (.v 1) .nil)))) .skip : Cd) := by decide +kernel
theorem T.c_19 : code ⟨T.n_19, T.f_18, T.cs⟩ (T.top 19) =
    (.seq (.ret (.andE (.call 2 (.aVal (.v 1) (.aVal (.k (.int 2)) (.aVal (.k (.int 2)) .nil)))) (.call 0 (.aVal (.v 0) (.aVal (.v 1) .nil))))) .skip : Cd) := by decide +kernel
theorem T.c_20 : code ⟨T.n_20, T.f_19, T.cs⟩ (T.top 20) =
    (.seq (.ifS (.orT (.notT (.tst (.call 3 (.aVal (.v 0) (.aVal (.k (.int 2)) (.aVal (.k (.int 2)) .nil)))))) (.notT (.tst (.call 3 (.aVal (.ix (.v 0) (.k (.int 0))) (.aVal (.k (.int 1)) (.aVal (.gc 3) .nil))))))) (.seq (.ret (.k (.bool false))) .skip) .skip) (.seq (.asgT (.gTup 2 (.cons (.gName 1) (.cons (.gName 2) .nil))) (.v 0)) (.seq (.ifS (.orT (.notT (.tst (.b1 3 (.lcH 1 (.items (.v 1)) (.gName 3) .tru (.call 4 (.aVal (.v 3) .nil)) [3])))) (.notT (.tst (.call 2 (.aVal (.v 1) .nil))))) (.seq (.ret (.k (.bool false))) .skip) .skip) (.seq (.ifS (.orT (.notT (.tst (.call 3 (.aVal (.v 2) (.aVal (.k (.int 0)) (.aVal (.gc 4) .nil)))))) (.notT (.tst (.b1 3 (.lcH 2 (.items (.v 2)) (.gName 4) .tru (.call 0 (.aVal (.v 1) (.aVal (.v 4) .nil))) [4]))))) (.seq (.ret (.k (.bool false))) .skip) .skip) (.seq (.ret (.call 2 (.aVal (.lcH 2 (.items (.v 2)) (.gName 4) .tru (.b1 1 (.b1 7 (.v 4))) [4]) .nil))) .skip)))) : Cd) := by decide +kernel
theorem T.c_21 : code ⟨T.n_21, T.f_20, T.cs⟩ (T.top 21) =
    (.seq (.ifS (.notT (.tst (.call 0 (.aVal (.v 0) .nil)))) (.seq (.bad) .skip) .skip) .skip : Cd) := by decide +kernel
theorem T.c_22 : code ⟨T.n_22, T.f_21, T.cs⟩ (T.top 22) =
    (.seq (.ret (.andE (.call 5 (.aVal (.v 1) (.aVal (.b1 0 (.ix (.v 0) (.k (.int 0)))) (.aVal (.b1 0 (.ix (.v 0) (.k (.int 0)))) .nil)))) (.call 3 (.aVal (.ix (.v 0) (.k (.int 0))) (.aVal (.v 1) .nil))))) .skip : Cd) := by decide +kernel
theorem T.c_23 : code ⟨T.n_23, T.f_22, T.cs⟩ (T.top 23) =
    (.seq (.ifS (.notT (.tst (.call 0 (.aVal (.v 0) (.aVal (.v 1) .nil))))) (.seq (.bad) .skip) .skip) .skip : Cd) := by decide +kernel
theorem T.c_25 : code ⟨T.n_25, T.f_23, T.cs⟩ (T.top 25) =
    (.seq (.drop (.call 2 (.aVal (.v 0) .nil))) (.seq (.drop (.call 0 (.aVal (.v 0) (.aVal (.v 1) .nil)))) (.seq (.drop (.call 0 (.aVal (.v 0) (.aVal (.v 2) .nil)))) .skip)) : Cd) := by decide +kernel
theorem T.c_26 : code ⟨T.n_26, T.f_25, T.cs⟩ (T.top 26) =
    (.seq (.drop (.call 3 (.aVal (.v 0) .nil))) (.seq (.drop (.call 1 (.aVal (.v 0) (.aVal (.v 1) .nil)))) (.seq (.ret (.call 12 (.aVal (.v 0) (.aVal (.v 1) .nil)))) .skip)) : Cd) := by decide +kernel
theorem T.c_27 : code ⟨T.n_27, T.f_26, T.cs⟩ (T.top 27) =
    (.seq (.drop (.call 1 (.aVal (.v 0) (.aVal (.v 1) (.aVal (.v 2) .nil))))) (.seq (.ret (.cmp .Eq (.call 13 (.aVal (.v 0) (.aVal (.v 1) .nil))) (.call 13 (.aVal (.v 0) (.aVal (.v 2) .nil))))) .skip) : Cd) := by decide +kernel
theorem T.c_28 : code ⟨T.n_28, T.f_27, T.cs⟩ (T.top 28) =
    (.seq (.drop (.call 5 (.aVal (.v 0) .nil))) (.seq (.drop (.call 3 (.aVal (.v 0) (.aVal (.v 1) .nil)))) (.seq (.ret (.call 12 (.aVal (.v 0) (.aVal (.call 14 (.aVal (.v 0) (.aVal (.v 1) .nil))) .nil)))) .skip)) : Cd) := by decide +kernel
theorem T.c_30 : code ⟨T.n_30, T.f_28, T.cs⟩ (T.top 30) =
    (.seq (.asg 2 (.bin .Add (.bin .Mult (.k (.int 977)) (.v 1)) (.b1 5 (.slice (.v 0) .noP (.part (.k (.int 1))))))) (.seq (.ifS (.tst (.cmp .Lt (.v 1) (.b1 0 (.v 0)))) (.seq (.asg 2 (.ix (.v 0) (.v 1))) .skip) .skip) (.seq (.ret (.lst (.cons (.b2 0 (.cons (.k (.int 0)) (.cons (.bin .Sub (.v 2) (.bin .Pow (.k (.int 10)) (.k (.int 18)))) .nil))) (.cons (.bin .Mod (.b1 6 (.bin .Add (.bin .Mult (.v 2) (.k (.int 19))) (.bin .Mult (.k (.int 7)) (.v 1)))) (.bin .Add (.bin .Pow (.k (.int 10)) (.k (.int 39))) (.k (.int 23)))) (.cons (.k (.int 0)) .nil))))) .skip)) : Cd) := by decide +kernel
theorem T.c_31 : code ⟨T.n_31, T.f_30, T.cs⟩ (T.top 31) =
    (.seq (.ifS (.tst (.cmp .Gt (.ix (.v 0) (.k (.int 0))) (.k (.int 0)))) (.seq (.asg 2 (.bin .FloorDiv (.ix (.v 0) (.k (.int 0))) (.v 1))) (.seq (.asg 3 (.bin .Sub (.ix (.v 0) (.k (.int 0))) (.bin .Mult (.v 2) (.v 1)))) (.seq (.setK 0 (.k (.int 0)) (.v 2)) (.seq (.ret (.v 3)) .skip)))) .skip) (.seq (.setK 0 (.k (.int 2)) (.bin .Add (.ix (.v 0) (.k (.int 2))) (.k (.int 1)))) (.seq (.asg 4 (.bin .Add (.ix (.v 0) (.k (.int 1))) (.bin .Mult (.k (.int 6700417)) (.ix (.v 0) (.k (.int 2)))))) (.seq (.asg 4 (.bin .Mod (.b1 6 (.bin .Add (.bin .Mult (.bin .Mult (.v 4) (.v 4)) (.v 4)) (.bin .Mult (.k (.int 15485863)) (.ix (.v 0) (.k (.int 2)))))) (.bin .Add (.bin .Pow (.k (.int 10)) (.k (.int 43))) (.k (.int 57))))) (.seq (.asg 4 (.bin .Mod (.b1 6 (.bin .Add (.bin .Mult (.v 4) (.v 4)) (.k (.int 32452843)))) (.bin .Add (.bin .Pow (.k (.int 10)) (.k (.int 38))) (.k (.int 133))))) (.seq (.ret (.bin .Mod (.b1 6 (.bin .FloorDiv (.v 4) (.bin .Pow (.k (.int 10)) (.k (.int 9))))) (.v 1))) .skip))))) : Cd) := by decide +kernel
theorem T.c_32 : code ⟨T.n_32, T.f_31, T.cs⟩ (T.top 32) =
    (.seq (.ret (.ix (.v 1) (.call 0 (.aChg 0 (.aVal (.b1 0 (.v 1)) .nil))))) .skip : Cd) := by decide +kernel
theorem T.c_33 : code ⟨T.n_33, T.f_32, T.cs⟩ (T.top 33) =
    (.seq (.par2 2 3 (.b1 2 (.v 1)) (.lst .nil)) (.seq (.for_ (.rng1 (.cons (.b1 0 (.v 1)) .nil)) (.gName 4) (.seq (.drop (.mut 0 3 (.cons (.mut 2 2 (.cons (.call 1 (.aChg 0 (.aVal (.b1 0 (.v 2)) .nil))) .nil)) .nil))) .skip)) (.seq (.ret (.v 3)) .skip)) : Cd) := by decide +kernel
theorem T.c_34 : code ⟨T.n_34, T.f_33, T.cs⟩ (T.top 34) =
    (.seq (.ret (.slice (.call 0 (.aChg 0 (.aVal (.lst (.cons (.k (.str ⟨#[97]⟩)) (.cons (.k (.str ⟨#[98, 49, 48]⟩)) (.cons (.k (.str ⟨#[98]⟩)) (.cons (.k (.str ⟨#[122, 122]⟩)) (.cons (.k (.str ⟨#[97, 49]⟩)) (.cons (.k (.str ⟨#[113, 49, 119, 50, 101, 51, 114, 52]⟩)) (.cons (.k (.str ⟨#[98, 57]⟩)) (.cons (.k (.str ⟨#[120]⟩)) (.cons (.k (.str ⟨#[109, 48]⟩)) (.cons (.k (.str ⟨#[114, 111, 97, 100]⟩)) (.cons (.k (.str ⟨#[107]⟩)) (.cons (.k (.str ⟨#[97, 49, 98]⟩)) .nil))))))))))))) .nil))) .noP (.part (.v 1)))) .skip : Cd) := by decide +kernel
theorem T.c_35 : code ⟨T.n_35, T.f_34, T.cs⟩ (T.top 35) =
    (.seq (.asg 3 (.ife (.tst (.cmp .Eq (.v 1) (.k (.str ⟨#[114, 105, 110, 103]⟩)))) (.b2 0 (.cons (.k (.int 3)) (.cons (.bin .Add (.k (.int 1)) (.call 3 (.aChg 0 (.aVal (.v 2) .nil)))) .nil))) (.bin .Add (.k (.int 1)) (.call 3 (.aChg 0 (.aVal (.v 2) .nil)))))) (.seq (.par2 4 5 (.lst .nil) (.call 3 (.aChg 0 (.aVal (.k (.int 3)) .nil)))) (.seq (.for_ (.rng2 (.cons (.k (.int 1)) (.cons (.v 3) .nil))) (.gName 6) (.seq (.asg 7 (.ife (.orT (.tst (.cmp .Eq (.v 5) (.k (.int 0)))) (.tst (.cmp .Eq (.v 1) (.k (.str ⟨#[114, 105, 110, 103]⟩))))) (.bin .Sub (.v 6) (.k (.int 1))) (.ife (.tst (.cmp .Eq (.v 5) (.k (.int 1)))) (.k (.int 0)) (.call 3 (.aChg 0 (.aVal (.v 6) .nil)))))) (.seq (.ifS (.orT (.tst (.cmp .NotEq (.v 1) (.k (.str ⟨#[97, 110, 121]⟩)))) (.tst (.cmp .Gt (.call 3 (.aChg 0 (.aVal (.k (.int 5)) .nil))) (.k (.int 0))))) (.seq (.drop (.mut 0 4 (.cons (.tup (.cons (.v 7) (.cons (.v 6) .nil))) .nil))) .skip) .skip) .skip))) (.seq (.ifS (.tst (.cmp .Eq (.v 1) (.k (.str ⟨#[114, 105, 110, 103]⟩)))) (.seq (.drop (.mut 0 4 (.cons (.tup (.cons (.k (.int 0)) (.cons (.bin .Sub (.v 3) (.k (.int 1))) .nil))) .nil))) .skip) .skip) (.seq (.for_ (.rng1 (.cons (.ife (.andT (.tst (.cmp .In (.v 1) (.tup (.cons (.k (.str ⟨#[119, 104, 111, 108, 101]⟩)) (.cons (.k (.str ⟨#[97, 110, 121]⟩)) .nil))))) (.tst (.cmp .Gt (.v 3) (.k (.int 2))))) (.call 3 (.aChg 0 (.aVal (.k (.int 5)) .nil))) (.k (.int 0))) .nil)) (.gName 8) (.seq (.asg 9 (.call 3 (.aChg 0 (.aVal (.v 3) .nil)))) (.seq (.asg 10 (.bin .Mod (.b1 6 (.bin .Add (.bin .Add (.v 9) (.k (.int 1))) (.call 3 (.aChg 0 (.aVal (.bin .Sub (.v 3) (.k (.int 1))) .nil))))) (.v 3))) (.seq (.asg 11 (.tup (.cons (.b2 1 (.cons (.v 9) (.cons (.v 10) .nil))) (.cons (.b2 0 (.cons (.v 9) (.cons (.v 10) .nil))) .nil)))) (.seq (.ifS (.tst (.cmp .NotIn (.v 11) (.v 4))) (.seq (.drop (.mut 0 4 (.cons (.v 11) .nil))) .skip) .skip) .skip))))) (.seq (.asg 12 (.call 0 (.aChg 0 (.aVal (.v 3) .nil)))) (.seq (.asg 13 (.lst .nil)) (.seq (.for_ (.items (.call 1 (.aChg 0 (.aVal (.v 4) .nil)))) (.gTup 2 (.cons (.gName 9) (.cons (.gName 10) .nil))) (.seq (.drop (.mut 0 13 (.cons (.ife (.tst (.cmp .Eq (.call 3 (.aChg 0 (.aVal (.k (.int 2)) .nil))) (.k (.int 0)))) (.tup (.cons (.ix (.v 12) (.v 9)) (.cons (.ix (.v 12) (.v 10)) .nil))) (.tup (.cons (.ix (.v 12) (.v 10)) (.cons (.ix (.v 12) (.v 9)) .nil)))) .nil))) .skip)) (.seq (.ret (.tup (.cons (.b1 1 (.call 1 (.aChg 0 (.aVal (.v 12) .nil)))) (.cons (.b1 1 (.v 13)) .nil)))) .skip)))))))) : Cd) := by decide +kernel
theorem T.c_36 : code ⟨T.n_36, T.f_35, T.cs⟩ (T.top 36) =
    (.seq (.ret (.b1 1 (.call 2 (.aChg 0 (.aVal (.ix (.v 1) (.k (.int 0))) .nil))))) .skip : Cd) := by decide +kernel
theorem T.c_37 : code ⟨T.n_37, T.f_36, T.cs⟩ (T.top 37) =
    (.seq (.ret (.b1 1 (.lc (.items (.ix (.v 0) (.k (.int 1)))) (.gName 2) .tru (.ife (.tst (.cmp .Lt (.idx (.v 1) (.ix (.v 2) (.k (.int 0)))) (.idx (.v 1) (.ix (.v 2) (.k (.int 1)))))) (.v 2) (.tup (.cons (.ix (.v 2) (.k (.int 1))) (.cons (.ix (.v 2) (.k (.int 0))) .nil)))) [2]))) .skip : Cd) := by decide +kernel
theorem T.c_38 : code ⟨T.n_38, T.f_37, T.cs⟩ (T.top 38) =
    (.seq (.par2 2 3 (.bin .Add (.k (.int 1)) (.call 6 (.aChg 0 (.aVal (.v 1) .nil)))) (.lst .nil)) (.seq (.asg 4 (.call 3 (.aChg 0 (.aVal (.v 2) .nil)))) (.seq (.for_ (.rng1 (.cons (.v 2) .nil)) (.gName 5) (.seq (.drop (.mut 1 3 (.cons (.lc (.rng1 (.cons (.v 5) .nil)) (.gName 7) .tru (.tup (.cons (.ix (.v 4) (.v 5)) (.cons (.ix (.v 4) (.v 7)) .nil))) [7]) .nil))) .skip)) (.seq (.asg 6 (.slice (.call 4 (.aChg 0 (.aVal (.v 3) .nil))) .noP (.part (.call 6 (.aChg 0 (.aVal (.bin .Add (.b2 1 (.cons (.k (.int 14)) (.cons (.b1 0 (.v 3)) .nil))) (.k (.int 1))) .nil)))))) (.seq (.asg 6 (.lcH 6 (.items (.v 6)) (.gTup 2 (.cons (.gName 8) (.cons (.gName 9) .nil))) .tru (.ife (.tst (.cmp .Eq (.call 6 (.aChg 0 (.aVal (.k (.int 2)) .nil))) (.k (.int 0)))) (.tup (.cons (.v 9) (.cons (.v 8) .nil))) (.tup (.cons (.v 8) (.cons (.v 9) .nil)))) [8, 9])) (.seq (.ret (.tup (.cons (.b1 1 (.call 4 (.aChg 0 (.aVal (.v 4) .nil)))) (.cons (.b1 1 (.v 6)) .nil)))) .skip))))) : Cd) := by decide +kernel
theorem T.c_39 : code ⟨T.n_39, T.f_38, T.cs⟩ (T.top 39) =
    (.seq (.ifS (.tst (.cmp .Eq (.call 7 (.aChg 0 (.aVal (.k (.int 2)) .nil))) (.k (.int 0)))) (.seq (.ret (.call 0 (.aChg 0 (.aVal (.v 1) .nil)))) .skip) .skip) (.seq (.ret (.call 3 (.aChg 0 (.aVal (.call 6 (.aChg 0 (.aVal (.lst (.cons (.k (.str ⟨#[116, 114, 101, 101]⟩)) (.cons (.k (.str ⟨#[114, 105, 110, 103]⟩)) (.cons (.k (.str ⟨#[119, 104, 111, 108, 101]⟩)) (.cons (.k (.str ⟨#[97, 110, 121]⟩)) .nil))))) .nil))) (.aVal (.v 1) .nil))))) .skip) : Cd) := by decide +kernel
theorem T.c_40 : code ⟨T.n_40, T.f_39, T.cs⟩ (T.top 40) =
    (.seq (.ret (.bin .Add (.bin .Add (.slice (.v 0) .noP (.part (.v 1))) (.tup (.cons (.ix (.v 0) (.bin .Add (.v 1) (.k (.int 1)))) (.cons (.ix (.v 0) (.v 1)) .nil)))) (.slice (.v 0) (.part (.bin .Add (.v 1) (.k (.int 2)))) .noP))) .skip : Cd) := by decide +kernel
theorem T.c_41 : code ⟨T.n_41, T.f_40, T.cs⟩ (T.top 41) =
    (.seq (.for_ (.rng1 (.cons (.b2 0 (.cons (.k (.int 1)) (.cons (.b2 1 (.cons (.b1 0 (.v 0)) (.cons (.k (.int 4)) .nil))) .nil))) .nil)) (.gName 1) (.seq (.asg 2 (.call 10 (.aVal (.v 0) (.aVal (.v 1) .nil)))) (.seq (.asg 3 (.call 1 (.aChg 2 (.aVal (.k (.int 8)) .nil)))) (.seq (.asg 4 (.call 4 (.aChg 2 (.aVal (.v 3) .nil)))) (.seq (.asg 5 (.call 3 (.aVal (.v 3) (.aVal (.v 4) .nil)))) (.seq (.ifS (.orT (.tst (.cmp .NotEq (.b1 8 (.call 13 (.aVal (.v 3) (.aVal (.v 4) .nil)))) (.b1 8 (.v 5)))) (.tst (.cmp .NotEq (.b1 8 (.callK 13 [⟨#[111, 114, 100, 101, 114]⟩, ⟨#[119, 101, 98]⟩] (.cons (.v 4) (.cons (.v 3) .nil)))) (.b1 8 (.v 5))))) (.seq (.ret (.k (.bool false))) .skip) .skip) (.seq (.ifS (.tst (.cmp .NotEq (.call 13 (.aVal (.v 3) (.aVal (.back (.v 4)) .nil))) (.b1 1 (.lcH 5 (.items (.v 5)) (.gName 9) .tru (.back (.v 9)) [9])))) (.seq (.ret (.k (.bool false))) .skip) .skip) (.seq (.for_ (.rng1 (.cons (.bin .Sub (.b1 0 (.v 4)) (.k (.int 1))) .nil)) (.gName 6) (.seq (.asg 7 (.slice (.v 4) (.part (.v 6)) (.part (.bin .Add (.v 6) (.k (.int 2)))))) (.seq (.ifS (.tst (.cmp .NotEq (.call 13 (.aVal (.v 3) (.aVal (.call 0 (.aVal (.v 4) (.aVal (.v 6) .nil))) .nil))) (.b1 1 (.lcH 5 (.items (.v 5)) (.gName 9) .tru (.ife (.tst (.cmp .Eq (.v 9) (.v 7))) (.back (.v 9)) (.v 9)) [9])))) (.seq (.ret (.k (.bool false))) .skip) .skip) .skip))) (.seq (.asg 8 (.b1 1 (.lcH 5 (.items (.v 5)) (.gName 9) .tru (.ife (.tst (.cmp .Eq (.ix (.v 9) (.k (.int 0))) (.ix (.v 4) (.k (.int 0))))) (.back (.v 9)) (.v 9)) [9]))) (.seq (.ifS (.tst (.cmp .NotEq (.call 13 (.aVal (.v 3) (.aVal (.bin .Add (.slice (.v 4) (.part (.k (.int 1))) .noP) (.slice (.v 4) .noP (.part (.k (.int 1))))) .nil))) (.v 8))) (.seq (.ret (.k (.bool false))) .skip) .skip) .skip)))))))))) (.seq (.ret (.k (.bool true))) .skip) : Cd) := by decide +kernel
theorem T.c_42 : code ⟨T.n_42, T.f_41, T.cs⟩ (T.top 42) =
    (.seq (.asg 1 (.lst (.cons (.tup .nil) .nil))) (.seq (.for_ (.items (.ix (.v 0) (.k (.int 0)))) (.gName 2) (.seq (.asg 3 (.lst .nil)) (.seq (.for_ (.items (.v 1)) (.gName 4) (.seq (.drop (.mut 1 3 (.cons (.lc (.items (.ix (.v 0) (.k (.int 0)))) (.gName 5) (.tst (.cmp .NotIn (.v 5) (.v 4))) (.bin .Add (.v 4) (.tup (.cons (.v 5) .nil))) [5]) .nil))) .skip)) (.seq (.asg 1 (.v 3)) .skip)))) (.seq (.ret (.v 1)) .skip)) : Cd) := by decide +kernel
theorem T.c_43 : code ⟨T.n_43, T.f_42, T.cs⟩ (T.top 43) =
    (.seq (.ret (.andE (.cmp .NotIn (.tup (.cons (.v 1) (.cons (.v 2) .nil))) (.ix (.v 0) (.k (.int 1)))) (.cmp .NotIn (.tup (.cons (.v 2) (.cons (.v 1) .nil))) (.ix (.v 0) (.k (.int 1)))))) .skip : Cd) := by decide +kernel
theorem T.c_44 : code ⟨T.n_44, T.f_43, T.cs⟩ (T.top 44) =
    (.seq (.ret (.lc (.rng1 (.cons (.bin .Sub (.b1 0 (.v 1)) (.k (.int 1))) .nil)) (.gName 2) (.tst (.call 0 (.aVal (.v 0) (.aVal (.ix (.v 1) (.v 2)) (.aVal (.ix (.v 1) (.bin .Add (.v 2) (.k (.int 1)))) .nil))))) (.v 2) [2])) .skip : Cd) := by decide +kernel
theorem T.c_45 : code ⟨T.n_45, T.f_44, T.cs⟩ (T.top 45) =
    (.seq (.asg 4 (.lst .nil)) (.seq (.for_ (.rng1 (.cons (.call 13 (.aChg 0 (.aVal (.bin .Add (.v 3) (.k (.int 1))) .nil))) .nil)) (.gName 5) (.seq (.asg 6 (.call 0 (.aVal (.v 1) (.aVal (.v 2) .nil)))) (.seq (.ifS (.tst (.cmp .NotEq (.v 6) (.lst .nil))) (.seq (.drop (.mut 0 4 (.cons (.call 12 (.aChg 0 (.aVal (.v 6) .nil))) .nil))) (.seq (.asg 2 (.call 4 (.aVal (.v 2) (.aVal (.ix (.v 4) (.neg (.k (.int 1)))) .nil)))) .skip)) .skip) .skip))) (.seq (.ret (.tup (.cons (.v 4) (.cons (.v 2) .nil)))) .skip)) : Cd) := by decide +kernel
theorem T.c_46 : code ⟨T.n_46, T.f_45, T.cs⟩ (T.top 46) =
    (.seq (.asg 2 (.lst .nil)) (.seq (.for_ (.items (.ix (.v 0) (.k (.int 0)))) (.gName 3) (.seq (.asg 4 (.lst .nil)) (.seq (.for_ (.items (.ix (.v 0) (.k (.int 0)))) (.gName 5) (.seq (.ifS (.andT (.tst (.cmp .NotIn (.v 5) (.v 2))) (.tst (.cmp .Eq (.lcH 1 (.items (.v 1)) (.gTup 2 (.cons (.gName 6) (.cons (.gName 7) .nil))) (.andT (.tst (.cmp .Eq (.v 7) (.v 5))) (.tst (.cmp .NotIn (.v 6) (.v 2)))) (.v 6) [6, 7]) (.lst .nil)))) (.seq (.drop (.mut 0 4 (.cons (.v 5) .nil))) .skip) .skip) .skip)) (.seq (.ifS (.tst (.cmp .Eq (.v 4) (.lst .nil))) (.seq (.ret (.k (.non))) .skip) .skip) (.seq (.drop (.mut 0 2 (.cons (.ix (.v 4) (.k (.int 0))) .nil))) .skip))))) (.seq (.ret (.b1 1 (.v 2))) .skip)) : Cd) := by decide +kernel
theorem T.c_47 : code ⟨T.n_47, T.f_46, T.cs⟩ (T.top 47) =
    (.seq (.for_ (.rng1 (.cons (.b2 0 (.cons (.k (.int 1)) (.cons (.b2 1 (.cons (.b1 0 (.v 0)) (.cons (.k (.int 3)) .nil))) .nil))) .nil)) (.gName 1) (.seq (.asg 2 (.call 16 (.aVal (.v 0) (.aVal (.v 1) .nil)))) (.seq (.asg 3 (.call 7 (.aChg 2 (.aVal (.k (.int 5)) .nil)))) (.seq (.asg 4 .dict0) (.seq (.for_ (.items (.call 4 (.aVal (.v 3) .nil))) (.gName 5) (.seq (.drop (.mutD 0 4 (.cons (.call 9 (.aVal (.v 3) (.aVal (.v 5) .nil))) (.cons (.v 5) .nil)))) (.seq (.ifS (.tst (.cmp .NotEq (.b1 8 (.call 17 (.aVal (.v 3) (.aVal (.v 5) .nil)))) (.b1 8 (.ix (.v 4) (.call 9 (.aVal (.v 3) (.aVal (.v 5) .nil))))))) (.seq (.ret (.k (.bool false))) .skip) .skip) .skip))) (.seq (.asg 3 (.call 7 (.aChg 2 (.aVal (.k (.int 8)) .nil)))) (.seq (.asg 5 (.call 10 (.aChg 2 (.aVal (.v 3) .nil)))) (.seq (.asg 6 (.call 0 (.aVal (.v 3) (.aVal (.call 9 (.aVal (.v 3) (.aVal (.v 5) .nil))) .nil)))) (.seq (.for_ (.rng1 (.cons (.k (.int 4)) .nil)) (.gName 7) (.seq (.asg 8 (.ix (.call 1 (.aChg 2 (.aVal (.v 3) (.aVal (.v 5) (.aVal (.k (.int 12)) .nil))))) (.k (.int 1)))) (.seq (.ifS (.orT (.tst (.cmp .NotEq (.b1 8 (.call 17 (.aVal (.v 3) (.aVal (.v 8) .nil)))) (.b1 8 (.v 6)))) (.tst (.cmp .NotEq (.b1 8 (.callK 17 [⟨#[111, 114, 100, 101, 114]⟩, ⟨#[119, 101, 98]⟩] (.cons (.v 8) (.cons (.v 3) .nil)))) (.b1 8 (.v 6))))) (.seq (.ret (.k (.bool false))) .skip) .skip) .skip))) (.seq (.ifS (.orT (.tst (.cmp .NotEq (.call 17 (.aVal (.v 3) (.aVal (.v 6) .nil))) (.v 6))) (.tst (.cmp .IsNot (.call 18 (.aVal (.v 3) (.aVal (.v 6) (.aVal (.v 5) .nil)))) (.k (.bool true))))) (.seq (.ret (.k (.bool false))) .skip) .skip) .skip)))))))))) (.seq (.ret (.k (.bool true))) .skip) : Cd) := by decide +kernel
theorem T.c_48 : code ⟨T.n_48, T.f_47, T.cs⟩ (T.top 48) =
    (.seq (.ret (.andE (.call 6 (.aVal (.v 0) .nil)) (.call 0 (.aVal (.v 0) .nil)))) .skip : Cd) := by decide +kernel
end

section
set_option Elab.async false
set_option linter.all false
set_option maxRecDepth 100000
set_option maxHeartbeats 2000000
namespace T
open PySem L2 Z
theorem ms_arrows_of : m_1 = [false, false] := rfl
theorem r_arrows_of : s_arrows_of = runF [false, false] 7 (mSeq (mAsg 2 (mDc (mEnum (mCons (mV 1) mNil)) (fTup 2 (fCons (fName 3) (fCons (fName 4) fNil))) (fun ρ => some (true, ρ)) (mV 4) (mV 3) [3, 4])) (mSeq (mRet (mUn dTuple (mLc (mItems (mOp dIxX (mV 0) (mC (.int 1)))) (fTup 2 (fCons (fName 5) (fCons (fName 6) fNil))) (fun ρ => some (true, ρ)) (mIf (mTest (mOp dLt (mOp dIxX (mV 2) (mV 5)) (mOp dIxX (mV 2) (mV 6)))) (mTup (mCons (mV 5) (mCons (mV 6) mNil))) (mTup (mCons (mV 6) (mCons (mV 5) mNil)))) [5, 6]))) mSkip)) := by
  have e : s_arrows_of = runF m_1 7 (dS ⟨n_1, [], cs⟩ (code ⟨n_1, [], cs⟩ (top 1))) := by rw [← code_ok]; rfl
  rw [e, c_1]; rfl
theorem ms_ahead_of : m_2 = [false, false] := rfl
theorem r_ahead_of : s_ahead_of = runF [false, false] 5 (mSeq (mRet (mDc (mItems (mOp dIxX (mV 0) (mC (.int 0)))) (fName 2) (fun ρ => some (true, ρ)) (mV 2) (mUn dTuple (mLcH 1 (mItems (mV 1)) (fTup 2 (fCons (fName 3) (fCons (fName 4) fNil))) (mTest (mOp dEq (mV 4) (mV 2))) (mV 3) [3, 4])) [2])) mSkip) := by
  have e : s_ahead_of = runF m_2 5 (dS ⟨n_2, f_1, cs⟩ (code ⟨n_2, f_1, cs⟩ (top 2))) := by rw [← code_ok]; rfl
  rw [e, c_2]; rfl
theorem ms_first_order : m_3 = [false, false] := rfl
theorem r_first_order : s_first_order = runF [false, false] 8 (mSeq (mAsg 2 (mCall [false, false] s_ahead_of (mArgs [.val (mV 0), .val (mV 1)]))) (mSeq (mAsg 3 (mUn dList (mOp dIxX (mV 0) (mC (.int 0))))) (mSeq (mAsg 4 (mLst mNil)) (mSeq (mWh (mTest (mOp dNe (mV 3) (mLst mNil))) (mSeq (mAsg 5 (mLcH 3 (mItems (mV 3)) (fName 6) (mTest (mUn dAll (mLc (mItems (mOp dIxX (mV 2) (mV 6))) (fName 7) (fun ρ => some (true, ρ)) (mOp (orG dIn (dInM false)) (mV 7) (mV 4)) [7]))) (mV 6) [6])) (mSeq (mIfS (mTest (mOp dEq (mV 5) (mLst mNil))) (mSeq (mRet (mC .none)) mSkip) mSkip) (mSeq (mDrop (mMut isList 4 mtAppend (mCons (mOp dIxX (mV 5) (mC (.int 0))) mNil))) (mSeq (mDrop (mMut isList 3 mtRemove (mCons (mOp dIxX (mV 5) (mC (.int 0))) mNil))) mSkip)))) whB) (mSeq (mRet (mUn dTuple (mV 4))) mSkip))))) := by
  have e : s_first_order = runF m_3 8 (dS ⟨n_3, f_2, cs⟩ (code ⟨n_3, f_2, cs⟩ (top 3))) := by rw [← code_ok]; rfl
  rw [e, c_3]; rfl
theorem ms_is_name : m_12 = [false] := rfl
theorem r_is_name : s_is_name = runF [false] 2 (mSeq (mIfS (mOrT (mNotT (mTest (mUn (dIsi "str") (mV 0)))) (mOrT (mNotT (mTest (mChain dLe dLe (mC (.int 1)) (mUn dLen (mV 0)) (mC (.int 8))))) (mTest (mOp (orG dNotIn (dInM true)) (mOp dIxX (mV 0) (mC (.int 0))) (mC (.str "abcdefghijklmnopqrstuvwxyz")))))) (mSeq (mRet (mC (.bool false))) mSkip) mSkip) (mSeq (mRet (mUn dAll (mLcH 0 (mItems (mV 0)) (fName 1) (fun ρ => some (true, ρ)) (mOrV (mOp (orG dIn (dInM false)) (mV 1) (mC (.str "abcdefghijklmnopqrstuvwxyz"))) (mOp (orG dIn (dInM false)) (mV 1) (mC (.str "0123456789")))) [1]))) mSkip)) := by
  have e : s_is_name = runF m_12 2 (dS ⟨n_12, f_3, cs⟩ (code ⟨n_12, f_3, cs⟩ (top 12))) := by rw [← code_ok]; rfl
  rw [e, c_12]; rfl
theorem ms_is_row_of : m_13 = [false, false, false] := rfl
theorem r_is_row_of : s_is_row_of = runF [false, false, false] 3 (mSeq (mRet (mAndV (mUn (dIsi "tuple") (mV 0)) (mChain dLe dLe (mV 1) (mUn dLen (mV 0)) (mV 2)))) mSkip) := by
  have e : s_is_row_of = runF m_13 3 (dS ⟨n_13, f_12, cs⟩ (code ⟨n_13, f_12, cs⟩ (top 13))) := by rw [← code_ok]; rfl
  rw [e, c_13]; rfl
theorem ms_are_unlike : m_14 = [false] := rfl
theorem r_are_unlike : s_are_unlike = runF [false] 1 (mSeq (mRet (mOp dEq (mUn dLenSet (mV 0)) (mUn dLen (mV 0)))) mSkip) := by
  have e : s_are_unlike = runF m_14 1 (dS ⟨n_14, f_13, cs⟩ (code ⟨n_14, f_13, cs⟩ (top 14))) := by rw [← code_ok]; rfl
  rw [e, c_14]; rfl
theorem ms_are_places : m_18 = [false, false] := rfl
theorem r_are_places : s_are_places = runF [false, false] 3 (mSeq (mRet (mAndV (mUn dAll (mLcH 1 (mItems (mV 1)) (fName 2) (fun ρ => some (true, ρ)) (mAndV (mUn (dIsi "str") (mV 2)) (mOp (orG dIn (dInM false)) (mV 2) (mV 0))) [2])) (mCall [false] s_are_unlike (mArgs [.val (mV 1)])))) mSkip) := by
  have e : s_are_places = runF m_18 3 (dS ⟨n_18, f_14, cs⟩ (code ⟨n_18, f_14, cs⟩ (top 18))) := by rw [← code_ok]; rfl
  rw [e, c_18]; rfl
theorem ms_is_road : m_19 = [false, false] := rfl
theorem r_is_road : s_is_road = runF [false, false] 2 (mSeq (mRet (mAndV (mCall [false, false, false] s_is_row_of (mArgs [.val (mV 1), .val (mC (.int 2)), .val (mC (.int 2))])) (mCall [false, false] s_are_places (mArgs [.val (mV 0), .val (mV 1)])))) mSkip) := by
  have e : s_is_road = runF m_19 2 (dS ⟨n_19, f_18, cs⟩ (code ⟨n_19, f_18, cs⟩ (top 19))) := by rw [← code_ok]; rfl
  rw [e, c_19]; rfl
theorem ms_is_web_form : m_20 = [false] := rfl
theorem r_is_web_form : s_is_web_form = runF [false] 5 (mSeq (mIfS (mOrT (mNotT (mTest (mCall [false, false, false] s_is_row_of (mArgs [.val (mV 0), .val (mC (.int 2)), .val (mC (.int 2))])))) (mNotT (mTest (mCall [false, false, false] s_is_row_of (mArgs [.val (mOp dIxX (mV 0) (mC (.int 0))), .val (mC (.int 1)), .val (mC (.int 8))]))))) (mSeq (mRet (mC (.bool false))) mSkip) mSkip) (mSeq (mAsgT (fTup 2 (fCons (fName 1) (fCons (fName 2) fNil))) (mV 0)) (mSeq (mIfS (mOrT (mNotT (mTest (mUn dAll (mLcH 1 (mItems (mV 1)) (fName 3) (fun ρ => some (true, ρ)) (mCall [false] s_is_name (mArgs [.val (mV 3)])) [3])))) (mNotT (mTest (mCall [false] s_are_unlike (mArgs [.val (mV 1)]))))) (mSeq (mRet (mC (.bool false))) mSkip) mSkip) (mSeq (mIfS (mOrT (mNotT (mTest (mCall [false, false, false] s_is_row_of (mArgs [.val (mV 2), .val (mC (.int 0)), .val (mC (.int 14))])))) (mNotT (mTest (mUn dAll (mLcH 2 (mItems (mV 2)) (fName 4) (fun ρ => some (true, ρ)) (mCall [false, false] s_is_road (mArgs [.val (mV 1), .val (mV 4)])) [4]))))) (mSeq (mRet (mC (.bool false))) mSkip) mSkip) (mSeq (mRet (mCall [false] s_are_unlike (mArgs [.val (mLcH 2 (mItems (mV 2)) (fName 4) (fun ρ => some (true, ρ)) (mUn dTuple (mUn dSorted (mV 4))) [4])]))) mSkip))))) := by
  have e : s_is_web_form = runF m_20 5 (dS ⟨n_20, f_19, cs⟩ (code ⟨n_20, f_19, cs⟩ (top 20))) := by rw [← code_ok]; rfl
  rw [e, c_20]; rfl
theorem ms_need_web : m_21 = [false] := rfl
theorem r_need_web : s_need_web = runF [false] 1 (mSeq (mIfS (mNotT (mTest (mCall [false] s_is_web_form (mArgs [.val (mV 0)])))) (mSeq sBad mSkip) mSkip) mSkip) := by
  have e : s_need_web = runF m_21 1 (dS ⟨n_21, f_20, cs⟩ (code ⟨n_21, f_20, cs⟩ (top 21))) := by rw [← code_ok]; rfl
  rw [e, c_21]; rfl
theorem ms_is_order : m_22 = [false, false] := rfl
theorem r_is_order : s_is_order = runF [false, false] 2 (mSeq (mRet (mAndV (mCall [false, false, false] s_is_row_of (mArgs [.val (mV 1), .val (mUn dLen (mOp dIxX (mV 0) (mC (.int 0)))), .val (mUn dLen (mOp dIxX (mV 0) (mC (.int 0))))])) (mCall [false, false] s_are_places (mArgs [.val (mOp dIxX (mV 0) (mC (.int 0))), .val (mV 1)])))) mSkip) := by
  have e : s_is_order = runF m_22 2 (dS ⟨n_22, f_21, cs⟩ (code ⟨n_22, f_21, cs⟩ (top 22))) := by rw [← code_ok]; rfl
  rw [e, c_22]; rfl
theorem ms_need_order : m_23 = [false, false] := rfl
theorem r_need_order : s_need_order = runF [false, false] 2 (mSeq (mIfS (mNotT (mTest (mCall [false, false] s_is_order (mArgs [.val (mV 0), .val (mV 1)])))) (mSeq sBad mSkip) mSkip) mSkip) := by
  have e : s_need_order = runF m_23 2 (dS ⟨n_23, f_22, cs⟩ (code ⟨n_23, f_22, cs⟩ (top 23))) := by rw [← code_ok]; rfl
  rw [e, c_23]; rfl
theorem ms_need_two_orders : m_25 = [false, false, false] := rfl
theorem r_need_two_orders : s_need_two_orders = runF [false, false, false] 3 (mSeq (mDrop (mCall [false] s_need_web (mArgs [.val (mV 0)]))) (mSeq (mDrop (mCall [false, false] s_need_order (mArgs [.val (mV 0), .val (mV 1)]))) (mSeq (mDrop (mCall [false, false] s_need_order (mArgs [.val (mV 0), .val (mV 2)]))) mSkip))) := by
  have e : s_need_two_orders = runF m_25 3 (dS ⟨n_25, f_23, cs⟩ (code ⟨n_25, f_23, cs⟩ (top 25))) := by rw [← code_ok]; rfl
  rw [e, c_25]; rfl
theorem ms_arrows : m_26 = [false, false] := rfl
theorem r_arrows : s_arrows = runF [false, false] 2 (mSeq (mDrop (mCall [false] s_need_web (mArgs [.val (mV 0)]))) (mSeq (mDrop (mCall [false, false] s_need_order (mArgs [.val (mV 0), .val (mV 1)]))) (mSeq (mRet (mCall [false, false] s_arrows_of (mArgs [.val (mV 0), .val (mV 1)]))) mSkip))) := by
  have e : s_arrows = runF m_26 2 (dS ⟨n_26, f_25, cs⟩ (code ⟨n_26, f_25, cs⟩ (top 26))) := by rw [← code_ok]; rfl
  rw [e, c_26]; rfl
theorem ms_are_alike : m_27 = [false, false, false] := rfl
theorem r_are_alike : s_are_alike = runF [false, false, false] 3 (mSeq (mDrop (mCall [false, false, false] s_need_two_orders (mArgs [.val (mV 0), .val (mV 1), .val (mV 2)]))) (mSeq (mRet (mOp dEq (mCall [false, false] s_arrows_of (mArgs [.val (mV 0), .val (mV 1)])) (mCall [false, false] s_arrows_of (mArgs [.val (mV 0), .val (mV 2)])))) mSkip)) := by
  have e : s_are_alike = runF m_27 3 (dS ⟨n_27, f_26, cs⟩ (code ⟨n_27, f_26, cs⟩ (top 27))) := by rw [← code_ok]; rfl
  rw [e, c_27]; rfl
theorem ms_first_alike : m_28 = [false, false] := rfl
theorem r_first_alike : s_first_alike = runF [false, false] 2 (mSeq (mDrop (mCall [false] s_need_web (mArgs [.val (mV 0)]))) (mSeq (mDrop (mCall [false, false] s_need_order (mArgs [.val (mV 0), .val (mV 1)]))) (mSeq (mRet (mCall [false, false] s_first_order (mArgs [.val (mV 0), .val (mCall [false, false] s_arrows_of (mArgs [.val (mV 0), .val (mV 1)]))]))) mSkip))) := by
  have e : s_first_alike = runF m_28 2 (dS ⟨n_28, f_27, cs⟩ (code ⟨n_28, f_27, cs⟩ (top 28))) := by rw [← code_ok]; rfl
  rw [e, c_28]; rfl
theorem ms_law_feed : m_30 = [false, false] := rfl
theorem r_law_feed : s_law_feed = runF [false, false] 3 (mSeq (mAsg 2 (mOp dAdd (mOp dMul (mC (.int 977)) (mV 1)) (mUn dSum (mSlice (mV 0) mNoP (mPart (mC (.int 1))))))) (mSeq (mIfS (mTest (mOp dLt (mV 1) (mUn dLen (mV 0)))) (mSeq (mAsg 2 (mOp dIxX (mV 0) (mV 1))) mSkip) mSkip) (mSeq (mRet (mLst (mCons (mCBs (dII2 fMax) (mCons (mC (.int 0)) (mCons (mOp dSub (mV 2) (mOp dPow (mC (.int 10)) (mC (.int 18)))) mNil))) (mCons (mOp dMod (mUn dInt1 (mOp dAdd (mOp dMul (mV 2) (mC (.int 19))) (mOp dMul (mC (.int 7)) (mV 1)))) (mOp dAdd (mOp dPow (mC (.int 10)) (mC (.int 39))) (mC (.int 23)))) (mCons (mC (.int 0)) mNil))))) mSkip))) := by
  have e : s_law_feed = runF m_30 3 (dS ⟨n_30, f_28, cs⟩ (code ⟨n_30, f_28, cs⟩ (top 30))) := by rw [← code_ok]; rfl
  rw [e, c_30]; rfl
theorem ms_law_draw : m_31 = [true, false] := rfl
theorem r_law_draw : s_law_draw = runF [true, false] 5 (mSeq (mIfS (mTest (mOp dGt (mOp dIxX (mV 0) (mC (.int 0))) (mC (.int 0)))) (mSeq (mAsg 2 (mOp dFdiv (mOp dIxX (mV 0) (mC (.int 0))) (mV 1))) (mSeq (mAsg 3 (mOp dSub (mOp dIxX (mV 0) (mC (.int 0))) (mOp dMul (mV 2) (mV 1)))) (mSeq (mSetK 0 setD (mC (.int 0)) (mV 2)) (mSeq (mRet (mV 3)) mSkip)))) mSkip) (mSeq (mSetK 0 setD (mC (.int 2)) (mOp dAdd (mOp dIxX (mV 0) (mC (.int 2))) (mC (.int 1)))) (mSeq (mAsg 4 (mOp dAdd (mOp dIxX (mV 0) (mC (.int 1))) (mOp dMul (mC (.int 6700417)) (mOp dIxX (mV 0) (mC (.int 2)))))) (mSeq (mAsg 4 (mOp dMod (mUn dInt1 (mOp dAdd (mOp dMul (mOp dMul (mV 4) (mV 4)) (mV 4)) (mOp dMul (mC (.int 15485863)) (mOp dIxX (mV 0) (mC (.int 2)))))) (mOp dAdd (mOp dPow (mC (.int 10)) (mC (.int 43))) (mC (.int 57))))) (mSeq (mAsg 4 (mOp dMod (mUn dInt1 (mOp dAdd (mOp dMul (mV 4) (mV 4)) (mC (.int 32452843)))) (mOp dAdd (mOp dPow (mC (.int 10)) (mC (.int 38))) (mC (.int 133))))) (mSeq (mRet (mOp dMod (mUn dInt1 (mOp dFdiv (mV 4) (mOp dPow (mC (.int 10)) (mC (.int 9))))) (mV 1))) mSkip)))))) := by
  have e : s_law_draw = runF m_31 5 (dS ⟨n_31, f_30, cs⟩ (code ⟨n_31, f_30, cs⟩ (top 31))) := by rw [← code_ok]; rfl
  rw [e, c_31]; rfl
theorem ms_law_one : m_32 = [true, false] := rfl
theorem r_law_one : s_law_one = runF [true, false] 2 (mSeq (mRet (mOp dIxX (mV 1) (mCall [true, false] s_law_draw (mArgs [.chg 0, .val (mUn dLen (mV 1))])))) mSkip) := by
  have e : s_law_one = runF m_32 2 (dS ⟨n_32, f_31, cs⟩ (code ⟨n_32, f_31, cs⟩ (top 32))) := by rw [← code_ok]; rfl
  rw [e, c_32]; rfl
theorem ms_law_mixed : m_33 = [true, false] := rfl
theorem r_law_mixed : s_law_mixed = runF [true, false] 5 (mSeq (mPar2 2 3 (mUn dList (mV 1)) (mLst mNil)) (mSeq (mFor (mRange1 (mCons (mUn dLen (mV 1)) mNil)) (fName 4) (mSeq (mDrop (mMut isList 3 mtAppend (mCons (mMut isList 2 (Z.orM mtPop mtPopAt) (mCons (mCall [true, false] s_law_draw (mArgs [.chg 0, .val (mUn dLen (mV 2))])) mNil)) mNil))) mSkip)) (mSeq (mRet (mV 3)) mSkip))) := by
  have e : s_law_mixed = runF m_33 5 (dS ⟨n_33, f_32, cs⟩ (code ⟨n_33, f_32, cs⟩ (top 33))) := by rw [← code_ok]; rfl
  rw [e, c_33]; rfl
theorem ms_law_names : m_34 = [true, false] := rfl
theorem r_law_names : s_law_names = runF [true, false] 2 (mSeq (mRet (mSlice (mCall [true, false] s_law_mixed (mArgs [.chg 0, .val (mLst (mCons (mC (.str "a")) (mCons (mC (.str "b10")) (mCons (mC (.str "b")) (mCons (mC (.str "zz")) (mCons (mC (.str "a1")) (mCons (mC (.str "q1w2e3r4")) (mCons (mC (.str "b9")) (mCons (mC (.str "x")) (mCons (mC (.str "m0")) (mCons (mC (.str "road")) (mCons (mC (.str "k")) (mCons (mC (.str "a1b")) mNil)))))))))))))])) mNoP (mPart (mV 1)))) mSkip) := by
  have e : s_law_names = runF m_34 2 (dS ⟨n_34, f_33, cs⟩ (code ⟨n_34, f_33, cs⟩ (top 34))) := by rw [← code_ok]; rfl
  rw [e, c_34]; rfl
theorem ms_law_web : m_35 = [true, false, false] := rfl
theorem r_law_web : s_law_web = runF [true, false, false] 14 (mSeq (mAsg 3 (mIf (mTest (mOp dEq (mV 1) (mC (.str "ring")))) (mCBs (dII2 fMax) (mCons (mC (.int 3)) (mCons (mOp dAdd (mC (.int 1)) (mCall [true, false] s_law_draw (mArgs [.chg 0, .val (mV 2)]))) mNil))) (mOp dAdd (mC (.int 1)) (mCall [true, false] s_law_draw (mArgs [.chg 0, .val (mV 2)]))))) (mSeq (mPar2 4 5 (mLst mNil) (mCall [true, false] s_law_draw (mArgs [.chg 0, .val (mC (.int 3))]))) (mSeq (mFor (mRange2 (mCons (mC (.int 1)) (mCons (mV 3) mNil))) (fName 6) (mSeq (mAsg 7 (mIf (mOrT (mTest (mOp dEq (mV 5) (mC (.int 0)))) (mTest (mOp dEq (mV 1) (mC (.str "ring"))))) (mOp dSub (mV 6) (mC (.int 1))) (mIf (mTest (mOp dEq (mV 5) (mC (.int 1)))) (mC (.int 0)) (mCall [true, false] s_law_draw (mArgs [.chg 0, .val (mV 6)]))))) (mSeq (mIfS (mOrT (mTest (mOp dNe (mV 1) (mC (.str "any")))) (mTest (mOp dGt (mCall [true, false] s_law_draw (mArgs [.chg 0, .val (mC (.int 5))])) (mC (.int 0))))) (mSeq (mDrop (mMut isList 4 mtAppend (mCons (mTup (mCons (mV 7) (mCons (mV 6) mNil))) mNil))) mSkip) mSkip) mSkip))) (mSeq (mIfS (mTest (mOp dEq (mV 1) (mC (.str "ring")))) (mSeq (mDrop (mMut isList 4 mtAppend (mCons (mTup (mCons (mC (.int 0)) (mCons (mOp dSub (mV 3) (mC (.int 1))) mNil))) mNil))) mSkip) mSkip) (mSeq (mFor (mRange1 (mCons (mIf (mAndT (mTest (mOp (orG dIn (dInM false)) (mV 1) (mTup (mCons (mC (.str "whole")) (mCons (mC (.str "any")) mNil))))) (mTest (mOp dGt (mV 3) (mC (.int 2))))) (mCall [true, false] s_law_draw (mArgs [.chg 0, .val (mC (.int 5))])) (mC (.int 0))) mNil)) (fName 8) (mSeq (mAsg 9 (mCall [true, false] s_law_draw (mArgs [.chg 0, .val (mV 3)]))) (mSeq (mAsg 10 (mOp dMod (mUn dInt1 (mOp dAdd (mOp dAdd (mV 9) (mC (.int 1))) (mCall [true, false] s_law_draw (mArgs [.chg 0, .val (mOp dSub (mV 3) (mC (.int 1)))])))) (mV 3))) (mSeq (mAsg 11 (mTup (mCons (mCBs (dII2 fMin) (mCons (mV 9) (mCons (mV 10) mNil))) (mCons (mCBs (dII2 fMax) (mCons (mV 9) (mCons (mV 10) mNil))) mNil)))) (mSeq (mIfS (mTest (mOp (orG dNotIn (dInM true)) (mV 11) (mV 4))) (mSeq (mDrop (mMut isList 4 mtAppend (mCons (mV 11) mNil))) mSkip) mSkip) mSkip))))) (mSeq (mAsg 12 (mCall [true, false] s_law_names (mArgs [.chg 0, .val (mV 3)]))) (mSeq (mAsg 13 (mLst mNil)) (mSeq (mFor (mItems (mCall [true, false] s_law_mixed (mArgs [.chg 0, .val (mV 4)]))) (fTup 2 (fCons (fName 9) (fCons (fName 10) fNil))) (mSeq (mDrop (mMut isList 13 mtAppend (mCons (mIf (mTest (mOp dEq (mCall [true, false] s_law_draw (mArgs [.chg 0, .val (mC (.int 2))])) (mC (.int 0)))) (mTup (mCons (mOp dIxX (mV 12) (mV 9)) (mCons (mOp dIxX (mV 12) (mV 10)) mNil))) (mTup (mCons (mOp dIxX (mV 12) (mV 10)) (mCons (mOp dIxX (mV 12) (mV 9)) mNil)))) mNil))) mSkip)) (mSeq (mRet (mTup (mCons (mUn dTuple (mCall [true, false] s_law_mixed (mArgs [.chg 0, .val (mV 12)]))) (mCons (mUn dTuple (mV 13)) mNil)))) mSkip))))))))) := by
  have e : s_law_web = runF m_35 14 (dS ⟨n_35, f_34, cs⟩ (code ⟨n_35, f_34, cs⟩ (top 35))) := by rw [← code_ok]; rfl
  rw [e, c_35]; rfl
theorem ms_law_order : m_36 = [true, false] := rfl
theorem r_law_order : s_law_order = runF [true, false] 2 (mSeq (mRet (mUn dTuple (mCall [true, false] s_law_mixed (mArgs [.chg 0, .val (mOp dIxX (mV 1) (mC (.int 0)))])))) mSkip) := by
  have e : s_law_order = runF m_36 2 (dS ⟨n_36, f_35, cs⟩ (code ⟨n_36, f_35, cs⟩ (top 36))) := by rw [← code_ok]; rfl
  rw [e, c_36]; rfl
theorem ms_law_arrows : m_37 = [false, false] := rfl
theorem r_law_arrows : s_law_arrows = runF [false, false] 3 (mSeq (mRet (mUn dTuple (mLc (mItems (mOp dIxX (mV 0) (mC (.int 1)))) (fName 2) (fun ρ => some (true, ρ)) (mIf (mTest (mOp dLt (mIdx (mV 1) (mOp dIxX (mV 2) (mC (.int 0)))) (mIdx (mV 1) (mOp dIxX (mV 2) (mC (.int 1)))))) (mV 2) (mTup (mCons (mOp dIxX (mV 2) (mC (.int 1))) (mCons (mOp dIxX (mV 2) (mC (.int 0))) mNil)))) [2]))) mSkip) := by
  have e : s_law_arrows = runF m_37 3 (dS ⟨n_37, f_36, cs⟩ (code ⟨n_37, f_36, cs⟩ (top 37))) := by rw [← code_ok]; rfl
  rw [e, c_37]; rfl
theorem ms_law_wide_web : m_38 = [true, false] := rfl
theorem r_law_wide_web : s_law_wide_web = runF [true, false] 10 (mSeq (mPar2 2 3 (mOp dAdd (mC (.int 1)) (mCall [true, false] s_law_draw (mArgs [.chg 0, .val (mV 1)]))) (mLst mNil)) (mSeq (mAsg 4 (mCall [true, false] s_law_names (mArgs [.chg 0, .val (mV 2)]))) (mSeq (mFor (mRange1 (mCons (mV 2) mNil)) (fName 5) (mSeq (mDrop (mMut isList 3 mtExtend (mCons (mLc (mRange1 (mCons (mV 5) mNil)) (fName 7) (fun ρ => some (true, ρ)) (mTup (mCons (mOp dIxX (mV 4) (mV 5)) (mCons (mOp dIxX (mV 4) (mV 7)) mNil))) [7]) mNil))) mSkip)) (mSeq (mAsg 6 (mSlice (mCall [true, false] s_law_mixed (mArgs [.chg 0, .val (mV 3)])) mNoP (mPart (mCall [true, false] s_law_draw (mArgs [.chg 0, .val (mOp dAdd (mCBs (dII2 fMin) (mCons (mC (.int 14)) (mCons (mUn dLen (mV 3)) mNil))) (mC (.int 1)))]))))) (mSeq (mAsg 6 (mLcH 6 (mItems (mV 6)) (fTup 2 (fCons (fName 8) (fCons (fName 9) fNil))) (fun ρ => some (true, ρ)) (mIf (mTest (mOp dEq (mCall [true, false] s_law_draw (mArgs [.chg 0, .val (mC (.int 2))])) (mC (.int 0)))) (mTup (mCons (mV 9) (mCons (mV 8) mNil))) (mTup (mCons (mV 8) (mCons (mV 9) mNil)))) [8, 9])) (mSeq (mRet (mTup (mCons (mUn dTuple (mCall [true, false] s_law_mixed (mArgs [.chg 0, .val (mV 4)]))) (mCons (mUn dTuple (mV 6)) mNil)))) mSkip)))))) := by
  have e : s_law_wide_web = runF m_38 10 (dS ⟨n_38, f_37, cs⟩ (code ⟨n_38, f_37, cs⟩ (top 38))) := by rw [← code_ok]; rfl
  rw [e, c_38]; rfl
theorem ms_law_any_web : m_39 = [true, false] := rfl
theorem r_law_any_web : s_law_any_web = runF [true, false] 2 (mSeq (mIfS (mTest (mOp dEq (mCall [true, false] s_law_draw (mArgs [.chg 0, .val (mC (.int 2))])) (mC (.int 0)))) (mSeq (mRet (mCall [true, false] s_law_wide_web (mArgs [.chg 0, .val (mV 1)]))) mSkip) mSkip) (mSeq (mRet (mCall [true, false, false] s_law_web (mArgs [.chg 0, .val (mCall [true, false] s_law_one (mArgs [.chg 0, .val (mLst (mCons (mC (.str "tree")) (mCons (mC (.str "ring")) (mCons (mC (.str "whole")) (mCons (mC (.str "any")) mNil)))))])), .val (mV 1)]))) mSkip)) := by
  have e : s_law_any_web = runF m_39 2 (dS ⟨n_39, f_38, cs⟩ (code ⟨n_39, f_38, cs⟩ (top 39))) := by rw [← code_ok]; rfl
  rw [e, c_39]; rfl
theorem ms_law_swapped : m_40 = [false, false] := rfl
theorem r_law_swapped : s_law_swapped = runF [false, false] 2 (mSeq (mRet (mOp dAdd (mOp dAdd (mSlice (mV 0) mNoP (mPart (mV 1))) (mTup (mCons (mOp dIxX (mV 0) (mOp dAdd (mV 1) (mC (.int 1)))) (mCons (mOp dIxX (mV 0) (mV 1)) mNil)))) (mSlice (mV 0) (mPart (mOp dAdd (mV 1) (mC (.int 2)))) mNoP))) mSkip) := by
  have e : s_law_swapped = runF m_40 2 (dS ⟨n_40, f_39, cs⟩ (code ⟨n_40, f_39, cs⟩ (top 40))) := by rw [← code_ok]; rfl
  rw [e, c_40]; rfl
theorem ms_law_asked_one : m_41 = [false] := rfl
theorem r_law_asked_one : s_law_asked_one = runF [false] 10 (mSeq (mFor (mRange1 (mCons (mCBs (dII2 fMax) (mCons (mC (.int 1)) (mCons (mCBs (dII2 fMin) (mCons (mUn dLen (mV 0)) (mCons (mC (.int 4)) mNil))) mNil))) mNil)) (fName 1) (mSeq (mAsg 2 (mCall [false, false] s_law_feed (mArgs [.val (mV 0), .val (mV 1)]))) (mSeq (mAsg 3 (mCall [true, false] s_law_any_web (mArgs [.chg 2, .val (mC (.int 8))]))) (mSeq (mAsg 4 (mCall [true, false] s_law_order (mArgs [.chg 2, .val (mV 3)]))) (mSeq (mAsg 5 (mCall [false, false] s_law_arrows (mArgs [.val (mV 3), .val (mV 4)]))) (mSeq (mIfS (mOrT (mTest (mOp dNe (mUn dRepr (mCall [false, false] s_arrows (mArgs [.val (mV 3), .val (mV 4)]))) (mUn dRepr (mV 5)))) (mTest (mOp dNe (mUn dRepr (mCallK g_26 ["order", "web"] (mCons (mV 4) (mCons (mV 3) mNil)))) (mUn dRepr (mV 5))))) (mSeq (mRet (mC (.bool false))) mSkip) mSkip) (mSeq (mIfS (mTest (mOp dNe (mCall [false, false] s_arrows (mArgs [.val (mV 3), .val (mUn dBack (mV 4))])) (mUn dTuple (mLcH 5 (mItems (mV 5)) (fName 9) (fun ρ => some (true, ρ)) (mUn dBack (mV 9)) [9])))) (mSeq (mRet (mC (.bool false))) mSkip) mSkip) (mSeq (mFor (mRange1 (mCons (mOp dSub (mUn dLen (mV 4)) (mC (.int 1))) mNil)) (fName 6) (mSeq (mAsg 7 (mSlice (mV 4) (mPart (mV 6)) (mPart (mOp dAdd (mV 6) (mC (.int 2)))))) (mSeq (mIfS (mTest (mOp dNe (mCall [false, false] s_arrows (mArgs [.val (mV 3), .val (mCall [false, false] s_law_swapped (mArgs [.val (mV 4), .val (mV 6)]))])) (mUn dTuple (mLcH 5 (mItems (mV 5)) (fName 9) (fun ρ => some (true, ρ)) (mIf (mTest (mOp dEq (mV 9) (mV 7))) (mUn dBack (mV 9)) (mV 9)) [9])))) (mSeq (mRet (mC (.bool false))) mSkip) mSkip) mSkip))) (mSeq (mAsg 8 (mUn dTuple (mLcH 5 (mItems (mV 5)) (fName 9) (fun ρ => some (true, ρ)) (mIf (mTest (mOp dEq (mOp dIxX (mV 9) (mC (.int 0))) (mOp dIxX (mV 4) (mC (.int 0))))) (mUn dBack (mV 9)) (mV 9)) [9]))) (mSeq (mIfS (mTest (mOp dNe (mCall [false, false] s_arrows (mArgs [.val (mV 3), .val (mOp dAdd (mSlice (mV 4) (mPart (mC (.int 1))) mNoP) (mSlice (mV 4) mNoP (mPart (mC (.int 1)))))])) (mV 8))) (mSeq (mRet (mC (.bool false))) mSkip) mSkip) mSkip)))))))))) (mSeq (mRet (mC (.bool true))) mSkip)) := by
  have e : s_law_asked_one = runF m_41 10 (dS ⟨n_41, f_40, cs⟩ (code ⟨n_41, f_40, cs⟩ (top 41))) := by rw [← code_ok]; rfl
  rw [e, c_41]; rfl
theorem ms_law_orders : m_42 = [false] := rfl
theorem r_law_orders : s_law_orders = runF [false] 6 (mSeq (mAsg 1 (mLst (mCons (mTup mNil) mNil))) (mSeq (mFor (mItems (mOp dIxX (mV 0) (mC (.int 0)))) (fName 2) (mSeq (mAsg 3 (mLst mNil)) (mSeq (mFor (mItems (mV 1)) (fName 4) (mSeq (mDrop (mMut isList 3 mtExtend (mCons (mLc (mItems (mOp dIxX (mV 0) (mC (.int 0)))) (fName 5) (mTest (mOp (orG dNotIn (dInM true)) (mV 5) (mV 4))) (mOp dAdd (mV 4) (mTup (mCons (mV 5) mNil))) [5]) mNil))) mSkip)) (mSeq (mAsg 1 (mV 3)) mSkip)))) (mSeq (mRet (mV 1)) mSkip))) := by
  have e : s_law_orders = runF m_42 6 (dS ⟨n_42, f_41, cs⟩ (code ⟨n_42, f_41, cs⟩ (top 42))) := by rw [← code_ok]; rfl
  rw [e, c_42]; rfl
theorem ms_law_apart : m_43 = [false, false, false] := rfl
theorem r_law_apart : s_law_apart = runF [false, false, false] 3 (mSeq (mRet (mAndV (mOp (orG dNotIn (dInM true)) (mTup (mCons (mV 1) (mCons (mV 2) mNil))) (mOp dIxX (mV 0) (mC (.int 1)))) (mOp (orG dNotIn (dInM true)) (mTup (mCons (mV 2) (mCons (mV 1) mNil))) (mOp dIxX (mV 0) (mC (.int 1)))))) mSkip) := by
  have e : s_law_apart = runF m_43 3 (dS ⟨n_43, f_42, cs⟩ (code ⟨n_43, f_42, cs⟩ (top 43))) := by rw [← code_ok]; rfl
  rw [e, c_43]; rfl
theorem ms_law_swaps : m_44 = [false, false] := rfl
theorem r_law_swaps : s_law_swaps = runF [false, false] 3 (mSeq (mRet (mLc (mRange1 (mCons (mOp dSub (mUn dLen (mV 1)) (mC (.int 1))) mNil)) (fName 2) (mTest (mCall [false, false, false] s_law_apart (mArgs [.val (mV 0), .val (mOp dIxX (mV 1) (mV 2)), .val (mOp dIxX (mV 1) (mOp dAdd (mV 2) (mC (.int 1))))]))) (mV 2) [2])) mSkip) := by
  have e : s_law_swaps = runF m_44 3 (dS ⟨n_44, f_43, cs⟩ (code ⟨n_44, f_43, cs⟩ (top 44))) := by rw [← code_ok]; rfl
  rw [e, c_44]; rfl
theorem ms_law_like : m_45 = [true, false, false, false] := rfl
theorem r_law_like : s_law_like = runF [true, false, false, false] 7 (mSeq (mAsg 4 (mLst mNil)) (mSeq (mFor (mRange1 (mCons (mCall [true, false] s_law_draw (mArgs [.chg 0, .val (mOp dAdd (mV 3) (mC (.int 1)))])) mNil)) (fName 5) (mSeq (mAsg 6 (mCall [false, false] s_law_swaps (mArgs [.val (mV 1), .val (mV 2)]))) (mSeq (mIfS (mTest (mOp dNe (mV 6) (mLst mNil))) (mSeq (mDrop (mMut isList 4 mtAppend (mCons (mCall [true, false] s_law_one (mArgs [.chg 0, .val (mV 6)])) mNil))) (mSeq (mAsg 2 (mCall [false, false] s_law_swapped (mArgs [.val (mV 2), .val (mOp dIxX (mV 4) (mUn dNeg (mC (.int 1))))]))) mSkip)) mSkip) mSkip))) (mSeq (mRet (mTup (mCons (mV 4) (mCons (mV 2) mNil)))) mSkip))) := by
  have e : s_law_like = runF m_45 7 (dS ⟨n_45, f_44, cs⟩ (code ⟨n_45, f_44, cs⟩ (top 45))) := by rw [← code_ok]; rfl
  rw [e, c_45]; rfl
theorem ms_law_first : m_46 = [false, false] := rfl
theorem r_law_first : s_law_first = runF [false, false] 8 (mSeq (mAsg 2 (mLst mNil)) (mSeq (mFor (mItems (mOp dIxX (mV 0) (mC (.int 0)))) (fName 3) (mSeq (mAsg 4 (mLst mNil)) (mSeq (mFor (mItems (mOp dIxX (mV 0) (mC (.int 0)))) (fName 5) (mSeq (mIfS (mAndT (mTest (mOp (orG dNotIn (dInM true)) (mV 5) (mV 2))) (mTest (mOp dEq (mLcH 1 (mItems (mV 1)) (fTup 2 (fCons (fName 6) (fCons (fName 7) fNil))) (mAndT (mTest (mOp dEq (mV 7) (mV 5))) (mTest (mOp (orG dNotIn (dInM true)) (mV 6) (mV 2)))) (mV 6) [6, 7]) (mLst mNil)))) (mSeq (mDrop (mMut isList 4 mtAppend (mCons (mV 5) mNil))) mSkip) mSkip) mSkip)) (mSeq (mIfS (mTest (mOp dEq (mV 4) (mLst mNil))) (mSeq (mRet (mC .none)) mSkip) mSkip) (mSeq (mDrop (mMut isList 2 mtAppend (mCons (mOp dIxX (mV 4) (mC (.int 0))) mNil))) mSkip))))) (mSeq (mRet (mUn dTuple (mV 2))) mSkip))) := by
  have e : s_law_first = runF m_46 8 (dS ⟨n_46, f_45, cs⟩ (code ⟨n_46, f_45, cs⟩ (top 46))) := by rw [← code_ok]; rfl
  rw [e, c_46]; rfl
theorem ms_law_asked_two : m_47 = [false] := rfl
theorem r_law_asked_two : s_law_asked_two = runF [false] 9 (mSeq (mFor (mRange1 (mCons (mCBs (dII2 fMax) (mCons (mC (.int 1)) (mCons (mCBs (dII2 fMin) (mCons (mUn dLen (mV 0)) (mCons (mC (.int 3)) mNil))) mNil))) mNil)) (fName 1) (mSeq (mAsg 2 (mCall [false, false] s_law_feed (mArgs [.val (mV 0), .val (mV 1)]))) (mSeq (mAsg 3 (mCall [true, false] s_law_any_web (mArgs [.chg 2, .val (mC (.int 5))]))) (mSeq (mAsg 4 mDict0) (mSeq (mFor (mItems (mCall [false] s_law_orders (mArgs [.val (mV 3)]))) (fName 5) (mSeq (mDrop (mMut isDict 4 mtSetdef (mCons (mCall [false, false] s_law_arrows (mArgs [.val (mV 3), .val (mV 5)])) (mCons (mV 5) mNil)))) (mSeq (mIfS (mTest (mOp dNe (mUn dRepr (mCall [false, false] s_first_alike (mArgs [.val (mV 3), .val (mV 5)]))) (mUn dRepr (mOp dIxX (mV 4) (mCall [false, false] s_law_arrows (mArgs [.val (mV 3), .val (mV 5)])))))) (mSeq (mRet (mC (.bool false))) mSkip) mSkip) mSkip))) (mSeq (mAsg 3 (mCall [true, false] s_law_any_web (mArgs [.chg 2, .val (mC (.int 8))]))) (mSeq (mAsg 5 (mCall [true, false] s_law_order (mArgs [.chg 2, .val (mV 3)]))) (mSeq (mAsg 6 (mCall [false, false] s_law_first (mArgs [.val (mV 3), .val (mCall [false, false] s_law_arrows (mArgs [.val (mV 3), .val (mV 5)]))]))) (mSeq (mFor (mRange1 (mCons (mC (.int 4)) mNil)) (fName 7) (mSeq (mAsg 8 (mOp dIxX (mCall [true, false, false, false] s_law_like (mArgs [.chg 2, .val (mV 3), .val (mV 5), .val (mC (.int 12))])) (mC (.int 1)))) (mSeq (mIfS (mOrT (mTest (mOp dNe (mUn dRepr (mCall [false, false] s_first_alike (mArgs [.val (mV 3), .val (mV 8)]))) (mUn dRepr (mV 6)))) (mTest (mOp dNe (mUn dRepr (mCallK g_28 ["order", "web"] (mCons (mV 8) (mCons (mV 3) mNil)))) (mUn dRepr (mV 6))))) (mSeq (mRet (mC (.bool false))) mSkip) mSkip) mSkip))) (mSeq (mIfS (mOrT (mTest (mOp dNe (mCall [false, false] s_first_alike (mArgs [.val (mV 3), .val (mV 6)])) (mV 6))) (mTest (mOp (orG (dIsB true) (dIsNo true)) (mCall [false, false, false] s_are_alike (mArgs [.val (mV 3), .val (mV 6), .val (mV 5)])) (mC (.bool true))))) (mSeq (mRet (mC (.bool false))) mSkip) mSkip) mSkip)))))))))) (mSeq (mRet (mC (.bool true))) mSkip)) := by
  have e : s_law_asked_two = runF m_47 9 (dS ⟨n_47, f_46, cs⟩ (code ⟨n_47, f_46, cs⟩ (top 47))) := by rw [← code_ok]; rfl
  rw [e, c_47]; rfl
theorem ms_law : m_48 = [false] := rfl
theorem r_law : s_law = runF [false] 1 (mSeq (mRet (mAndV (mCall [false] s_law_asked_one (mArgs [.val (mV 0)])) (mCall [false] s_law_asked_two (mArgs [.val (mV 0)])))) mSkip) := by
  have e : s_law = runF m_48 1 (dS ⟨n_48, f_47, cs⟩ (code ⟨n_48, f_47, cs⟩ (top 48))) := by rw [← code_ok]; rfl
  rw [e, c_48]; rfl
end T
end

section
open PySem Z L2
set_option Elab.async false
set_option linter.all false
set_option maxRecDepth 100000
set_option maxHeartbeats 1000000
namespace T
theorem draw_ok {n : Nat} {d : D} {many : Nat} (hf : Feed (n + 1) d) (h : 0 < many) (h2 : many < 1000000) : ∃ (r : Nat) (d' : D), s_law_draw [d, .int many] = some (.val (.int r), [d']) ∧ r < many ∧ Feed n d' := by
  obtain ⟨a, b, c, rfl, hb0, hb, hc0, hc⟩ := hf
  have i0 : dIxX (.list [.int a, .int b, .int c]) (.int 0) = some (.val (.int a)) := o_ixL (n := 0) rfl
  have i1 : ∀ z : Int, dIxX (.list [.int a, .int b, .int z]) (.int 1) = some (.val (.int b)) := fun z => o_ixL (n := 1) rfl
  have i2 : ∀ z : Int, dIxX (.list [.int a, .int b, .int z]) (.int 2) = some (.val (.int z)) := fun z => o_ixL (n := 2) rfl
  have hm : (0 : Int) < many := by omega
  rw [r_law_draw, w_run]
  by_cases ha : 0 < a
  · have e1 : cDivW a many = true := cdiv_s hm (by omega)
    have e2 : cMul (a / many) many = true := cmul_r (by omega) (by omega)
    have er : a - a / many * many = a % many := by rw [Int.emod_def, Int.mul_comm]
    refine ⟨(a % many).toNat, .list [.int (a / many), .int b, .int c], ?_, ?_, a / many, b, c, rfl, hb0, hb, hc0, by omega⟩
    · have hn : ((a % many).toNat : Int) = a % many := Int.toNat_of_nonneg (Int.emod_nonneg _ (by omega))
      simp [i0, ha, e1, e2, setD, isDict, ixN, er, hn]
    · have := Int.emod_lt_of_pos a hm
      have := Int.emod_nonneg a (show (many : Int) ≠ 0 by omega)
      omega
  · obtain ⟨s0, e0⟩ : ∃ s0 : Int, b + 6700417 * (c + 1) = s0 := ⟨_, rfl⟩
    obtain ⟨s1, e1⟩ : ∃ s1 : Int, (s0 * s0 * s0 + 15485863 * (c + 1)) % 10000000000000000000000000000000000000000057 = s1 := ⟨_, rfl⟩
    obtain ⟨s2, e2⟩ : ∃ s2 : Int, (s1 * s1 + 32452843) % 100000000000000000000000000000000000133 = s2 := ⟨_, rfl⟩
    obtain ⟨r, er⟩ : ∃ r : Int, (s2 / 1000000000) % (many : Int) = r := ⟨_, rfl⟩
    have hs0 : 0 ≤ s0 := by omega
    have hs0' : s0 < 2 ^ 134 := by omega
    have hs00 : 0 ≤ s0 * s0 := Int.mul_nonneg hs0 hs0
    have hs00' : s0 * s0 < 2 ^ 268 := by
      have : s0 * s0 ≤ 2 ^ 134 * s0 := Int.mul_le_mul_of_nonneg_right (Int.le_of_lt hs0') hs0
      omega
    have hs1 : 0 ≤ s1 := by rw [← e1]; exact Int.emod_nonneg _ (by omega)
    have hs1' : s1 < 2 ^ 144 := by have : s1 < 10000000000000000000000000000000000000000057 := by rw [← e1]; exact Int.emod_lt_of_pos _ (by omega)
                                   omega
    have hs2 : 0 ≤ s2 := by rw [← e2]; exact Int.emod_nonneg _ (by omega)
    have hr : 0 ≤ r := by rw [← er]; exact Int.emod_nonneg _ (by omega)
    have hr' : r < many := by rw [← er]; exact Int.emod_lt_of_pos _ hm
    have c1 : cMul 6700417 (c + 1) = true := cmul_l (by omega) (by omega)
    have c2 : cMul s0 s0 = true := cmul_b hs0 hs0' hs0 hs0' (by omega)
    have c3 : cMul (s0 * s0) s0 = true := cmul_b hs00 hs00' hs0 hs0' (by omega)
    have c4 : cMul 15485863 (c + 1) = true := cmul_l (by omega) (by omega)
    have c5 : cMul s1 s1 = true := cmul_b hs1 hs1' hs1 hs1' (by omega)
    have c6 : cDivW s2 1000000000 = true := cdiv_s (by omega) (by omega)
    have q1 : cPow 10 43 = true := by decide
    have q2 : cPow 10 38 = true := by decide
    have q3 : cPow 10 9 = true := by decide
    have hn : (r.toNat : Int) = r := Int.toNat_of_nonneg hr
    refine ⟨r.toNat, .list [.int a, .int b, .int (c + 1)], ?_, by omega, a, b, c + 1, rfl, hb0, hb, by omega, by omega⟩
    rw [hn]
    simp [i0, i1, i2, ha, setD, isDict, ixN, c1, c2, c3, c4, c5, c6, q1, q2, q3, e0, e1, e2, er, h]
end T
end

section
open PySem Z L2
set_option Elab.async false
set_option linter.all false
set_option maxRecDepth 100000
set_option maxHeartbeats 1000000
namespace T
theorem one_ok {n : Nat} {d : D} {β : Type} (e : β → D) {xs : List β} (hf : Feed (n + 1) d) (h : 0 < xs.length) (h2 : xs.length < 1000000) : ∃ x ∈ xs, ∃ d' : D, s_law_one [d, .list (xs.map e)] = some (.val (e x), [d']) ∧ Feed n d' := by
  obtain ⟨r, d', h3, h4, h5⟩ := draw_ok (many := xs.length) hf h h2
  refine ⟨xs[r], List.getElem_mem h4, d', ?_, h5⟩
  have ix : dIxX (.list (xs.map e)) (.int r) = some (.val (e xs[r])) := o_ixL (by simp -implicitDefEqProofs [h4])
  rw [r_law_one, w_run]
  simp -implicitDefEqProofs [h3, ix]
theorem mixed_ok {n : Nat} {d t : D} {β : Type} (e : β → D) (he : ∀ x, isDict (e x) = false) {xs : List β} (ht : t = .list (xs.map e) ∨ t = .tuple (xs.map e)) (hf : Feed (n + xs.length) d) (h2 : xs.length < 1000) :
    ∃ (ys : List β) (d' : D), ys.Perm xs ∧ s_law_mixed [d, t] = some (.new (.list (ys.map e)), [d']) ∧ Feed n d' := by
  have h0 : dList t = some (.new (.list (xs.map e))) := by rcases ht with rfl | rfl <;> rfl
  have h1 : dLen t = some (.val (.int xs.length)) := by rcases ht with rfl | rfl <;> simp
  let P : Nat → Rho → Prop := fun i ρ => ∃ (got pool : List β) (d' : D) (s : Slot), ρ = [.mp d', .sh t, .ow (.list (pool.map e)), .ow (.list (got.map e)), s] ∧ (got ++ pool).Perm xs ∧ got.length = i ∧ Feed (n + pool.length) d' ∧ (s = .no ∨ ∃ q, s = .sh q)
  have hr := rng_nat (n := xs.length) (by omega)
  obtain ⟨ρ', e1, got, pool, d', s, rfl, hp, hl, hd, _⟩ := for_inv (mi := mRange1 (mCons (mUn dLen (mV 1)) mNil)) (f := fName 4) (b := (mSeq (mDrop (mMut isList 3 mtAppend (mCons (mMut isList 2 (orM mtPop mtPopAt) (mCons (mCall [true, false] s_law_draw (mArgs [.chg 0, .val (mUn dLen (mV 2))])) mNil)) mNil))) mSkip))
    (ρ := [.mp d, .sh t, .ow (.list (xs.map e)), .ow (.list []), .no]) (ρ1 := [.mp d, .sh t, .ow (.list (xs.map e)), .ow (.list []), .no]) (fun i : Nat => .int i) (List.range xs.length) P (by
      simp -implicitDefEqProofs [h1, hr]) ⟨[], xs, d, .no, rfl, by simp, rfl, hf, .inl rfl⟩ (by
      rintro i x ρ hx ⟨got, pool, d', s, rfl, hp, hl, hd, hs⟩
      have hi : i < xs.length := by have := (List.getElem?_eq_some_iff.mp hx).1; simpa using this
      have hpl : got.length + pool.length = xs.length := by have := hp.length_eq; simpa using this
      have hp0 : 0 < pool.length := by omega
      obtain ⟨r, d2, h3, h4, h5⟩ := draw_ok (n := n + (pool.length - 1)) (many := pool.length) (d := d') (by rw [show n + (pool.length - 1) + 1 = n + pool.length by omega]; exact hd) hp0 (by omega)
      refine ⟨[.mp d', .sh t, .ow (.list (pool.map e)), .ow (.list (got.map e)), .sh (.int (x : Int))], ?_, [.mp d2, .sh t, .ow (.list ((pool.eraseIdx r).map e)), .ow (.list ((got ++ [pool[r]]).map e)), .sh (.int (x : Int))], .inl ?_, ?_⟩
      · rcases hs with rfl | ⟨q, rfl⟩ <;> simp
      · have pop : Z.orM mtPop mtPopAt (.list (pool.map e)) [.int r] = some (.list ((pool.eraseIdx r).map e), e pool[r]) := by
          rw [pop_at (by simpa using h4) (by omega)]
          simp [List.eraseIdx_eq_take_drop_succ, List.map_take, List.map_drop]
        have lb : got.length < 100000 := by omega
        simp -implicitDefEqProofs [h3, pop, he, lb]
      · refine ⟨got ++ [pool[r]], pool.eraseIdx r, d2, _, rfl, ?_, by simp -implicitDefEqProofs [hl], ?_, .inr ⟨_, rfl⟩⟩
        · refine List.Perm.trans ?_ hp
          rw [List.append_assoc]
          refine List.Perm.append_left got ?_
          rw [List.eraseIdx_eq_take_drop_succ]
          have q : (pool[r] :: (pool.take r ++ pool.drop (r + 1))).Perm (pool.take r ++ pool[r] :: pool.drop (r + 1)) := List.perm_middle.symm
          have e : pool.take r ++ pool[r] :: pool.drop (r + 1) = pool := by simp
          rw [e] at q
          exact q
        · rw [List.length_eraseIdx, if_pos h4]; exact h5)
  have hpl : pool = [] := by
    have := hp.length_eq
    rw [List.length_append] at this
    have hl' : got.length = xs.length := by simpa using hl
    exact List.length_eq_zero_iff.mp (by omega)
  subst hpl
  refine ⟨got, d', by simpa using hp, ?_, by simpa using hd⟩
  rw [r_law_mixed, w_run]
  simp -implicitDefEqProofs [h0, e1]
end T
end

section
open PySem Z L2
set_option Elab.async false
set_option linter.all false
set_option maxRecDepth 100000
set_option maxHeartbeats 1000000
namespace T
def NAMES : List Str := ["a", "b10", "b", "zz", "a1", "q1w2e3r4", "b9", "x", "m0", "road", "k", "a1b"]
theorem names_ok {n : Nat} {d : D} {many : Nat} (hf : Feed (n + 12) d) (h : many ≤ 12) : ∃ (l : List Str) (d' : D), s_law_names [d, .int many] = some (.new (.list (l.map .str)), [d']) ∧ l.length = many ∧ l.Nodup ∧ (∀ x ∈ l, x ∈ NAMES) ∧ Feed n d' := by
  obtain ⟨ys, d', hp, h1, h2⟩ := mixed_ok (n := n) (d := d) (t := .list (NAMES.map .str)) .str (fun _ => rfl) (xs := NAMES) (.inl rfl) hf (by decide)
  have hl : ys.length = 12 := hp.length_eq
  have hn : NAMES.Nodup := by decide +kernel
  refine ⟨ys.take many, d', ?_, by rw [List.length_take]; omega, (hp.nodup_iff.mpr hn).sublist (List.take_sublist _ _), fun x hx => hp.mem_iff.mp (List.mem_of_mem_take hx), h2⟩
  unfold NAMES at h1
  simp only [List.map_cons, List.map_nil] at h1
  rw [r_law_names, w_run]
  simp -implicitDefEqProofs [h1, cut_take, List.map_take]
theorem sum_take (ns : List Int) : dSum (.list ((ns.map (fun i : Int => (.int i : D))).take 1)) = some (.val (.int (ns.take 1).sum)) := by
  cases ns with
  | nil => rfl
  | cons a r => rfl
theorem feed_ok {ns : List Int} {k : Nat} (hk : k < 63) (hl : ns.length ≤ 63) : ∃ d, s_law_feed [.list (ns.map .int), .int k] = some (.new d, []) ∧ Feed 900000000 d := by
  have m1 : cMul 977 (k : Int) = true := cmul_l (by omega) (by omega)
  have m2 : ∀ z : Int, cMul z 19 = true := fun z => cmul_r (by omega) (by omega)
  have m3 : cMul 7 (k : Int) = true := cmul_l (by omega) (by omega)
  have q1 : cPow 10 18 = true := by decide
  have q2 : cPow 10 39 = true := by decide
  have fin : ∀ c : Int, Feed 900000000 (.list [.int (max 0 (c - 1000000000000000000)), .int ((c * 19 + 7 * (k : Int)) % 1000000000000000000000000000000000000023), .int 0]) := fun c =>
    ⟨_, _, _, rfl, Int.emod_nonneg _ (by omega), by have := Int.emod_lt_of_pos (c * 19 + 7 * (k : Int)) (show (0 : Int) < 1000000000000000000000000000000000000023 by omega); omega, by omega, by omega⟩
  have cu : cutD (ns.map fun i : Int => (.int i : D)) none (some 1) = (ns.map fun i : Int => (.int i : D)).take 1 := cut_take 1
  by_cases h : k < ns.length
  · have ix : dIxX (.list (ns.map fun i : Int => (.int i : D))) (.int (k : Int)) = some (.val (.int ns[k])) := o_ixL (by simp [h])
    have h' : (k : Int) < ns.length := by omega
    refine ⟨_, ?_, fin ns[k]⟩
    rw [r_law_feed, w_run]
    simp -implicitDefEqProofs [m1, m2, m3, q1, q2, cu, sum_take, ix, h, h']
  · have h' : ¬ (k : Int) < ns.length := by omega
    refine ⟨_, ?_, fin (977 * (k : Int) + (ns.take 1).sum)⟩
    rw [r_law_feed, w_run]
    simp -implicitDefEqProofs [m1, m2, m3, q1, q2, cu, sum_take, h, h']
end T
end

section
open PySem Z L2 M
set_option Elab.async false
set_option linter.all false
set_option maxRecDepth 100000
set_option maxHeartbeats 1000000
namespace T
def rd (r : Str × Str) : D := .tuple [.str r.1, .str r.2]
def rds (R : List (Str × Str)) : D := .tuple (R.map rd)
def wb (P : List Str) (R : List (Str × Str)) : D := .tuple [ps P, rds R]
/-- roads that are unlike, either way round -/
def Ud (r s : Str × Str) : Prop := r ≠ s ∧ r ≠ (s.2, s.1)
structure Web (m : Nat) (P : List Str) (R : List (Str × Str)) : Prop where
  nd : P.Nodup
  pos : 1 ≤ P.length
  le : P.length ≤ m
  nm : ∀ x ∈ P, x ∈ NAMES
  rl : R.length ≤ 14
  ok : ∀ r ∈ R, r.1 ∈ P ∧ r.2 ∈ P ∧ r.1 ≠ r.2
  ud : R.Pairwise Ud
theorem inj_rd : Inj rd := fun x y => by
  obtain ⟨a, b⟩ := x
  obtain ⟨c, d⟩ := y
  show PyData.eqv (.tuple [.str a, .str b]) (.tuple [.str c, .str d]) = _
  simp only [PyData.eqv, PyData.eqvAll]
  by_cases h1 : a = c <;> by_cases h2 : b = d <;> simp [h1, h2]
theorem nm_ok : ∀ x ∈ NAMES, PyData.strOk x = true := by decide +kernel
theorem sh_ps {l : List Str} (h : ∀ x ∈ l, x ∈ NAMES) : Sh 1 (ps l) := Sh.tupM (k := 0) fun x hx => Sh.str (nm_ok x (h x hx))
theorem sh_rd {r : Str × Str} (h1 : r.1 ∈ NAMES) (h2 : r.2 ∈ NAMES) : Sh 1 (rd r) := Sh.tup (k := 0) fun d hd => by
  simp only [List.mem_cons, List.not_mem_nil, or_false] at hd
  rcases hd with rfl | rfl
  · exact Sh.str (nm_ok _ h1)
  · exact Sh.str (nm_ok _ h2)
theorem sh_rds {R : List (Str × Str)} (h : ∀ r ∈ R, r.1 ∈ NAMES ∧ r.2 ∈ NAMES) : Sh 2 (rds R) := Sh.tupM (k := 1) fun r hr => sh_rd (h r hr).1 (h r hr).2
theorem ix0 {P : List Str} {R : List (Str × Str)} : dIxX (wb P R) (.int 0) = some (.val (ps P)) := o_ixT (n := 0) rfl
theorem ix1 {P : List Str} {R : List (Str × Str)} : dIxX (wb P R) (.int 1) = some (.val (rds R)) := o_ixT (n := 1) rfl
theorem rd0 {r : Str × Str} : dIxX (rd r) (.int 0) = some (.val (.str r.1)) := o_ixT (n := 0) rfl
theorem rd1 {r : Str × Str} : dIxX (rd r) (.int 1) = some (.val (.str r.2)) := o_ixT (n := 1) rfl
theorem it_rds {R : List (Str × Str)} : itemsD (rds R) = some (R.map rd) := rfl
theorem it_ps {P : List Str} : itemsD (ps P) = some (P.map .str) := rfl
theorem nd_ps {P : List Str} : isDict (ps P) = false := rfl
theorem nd_rd {P : Str × Str} : isDict (rd P) = false := rfl
theorem len_ps {P : List Str} : dLen (ps P) = some (.val (.int P.length)) := by unfold ps; rw [o_lenT, List.length_map]
theorem len_rds {P : List (Str × Str)} : dLen (rds P) = some (.val (.int P.length)) := by unfold rds; rw [o_lenT, List.length_map]
theorem ix_ps {P : List Str} {i : Nat} (h : i < P.length) : dIxX (ps P) (.int (i : Int)) = some (.val (.str P[i])) := o_ixT (by simp [h])
section
variable {m : Nat} {P : List Str} {R : List (Str × Str)}
theorem Web.rn (W : Web m P R) : ∀ r ∈ R, r.1 ∈ NAMES ∧ r.2 ∈ NAMES := fun r hr => ⟨W.nm _ (W.ok r hr).1, W.nm _ (W.ok r hr).2.1⟩
theorem order_ok {n : Nat} {d : D} (W : Web m P R) (hm : m ≤ 8) (hf : Feed (n + 8) d) : ∃ (o : List Str) (d' : D), s_law_order [d, wb P R] = some (.val (ps o), [d']) ∧ o.Perm P ∧ Feed n d' := by
  have := W.le
  obtain ⟨o, d', hp, h1, h2⟩ := mixed_ok (n := n) (d := d) (t := ps P) .str (fun _ => rfl) (xs := P) (.inr rfl) (hf.mono (by omega)) (by omega)
  refine ⟨o, d', ?_, hp, h2⟩
  rw [r_law_order, w_run]
  simp -implicitDefEqProofs [ix0, h1]
  rfl
theorem arrows_ok {o : List Str} (W : Web m P R) (ho : o.Perm P) : s_law_arrows [wb P R, ps o] = some (.val (rds (arr R o)), []) := by
  have hn : ∀ x ∈ o, x ∈ NAMES := fun x hx => W.nm x (ho.mem_iff.mp hx)
  have ix : ∀ x ∈ o, dIdx (ps o) (.str x) = some (.val (.int (o.idxOf x : Nat))) := fun x hx => idx_tup inj_str ((Sh.str (nm_ok x (hn x hx))).ok (by omega)) ((sh_ps hn).ok (by omega)) hx
  have hl := W.rl
  rw [r_law_arrows, w_run]
  simp -implicitDefEqProofs []
  rw [lc_map (ρ1 := [.sh (wb P R), .sh (ps o), .no]) rd R (fun r => rd (if o.idxOf r.1 < o.idxOf r.2 then r else (r.2, r.1)))]
  · simp -implicitDefEqProofs [rds, arr]
  · simp -implicitDefEqProofs [ix1, it_rds]
  · rfl
  · unfold big; omega
  · intro r hr
    have a := ix r.1 (ho.mem_iff.mpr (W.ok r hr).1)
    have b := ix r.2 (ho.mem_iff.mpr (W.ok r hr).2.1)
    refine ⟨[.sh (wb P R), .sh (ps o), .sh (rd r)], [.sh (wb P R), .sh (ps o), .sh (rd r)], [.sh (wb P R), .sh (ps o), .sh (rd r)], rfl, rfl, ?_, nd_rd, rfl⟩
    by_cases c : o.idxOf r.1 < o.idxOf r.2
    · simp -implicitDefEqProofs [rd0, rd1, a, b, c]
    · simp -implicitDefEqProofs [rd0, rd1, a, b, c]
      rfl
theorem notIn_R {r : Str × Str} (W : Web m P R) (h1 : r.1 ∈ P) (h2 : r.2 ∈ P) : orG dNotIn (dInM true) (rd r) (rds R) = some (.val (.bool (!decide (r ∈ R)))) :=
  notIn_tup inj_rd ((sh_rd (W.nm _ h1) (W.nm _ h2)).ok (by omega)) ((sh_rds W.rn).ok (by omega))
theorem apart_ok {a b : Str} (W : Web m P R) (ha : a ∈ P) (hb : b ∈ P) : s_law_apart [wb P R, .str a, .str b] = some (.val (.bool (decide (M.Apart R a b))), []) := by
  have h1 : orG dNotIn (dInM true) (.tuple [.str a, .str b]) (rds R) = some (.val (.bool (!decide ((a, b) ∈ R)))) := notIn_R (r := (a, b)) W ha hb
  have h2 : orG dNotIn (dInM true) (.tuple [.str b, .str a]) (rds R) = some (.val (.bool (!decide ((b, a) ∈ R)))) := notIn_R (r := (b, a)) W hb ha
  rw [r_law_apart, w_run]
  by_cases c : (a, b) ∈ R <;> by_cases e : (b, a) ∈ R <;> simp -implicitDefEqProofs [ix1, h1, h2, c, e, M.Apart]
/-- two neighbours exchanged -/
def sw (o : List Str) (i : Nat) : List Str := o.take i ++ (match o[i + 1]?, o[i]? with
  | some b, some a => [b, a]
  | _, _ => []) ++ o.drop (i + 2)
theorem sw_eq {p s : List Str} {a b : Str} : sw (p ++ a :: b :: s) p.length = p ++ b :: a :: s := by
  unfold sw
  simp [List.drop_append]
theorem at_split {o : List Str} {i : Nat} (h : i + 1 < o.length) : ∃ p a b s, o = p ++ a :: b :: s ∧ p.length = i ∧ o[i]? = some a ∧ o[i + 1]? = some b := by
  refine ⟨o.take i, o[i], o[i + 1], o.drop (i + 2), ?_, by rw [List.length_take]; omega, by simp, by simp [h]⟩
  rw [← List.drop_eq_getElem_cons h, ← List.drop_eq_getElem_cons (by omega), List.take_append_drop]
theorem swapped_ok {o : List Str} {i : Nat} (hi : i + 1 < o.length) (hl : o.length < 100) : s_law_swapped [ps o, .int (i : Int)] = some (.val (ps (sw o i)), []) := by
  have x1 : dIxX (ps o) (.int ((i : Int) + 1)) = some (.val (.str o[i + 1])) := ix_ps (i := i + 1) hi
  have x0 : dIxX (ps o) (.int (i : Int)) = some (.val (.str o[i])) := ix_ps (by omega)
  have c1 : dCut (ps o) none (some (i : Int)) = some (.val (.tuple ((o.take i).map .str))) := by unfold ps; rw [o_cutT, cut_take, List.map_take]
  have c2 : dCut (ps o) (some ((i : Int) + 2)) none = some (.val (.tuple ((o.drop (i + 2)).map .str))) := by
    unfold ps; rw [o_cutT, List.map_drop]; exact congrArg (fun z => some (Rs.val (PyData.tuple z))) (cut_drop (i + 2))
  have l1 : min i o.length + 1 + 1 ≤ 100000 := by omega
  have l2 : min i o.length + 2 + (o.length - (i + 2)) ≤ 100000 := by omega
  have g0 : o[i]? = some o[i] := by simp
  have g1 : o[i + 1]? = some o[i + 1] := by simp [hi]
  rw [r_law_swapped, w_run]
  simp -implicitDefEqProofs [x0, x1, c1, c2, l1, l2]
  unfold ps sw
  rw [g0, g1]
  simp
end
end T
end

section
open PySem Z L2 M
set_option Elab.async false
set_option linter.all false
set_option maxRecDepth 100000
set_option maxHeartbeats 1000000
namespace T
section
variable {m : Nat} {P : List Str} {R : List (Str × Str)}
/-- the indexes of neighbours without a road -/
def frB (R : List (Str × Str)) (o : List Str) (i : Nat) : Bool := match o[i]?, o[i + 1]? with
  | some a, some b => decide (M.Apart R a b)
  | _, _ => false
theorem frB_at {o : List Str} {i : Nat} {a b : Str} (ha : o[i]? = some a) (hb : o[i + 1]? = some b) : frB R o i = decide (M.Apart R a b) := by
  unfold frB; rw [ha, hb]
def fr (R : List (Str × Str)) (o : List Str) : List Nat := (List.range (o.length - 1)).filter (frB R o)
theorem fr_lt {o : List Str} {i : Nat} (h : i ∈ fr R o) : i + 1 < o.length := by
  have := (List.mem_filter.mp h).1
  rw [List.mem_range] at this
  omega
theorem fr_len (o : List Str) : (fr R o).length ≤ o.length - 1 := by
  have := List.length_filter_le (frB R o) (List.range (o.length - 1))
  rw [List.length_range] at this
  exact this
theorem swaps_ok {o : List Str} (W : Web m P R) (hm : m ≤ 8) (ho : o.Perm P) : s_law_swaps [wb P R, ps o] = some (.new (.list ((fr R o).map fun i : Nat => .int (i : Int))), []) := by
  have hl := ho.length_eq
  have h1 := W.pos
  have h2 := W.le
  have c : ((o.length : Int) - 1) = ((o.length - 1 : Nat) : Int) := by omega
  have hr := rng_nat (n := o.length - 1) (by omega)
  rw [← c] at hr
  rw [r_law_swaps, w_run]
  simp -implicitDefEqProofs []
  rw [lc_run (ρ1 := [.sh (wb P R), .sh (ps o), .no]) (fun i : Nat => .int (i : Int)) (List.range (o.length - 1)) (fun i => if frB R o i then some (.int (i : Int)) else none)]
  · rw [filterMap_if]
    simp -implicitDefEqProofs []
    rfl
  · simp -implicitDefEqProofs [len_ps, hr]
  · rfl
  · unfold big; rw [List.length_range]; omega
  · intro i hi
    rw [List.mem_range] at hi
    have hi1 : i + 1 < o.length := by omega
    have hi0 : i < o.length := by omega
    have x1 : dIxX (ps o) (.int ((i : Int) + 1)) = some (.val (.str o[i + 1])) := ix_ps (i := i + 1) hi1
    have x0 : dIxX (ps o) (.int (i : Int)) = some (.val (.str o[i])) := ix_ps hi0
    have ap := apart_ok W (ho.mem_iff.mp (List.getElem_mem hi0)) (ho.mem_iff.mp (List.getElem_mem hi1))
    have g0 : o[i]? = some o[i] := by simp [hi0]
    have g1 : o[i + 1]? = some o[i + 1] := by simp [hi1]
    by_cases a : M.Apart R o[i] o[i + 1]
    · rw [if_pos (by rw [frB_at g0 g1]; exact decide_eq_true a)]
      refine ⟨[.sh (wb P R), .sh (ps o), .sh (.int (i : Int))], [.sh (wb P R), .sh (ps o), .sh (.int (i : Int))], [.sh (wb P R), .sh (ps o), .sh (.int (i : Int))], rfl, ?_, ?_, rfl, rfl⟩
      · simp -implicitDefEqProofs [x0, x1, ap, a]
      · simp -implicitDefEqProofs []
    · rw [if_neg (by rw [frB_at g0 g1, decide_eq_false a]; simp)]
      refine ⟨[.sh (wb P R), .sh (ps o), .sh (.int (i : Int))], [.sh (wb P R), .sh (ps o), .sh (.int (i : Int))], rfl, ?_, rfl⟩
      simp -implicitDefEqProofs [x0, x1, ap, a]
theorem sw_alike {o : List Str} {i : Nat} (hn : o.Nodup) (hR : ∀ r ∈ R, r.1 ≠ r.2) (hi : i ∈ fr R o) : M.Alike R o (sw o i) := by
  have h1 := fr_lt hi
  have h2 := (List.mem_filter.mp hi).2
  obtain ⟨p, a, b, s, e, hp, ha, hb⟩ := at_split h1
  rw [frB_at ha hb, decide_eq_true_eq] at h2
  have e2 : sw o i = p ++ b :: a :: s := by rw [← hp, e, sw_eq]
  rw [e2]
  rw [e] at hn ⊢
  exact M.alike_swap hn hR h2
theorem like_ok {n : Nat} {d : D} {o : List Str} (W : Web m P R) (hm : m ≤ 8) (ho : o.Perm P) (hf : Feed (n + 14) d) :
    Ends (s_law_like [d, wb P R, ps o, .int 12]) fun z => ∃ (t : D) (o' : List Str) (d' : D), z = (.val (.tuple [t, ps o']), [d']) ∧ o'.Perm P ∧ M.Alike R o o' ∧ Feed n d' := by
  obtain ⟨k, d1, h1, h2, h3⟩ := draw_ok (many := 13) hf (by omega) (by omega)
  have hr := rng_nat (n := k) (by omega)
  have h1 : s_law_draw [d, .int 13] = some (.val (.int k), [d1]) := h1
  have hl := ho.length_eq
  have hP1 := W.pos
  have hP2 := W.le
  refine Ends.gen fun K hK => ?_
  rw [r_law_like, w_run]
  simp -implicitDefEqProofs [Option.bind_assoc]
  refine ends_for [.mp d1, .sh (wb P R), .sh (ps o), .sh (.int 12), .ow (.list []), .no, .no] (fun i : Nat => .int (i : Int)) (List.range k) (fun i ρ => ∃ (o' : List Str) (d' : D) (path : List D) (s5 s6 : Z.Slot),
    ρ = [.mp d', .sh (wb P R), .sh (ps o'), .sh (.int 12), .ow (.list path), s5, s6] ∧ o'.Perm P ∧ M.Alike R o o' ∧ Feed (n + (13 - i)) d' ∧ path.length ≤ i ∧ Fre s5 ∧ Fre s6) ?_ ?_ ?_ ?_
  · simp -implicitDefEqProofs [h1, hr]
  · exact ⟨o, d1, [], .no, .no, rfl, ho, M.Alike.refl _ _, h3, by simp, fr_no, fr_no⟩
  · rintro i x ρ hx ⟨o', d', path, s5, s6, rfl, hp, hal, hd, hpl, f5, f6⟩ K hK _
    have hi : i < k := by have := (List.getElem?_eq_some_iff.mp hx).1; simpa using this
    have sw := swaps_ok W hm hp
    have hl' := hp.length_eq
    have shf : SeqAt.shaped (.list ((fr R o').map fun i : Nat => (.int (i : Int) : D))) = true := (Sh.lstM (k := 0) fun x _ => Sh.int).ok (by omega)
    have ne : dNe (.list ((fr R o').map fun i : Nat => (.int (i : Int) : D))) (.list []) = some (.val (.bool (!decide (fr R o' = [])))) := ne_lst inj_nat (ys := []) shf (by decide)
    by_cases c : fr R o' = []
    · rw [c] at ne sw
      simp only [List.map_nil, decide_true, Bool.not_true] at ne sw
      simp -implicitDefEqProofs [put_fr f5, put_fr f6, sw, ne, Option.bind_assoc]
      refine hK _ ⟨o', d', path, _, _, rfl, hp, hal, hd.mono (by omega), by omega, ?_, ?_⟩
      · exact fr_sh
      · exact fr_ow
    · obtain ⟨y, hy, d2, e1, e2⟩ := one_ok (n := n + (13 - (i + 1))) (fun i : Nat => (.int (i : Int) : D)) (xs := fr R o') (hd.mono (by omega)) (List.length_pos_iff.mpr c) (by have := fr_len (R := R) o'; omega)
      have hy1 := fr_lt hy
      have s := swapped_ok hy1 (by omega)
      have pl : path.length < 100000 := by omega
      simp -implicitDefEqProofs [put_fr f5, put_fr f6, sw, ne, c, e1, pl, ix_last, s, Option.bind_assoc]
      refine hK _ ⟨T.sw o' y, d2, _, _, _, rfl, ?_, hal.trans (sw_alike (hp.nodup_iff.mpr W.nd) (fun r hr => (W.ok r hr).2.2) hy), e2, by simp; omega, ?_, ?_⟩
      · obtain ⟨p, a, b, q, e, hpn, _, _⟩ := at_split hy1
        rw [← hpn, e, sw_eq]
        rw [e] at hp
        exact (List.Perm.append_left p (List.Perm.swap a b q)).trans hp
      · exact fr_sh
      · first
        | exact fr_sh
        | exact fr_ow
  · rintro ρ' ⟨o', d', path, s5, s6, rfl, hp, hal, hd, hpl, f5, f6⟩
    simp -implicitDefEqProofs [nd_ps]
    exact hK _ ⟨_, o', d', rfl, hp, hal, hd.mono (by omega)⟩
end
end T
end

section
open PySem Z L2 M
set_option Elab.async false
set_option linter.all false
set_option maxRecDepth 100000
set_option maxHeartbeats 1000000
namespace T
section
variable {m : Nat} {P : List Str} {R : List (Str × Str)}
theorem sw_perm {o : List Str} {i : Nat} (h : i + 1 < o.length) : (sw o i).Perm o := by
  obtain ⟨p, a, b, q, e, hpn, _, _⟩ := at_split h
  have : sw o i = p ++ b :: a :: q := by rw [← hpn, e, sw_eq]
  rw [this, e]
  exact List.Perm.append_left p (List.Perm.swap a b q)
theorem ext_len {got : List (List Str)} {k : Nat} (h : got.length ≤ 5 ^ k) (hP : P.length ≤ 5) : (exts P got).length ≤ 5 ^ (k + 1) := by
  have h1 := len_exts P got
  have h2 : got.length * P.length ≤ 5 ^ k * 5 := Nat.mul_le_mul h hP
  rw [Nat.pow_succ]
  omega
theorem allK_len (hP : P.length ≤ 5) : ∀ k, (M.allK P k).length ≤ 5 ^ k
  | 0 => by simp [M.allK]
  | k + 1 => ext_len (allK_len hP k) hP
theorem exts_take {got : List (List Str)} {j : Nat} {o : List Str} (h : got[j]? = some o) : exts P (got.take (j + 1)) = exts P (got.take j) ++ (P.filter fun x => !decide (x ∈ o)).map fun x => o ++ [x] := by
  unfold exts
  rw [List.take_add_one, h, List.flatMap_append]
  simp
theorem exts_take_le {got : List (List Str)} (j : Nat) : (exts P (got.take j)).length ≤ (exts P got).length := by
  unfold exts
  conv => rhs; rw [← List.take_append_drop j got, List.flatMap_append, List.length_append]
  omega
theorem orders_ok (W : Web 5 P R) : s_law_orders [wb P R] = some (.val (.list ((M.allK P P.length).map ps)), []) := by
  have hP1 := W.pos
  have hP2 := W.le
  have main : Ends (s_law_orders [wb P R]) fun z => z = (.val (.list ((M.allK P P.length).map ps)), []) := by
    refine Ends.gen fun K hK => ?_
    rw [r_law_orders, w_run]
    have e0 : (.tuple [] : D) = ps [] := rfl
    simp -implicitDefEqProofs [Option.bind_assoc, e0, nd_ps]
    refine ends_for [.sh (wb P R), .ow (.list [ps []]), .no, .no, .no, .no] .str P (fun i ρ => ∃ (s1 s2 s3 s4 : Z.Slot),
      ρ = [.sh (wb P R), s1, s2, s3, s4, .no] ∧ s1 = (if i = 0 then .ow (.list ((M.allK P i).map ps)) else .sh (.list ((M.allK P i).map ps))) ∧ Fre s2 ∧ Fre s3 ∧ Fre s4) ?_ ?_ ?_ ?_
    · simp -implicitDefEqProofs [ix0, it_ps]
    · exact ⟨_, _, _, _, rfl, rfl, fr_no, fr_no, fr_no⟩
    · rintro i x ρ hx ⟨s1, s2, s3, s4, rfl, hs1, f2, f3, f4⟩ K hK _
      have hi : i < P.length := (List.getElem?_eq_some_iff.mp hx).1
      have f1 : Fre s1 := by rw [hs1]; split; exact fr_ow; exact fr_sh
      have al := allK_len hP2 i
      have al1 := allK_len hP2 (i + 1)
      have p5 : 5 ^ (i + 1) ≤ 3125 := by
        have : 5 ^ (i + 1) ≤ 5 ^ 5 := Nat.pow_le_pow_right (by omega) (by omega)
        omega
      have v1 : ∀ (a b c d : Z.Slot), (mItems (mV 1)) [.sh (wb P R), s1, a, b, c, d] = some ((M.allK P i).map ps, [.sh (wb P R), .sh (.list ((M.allK P i).map ps)), a, b, c, d]) := fun a b c d => by
        rw [hs1]
        split <;> simp -implicitDefEqProofs []
      simp -implicitDefEqProofs [put_fr f2, put_fr f3, Option.bind_assoc]
      refine ends_for [.sh (wb P R), .sh (.list ((M.allK P i).map ps)), .sh (.str x), .ow (.list []), s4, .no] ps (M.allK P i) (fun j ρ => ∃ (s4 : Z.Slot),
        ρ = [.sh (wb P R), .sh (.list ((M.allK P i).map ps)), .sh (.str x), .ow (.list ((exts P ((M.allK P i).take j)).map ps)), s4, .no] ∧ Fre s4) (v1 _ _ _ _) ⟨_, rfl, f4⟩ ?_ ?_
      · rintro j o ρ ho ⟨s4, rfl, f4⟩ K hK _
        have hm := List.mem_of_getElem? ho
        obtain ⟨on, os, ol⟩ := mem_allK.mp hm
        have lc : ∀ (c : Z.Slot), mLc (mItems (mOp dIxX (mV 0) (mC (.int 0)))) (fName 5) (mTest (mOp (orG dNotIn (dInM true)) (mV 5) (mV 4))) (mOp dAdd (mV 4) (mTup (mCons (mV 5) mNil))) [5] [.sh (wb P R), .sh (.list ((M.allK P i).map ps)), .sh (.str x), c, .sh (ps o), .no] =
            some (.fr (.list (((P.filter fun x => !decide (x ∈ o)).map fun x => o ++ [x]).map ps)), [.sh (wb P R), .sh (.list ((M.allK P i).map ps)), .sh (.str x), c, .sh (ps o), .no]) := fun c => by
          rw [lc_run (ρ1 := [.sh (wb P R), .sh (.list ((M.allK P i).map ps)), .sh (.str x), c, .sh (ps o), .no]) .str P (fun x => if !decide (x ∈ o) then some (ps (o ++ [x])) else none)]
          · rw [filterMap_if (fun x => !decide (x ∈ o)) (fun x => ps (o ++ [x])), List.map_map]
            rfl
          · simp -implicitDefEqProofs [ix0, it_ps]
          · rfl
          · unfold big; omega
          · intro y hy
            have ni := notIn_tup inj_str (x := y) (xs := o) ((Sh.str (nm_ok y (W.nm y hy))).ok (by omega)) ((sh_ps fun z hz => W.nm z (os z hz)).ok (by omega))
            have ni : orG dNotIn (dInM true) (.str y) (ps o) = some (.val (.bool (!decide (y ∈ o)))) := ni
            by_cases hc : y ∈ o
            · rw [if_neg (by simp [hc])]
              refine ⟨[.sh (wb P R), .sh (.list ((M.allK P i).map ps)), .sh (.str x), c, .sh (ps o), .sh (.str y)], [.sh (wb P R), .sh (.list ((M.allK P i).map ps)), .sh (.str x), c, .sh (ps o), .sh (.str y)], rfl, ?_, rfl⟩
              simp -implicitDefEqProofs [ni, hc]
            · rw [if_pos (by simp [hc])]
              have ad : dAdd (ps o) (.tuple [.str y]) = some (.val (ps (o ++ [y]))) := by
                unfold ps
                rw [o_addT, if_pos (by simp [w_bigle]; omega)]
                simp
              refine ⟨[.sh (wb P R), .sh (.list ((M.allK P i).map ps)), .sh (.str x), c, .sh (ps o), .sh (.str y)], [.sh (wb P R), .sh (.list ((M.allK P i).map ps)), .sh (.str x), c, .sh (ps o), .sh (.str y)], [.sh (wb P R), .sh (.list ((M.allK P i).map ps)), .sh (.str x), c, .sh (ps o), .sh (.str y)], rfl, ?_, ?_, nd_ps, rfl⟩
              · simp -implicitDefEqProofs [ni, hc]
              · simp -implicitDefEqProofs [ad]
        have et := exts_take (P := P) ho
        have l0 := exts_take_le (P := P) (got := M.allK P i) (j + 1)
        have l1 : (exts P (M.allK P i)).length ≤ 5 ^ (i + 1) := al1
        rw [et, List.length_append] at l0
        have l2 : (exts P ((M.allK P i).take j)).length + ((P.filter fun x => !decide (x ∈ o)).map fun x => o ++ [x]).length < 100000 := by omega
        rw [List.length_map] at l2
        simp -implicitDefEqProofs [put_fr f4, lc, l2, Option.bind_assoc, nd_ps]
        refine hK _ ⟨.sh (ps o), ?_, fr_sh⟩
        rw [et]
        simp
      · rintro ρ' ⟨s4, rfl, f4⟩
        simp -implicitDefEqProofs [put_fr f1, Option.bind_assoc]
        refine hK _ ⟨_, _, _, _, rfl, ?_, fr_sh, fr_sh, f4⟩
        rw [if_neg (by omega)]
        rfl
    · rintro ρ' ⟨s1, s2, s3, s4, rfl, hs1, f2, f3, f4⟩
      rw [if_neg (by omega)] at hs1
      rw [hs1]
      simp -implicitDefEqProofs []
      exact hK _ rfl
  obtain ⟨z, e, rfl⟩ := main
  exact e
end
end T
end

section
open PySem Z L2 M
set_option Elab.async false
set_option linter.all false
set_option maxRecDepth 100000
set_option maxHeartbeats 1000000
namespace T
def isT : Option (Rs × List D) → Bool
  | some (.val (.bool true), []) => true
  | _ => false
theorem isT_ok {z : Option (Rs × List D)} (h : isT z = true) : z = some (.val (.bool true), []) := by
  unfold isT at h
  split at h
  · rfl
  · cases h
theorem name_ok : ∀ x ∈ NAMES, s_is_name [.str x] = some (.val (.bool true), []) := by
  have h : (NAMES.all fun x => isT (s_is_name [.str x])) = true := by
    rw [r_is_name]
    decide +kernel
  intro x hx
  exact isT_ok (List.all_eq_true.mp h x hx)
section
variable {m : Nat} {P : List Str} {R : List (Str × Str)}
theorem arrows_of_ok {o : List Str} (W : Web m P R) (hm : m ≤ 8) (ho : o.Perm P) : s_arrows_of [wb P R, ps o] = some (.val (rds (arr R o)), []) := by
  have hl := W.rl
  have hlo := ho.length_eq
  have hP2 := W.le
  have hn : o.Nodup := ho.nodup_iff.mpr W.nd
  have dk : mDc (mEnum (mCons (mV 1) mNil)) (fTup 2 (fCons (fName 3) (fCons (fName 4) fNil))) (fun ρ => some (true, ρ)) (mV 4) (mV 3) [3, 4] [.sh (wb P R), .sh (ps o), .no, .no, .no, .no, .no] = some (.fr (.dict (dkL 0 o)), [.sh (wb P R), .sh (ps o), .no, .no, .no, .no, .no]) := by
    rw [dc_dk (ρ1 := [.sh (wb P R), .sh (ps o), .no, .no, .no, .no, .no]) o]
    · have : enumO [ps o] = some (numL 0 o) := by rw [← num_is]; rfl
      simp -implicitDefEqProofs [this]
    · rfl
    · exact hn
    · unfold big; omega
    · intro k x
      refine ⟨[.sh (wb P R), .sh (ps o), .no, .sh (.int k), .sh (.str x), .no, .no], [.sh (wb P R), .sh (ps o), .no, .sh (.int k), .sh (.str x), .no, .no], [.sh (wb P R), .sh (ps o), .no, .sh (.int k), .sh (.str x), .no, .no], [.sh (wb P R), .sh (ps o), .no, .sh (.int k), .sh (.str x), .no, .no], rfl, rfl, rfl, rfl, rfl⟩
  have lc : mLc (mItems (mOp dIxX (mV 0) (mC (.int 1)))) (fTup 2 (fCons (fName 5) (fCons (fName 6) fNil))) (fun ρ => some (true, ρ)) (mIf (mTest (mOp dLt (mOp dIxX (mV 2) (mV 5)) (mOp dIxX (mV 2) (mV 6)))) (mTup (mCons (mV 5) (mCons (mV 6) mNil))) (mTup (mCons (mV 6) (mCons (mV 5) mNil)))) [5, 6] [.sh (wb P R), .sh (ps o), .ow (.dict (dkL 0 o)), .no, .no, .no, .no] =
      some (.fr (.list (R.map fun r => rd (if o.idxOf r.1 < o.idxOf r.2 then r else (r.2, r.1)))), [.sh (wb P R), .sh (ps o), .ow (.dict (dkL 0 o)), .no, .no, .no, .no]) := by
    rw [lc_map (ρ1 := [.sh (wb P R), .sh (ps o), .ow (.dict (dkL 0 o)), .no, .no, .no, .no]) rd R (fun r => rd (if o.idxOf r.1 < o.idxOf r.2 then r else (r.2, r.1)))]
    · simp -implicitDefEqProofs [ix1, it_rds]
    · rfl
    · unfold big; omega
    · intro r hr
      have a := ix_dk (l := o) (ho.mem_iff.mpr (W.ok r hr).1)
      have b := ix_dk (l := o) (ho.mem_iff.mpr (W.ok r hr).2.1)
      refine ⟨[.sh (wb P R), .sh (ps o), .ow (.dict (dkL 0 o)), .no, .no, .sh (.str r.1), .sh (.str r.2)], [.sh (wb P R), .sh (ps o), .ow (.dict (dkL 0 o)), .no, .no, .sh (.str r.1), .sh (.str r.2)], [.sh (wb P R), .sh (ps o), .ow (.dict (dkL 0 o)), .no, .no, .sh (.str r.1), .sh (.str r.2)], rfl, rfl, ?_, nd_rd, rfl⟩
      by_cases c : o.idxOf r.1 < o.idxOf r.2
      · simp -implicitDefEqProofs [a, b, c]
        rfl
      · simp -implicitDefEqProofs [a, b, c]
        rfl
  rw [r_arrows_of, w_run]
  simp -implicitDefEqProofs [dk, lc]
  simp -implicitDefEqProofs [rds, arr]
theorem row_ok {ds : List D} {a b : Int} : s_is_row_of [.tuple ds, .int a, .int b] = some (.val (.bool (decide (a ≤ ds.length ∧ (ds.length : Int) ≤ b))), []) := by
  rw [r_is_row_of, w_run]
  by_cases c : a ≤ ds.length
  · simp -implicitDefEqProofs [o_isiT, c]
  · simp -implicitDefEqProofs [o_isiT, c]
theorem unlike_ok {l : List Str} (h : l.Nodup) (hl : l.length < 60) : s_are_unlike [ps l] = some (.val (.bool true), []) := by
  have e : dLenSet (ps l) = some (.val (.int l.length)) := by unfold ps dLenSet; simp only [setLen_str h hl]
  rw [r_are_unlike, w_run]
  simp -implicitDefEqProofs [e, len_ps]
theorem unlike2_ok {L : List (List Str)} (h : L.Nodup) (hl : L.length < 60) : s_are_unlike [.list (L.map ps)] = some (.val (.bool true), []) := by
  have e : dLenSet (.list (L.map ps)) = some (.val (.int L.length)) := by unfold dLenSet; simp only [setLen_ps h hl]
  rw [r_are_unlike, w_run]
  simp -implicitDefEqProofs [e]
theorem places_ok {l : List Str} (W : Web m P R) (hm : m ≤ 8) (h : ∀ x ∈ l, x ∈ P) (hn : l.Nodup) : s_are_places [ps P, ps l] = some (.val (.bool true), []) := by
  have hl : l.length ≤ P.length := hn.length_le_of_subset h
  have hP2 := W.le
  have u := unlike_ok hn (by omega)
  have lc : mLc (mItems (mV 1)) (fName 2) (fun ρ => some (true, ρ)) (mAndV (mUn (dIsi "str") (mV 2)) (mOp (orG dIn (dInM false)) (mV 2) (mV 0))) [2] [.sh (ps P), .sh (ps l), .no] = some (.fr (.list (l.map fun x => .bool true)), [.sh (ps P), .sh (ps l), .no]) := by
    rw [lc_map (ρ1 := [.sh (ps P), .sh (ps l), .no]) .str l (fun x => .bool true)]
    · simp -implicitDefEqProofs [it_ps]
    · rfl
    · unfold big; omega
    · intro x hx
      have hp := h x hx
      have i : orG dIn (dInM false) (.str x) (ps P) = some (.val (.bool (decide (x ∈ P)))) := in_tup inj_str ((Sh.str (nm_ok x (W.nm x hp))).ok (by omega)) ((sh_ps W.nm).ok (by omega))
      refine ⟨[.sh (ps P), .sh (ps l), .sh (.str x)], [.sh (ps P), .sh (ps l), .sh (.str x)], [.sh (ps P), .sh (ps l), .sh (.str x)], rfl, rfl, ?_, rfl, rfl⟩
      simp -implicitDefEqProofs [o_isiS, i, hp]
  have al : dAll (.list (l.map fun x => (.bool true : D))) = some (.val (.bool true)) := by rw [o_all (fun _ => true)]; simp
  rw [r_are_places, w_run]
  simp -implicitDefEqProofs only [lc, al, u, x_seq, x_ret, x_andV, x_test, x_un, x_call, x_argV, x_args0, x_share, w_mV, w_st2, w_st0]
  simp -implicitDefEqProofs [lc, al, u]
theorem road_ok {r : Str × Str} (W : Web m P R) (hm : m ≤ 8) (hr : r ∈ R) : s_is_road [ps P, rd r] = some (.val (.bool true), []) := by
  have e : rd r = ps [r.1, r.2] := rfl
  obtain ⟨h1, h2, h3⟩ := W.ok r hr
  have p := places_ok W hm (l := [r.1, r.2]) (fun x hx => by
    simp only [List.mem_cons, List.not_mem_nil, or_false] at hx
    rcases hx with rfl | rfl
    · exact h1
    · exact h2) (by simp [h3])
  have ro : s_is_row_of [ps [r.1, r.2], .int 2, .int 2] = some (.val (.bool true), []) := row_ok (ds := [.str r.1, .str r.2]) (a := 2) (b := 2)
  rw [e, r_is_road, w_run]
  simp -implicitDefEqProofs [ro, p]
end
end T
end

section
open PySem Z L2 M
set_option Elab.async false
set_option linter.all false
set_option maxRecDepth 100000
set_option maxHeartbeats 1000000
namespace T
section
variable {m : Nat} {P : List Str} {R : List (Str × Str)}
/-- the two ends of a road, sorted -/
def srt (r : Str × Str) : List Str := if leD (.str r.1) (.str r.2) then [r.1, r.2] else [r.2, r.1]
theorem srt_ud {r s : Str × Str} (h : Ud r s) : srt r ≠ srt s := by
  obtain ⟨a, b⟩ := r
  obtain ⟨c, d⟩ := s
  unfold srt
  obtain ⟨h1, h2⟩ := h
  dsimp only at h2 ⊢
  intro e
  split at e <;> split at e <;> simp at e <;> obtain ⟨e1, e2⟩ := e <;> subst e1 <;> subst e2 <;> simp at h1 h2
theorem srt_nodup {R : List (Str × Str)} (h : R.Pairwise Ud) : (R.map srt).Nodup := by
  unfold List.Nodup
  rw [List.pairwise_map]
  exact h.imp srt_ud
theorem web_form_ok (W : Web m P R) (hm : m ≤ 8) : s_is_web_form [wb P R] = some (.val (.bool true), []) := by
  have hP1 := W.pos
  have hP2 := W.le
  have hR := W.rl
  have w1 : s_is_row_of [wb P R, .int 2, .int 2] = some (.val (.bool true), []) := row_ok (ds := [ps P, rds R]) (a := 2) (b := 2)
  have w2 : s_is_row_of [ps P, .int 1, .int 8] = some (.val (.bool true), []) := by
    have := row_ok (ds := P.map .str) (a := 1) (b := 8)
    rw [decide_eq_true (by rw [List.length_map]; omega)] at this
    exact this
  have w3 : s_is_row_of [rds R, .int 0, .int 14] = some (.val (.bool true), []) := by
    have := row_ok (ds := R.map rd) (a := 0) (b := 14)
    rw [decide_eq_true (by rw [List.length_map]; omega)] at this
    exact this
  have u1 := unlike_ok W.nd (by omega)
  have u2 := unlike2_ok (srt_nodup W.ud) (by simp; omega)
  have l1 : mLc (mItems (mV 1)) (fName 3) (fun ρ => some (true, ρ)) (mCall [false] s_is_name (mArgs [.val (mV 3)])) [3] [.sh (wb P R), .sh (ps P), .sh (rds R), .no, .no] = some (.fr (.list (P.map fun x => .bool true)), [.sh (wb P R), .sh (ps P), .sh (rds R), .no, .no]) := by
    rw [lc_map (ρ1 := [.sh (wb P R), .sh (ps P), .sh (rds R), .no, .no]) .str P (fun x => .bool true)]
    · simp -implicitDefEqProofs [it_ps]
    · rfl
    · unfold big; omega
    · intro x hx
      refine ⟨[.sh (wb P R), .sh (ps P), .sh (rds R), .sh (.str x), .no], [.sh (wb P R), .sh (ps P), .sh (rds R), .sh (.str x), .no], [.sh (wb P R), .sh (ps P), .sh (rds R), .sh (.str x), .no], rfl, rfl, ?_, rfl, rfl⟩
      simp -implicitDefEqProofs [name_ok x (W.nm x hx)]
  have l2 : mLc (mItems (mV 2)) (fName 4) (fun ρ => some (true, ρ)) (mCall [false, false] s_is_road (mArgs [.val (mV 1), .val (mV 4)])) [4] [.sh (wb P R), .sh (ps P), .sh (rds R), .no, .no] = some (.fr (.list (R.map fun x => .bool true)), [.sh (wb P R), .sh (ps P), .sh (rds R), .no, .no]) := by
    rw [lc_map (ρ1 := [.sh (wb P R), .sh (ps P), .sh (rds R), .no, .no]) rd R (fun x => .bool true)]
    · simp -implicitDefEqProofs [it_rds]
    · rfl
    · unfold big; omega
    · intro x hx
      refine ⟨[.sh (wb P R), .sh (ps P), .sh (rds R), .no, .sh (rd x)], [.sh (wb P R), .sh (ps P), .sh (rds R), .no, .sh (rd x)], [.sh (wb P R), .sh (ps P), .sh (rds R), .no, .sh (rd x)], rfl, rfl, ?_, rfl, rfl⟩
      simp -implicitDefEqProofs [road_ok W hm hx]
  have l3 : mLc (mItems (mV 2)) (fName 4) (fun ρ => some (true, ρ)) (mUn dTuple (mUn dSorted (mV 4))) [4] [.sh (wb P R), .sh (ps P), .sh (rds R), .no, .no] = some (.fr (.list ((R.map srt).map ps)), [.sh (wb P R), .sh (ps P), .sh (rds R), .no, .no]) := by
    rw [lc_map (ρ1 := [.sh (wb P R), .sh (ps P), .sh (rds R), .no, .no]) rd R (fun x => ps (srt x))]
    · rw [List.map_map]; rfl
    · simp -implicitDefEqProofs [it_rds]
    · rfl
    · unfold big; omega
    · intro x hx
      have s2 : dSorted (rd x) = some (.new (.list ((srt x).map .str))) := sorted2 x.1 x.2
      refine ⟨[.sh (wb P R), .sh (ps P), .sh (rds R), .no, .sh (rd x)], [.sh (wb P R), .sh (ps P), .sh (rds R), .no, .sh (rd x)], [.sh (wb P R), .sh (ps P), .sh (rds R), .no, .sh (rd x)], rfl, rfl, ?_, rfl, rfl⟩
      simp -implicitDefEqProofs [s2]
      rfl
  have a1 : dAll (.list (P.map fun x => (.bool true : D))) = some (.val (.bool true)) := by rw [o_all (fun _ => true)]; simp
  have a2 : dAll (.list (R.map fun x => (.bool true : D))) = some (.val (.bool true)) := by rw [o_all (fun _ => true)]; simp
  have wt : wb P R = .tuple [ps P, rds R] := rfl
  have asg : fTup 2 (fCons (fName 1) (fCons (fName 2) fNil)) (wb P R) [.sh (wb P R), .no, .no, .no, .no] = some [.sh (wb P R), .sh (ps P), .sh (rds R), .no, .no] := rfl
  have asg : fTup 2 (fCons (fName 1) (fCons (fName 2) fNil)) (wb P R) [.sh (wb P R), .no, .no, .no, .no] = some [.sh (wb P R), .sh (ps P), .sh (rds R), .no, .no] := rfl
  have u3 := u2
  rw [List.map_map] at u3
  rw [r_is_web_form, w_run]
  simp -implicitDefEqProofs [w1, ix0, w2, asg, Option.bind_assoc]
  simp -implicitDefEqProofs only [l1, l2, l3, w_lookF, Option.bind_some, a1, a2]
  simp -implicitDefEqProofs [l1, l2, l3, u1, u2, u3, w3, a1, a2, Option.bind_assoc]
theorem need_web_ok (W : Web m P R) (hm : m ≤ 8) : s_need_web [wb P R] = some (.val .none, []) := by
  rw [r_need_web, w_run]
  simp -implicitDefEqProofs [web_form_ok W hm]
theorem is_order_ok {o : List Str} (W : Web m P R) (hm : m ≤ 8) (ho : o.Perm P) : s_is_order [wb P R, ps o] = some (.val (.bool true), []) := by
  have hl := ho.length_eq
  have p := places_ok W hm (l := o) (fun x hx => ho.mem_iff.mp hx) (ho.nodup_iff.mpr W.nd)
  have w : s_is_row_of [ps o, .int P.length, .int P.length] = some (.val (.bool true), []) := by
    have := row_ok (ds := o.map .str) (a := P.length) (b := P.length)
    rw [decide_eq_true (by rw [List.length_map]; omega)] at this
    exact this
  rw [r_is_order, w_run]
  simp -implicitDefEqProofs [ix0, len_ps, w, p]
theorem need_order_ok {o : List Str} (W : Web m P R) (hm : m ≤ 8) (ho : o.Perm P) : s_need_order [wb P R, ps o] = some (.val .none, []) := by
  rw [r_need_order, w_run]
  simp -implicitDefEqProofs [is_order_ok W hm ho]
theorem need_two_ok {o x : List Str} (W : Web m P R) (hm : m ≤ 8) (ho : o.Perm P) (hx : x.Perm P) : s_need_two_orders [wb P R, ps o, ps x] = some (.val .none, []) := by
  rw [r_need_two_orders, w_run]
  simp -implicitDefEqProofs [need_web_ok W hm, need_order_ok W hm ho, need_order_ok W hm hx]
theorem arr_nm {o : List Str} (W : Web m P R) : ∀ r ∈ arr R o, r.1 ∈ NAMES ∧ r.2 ∈ NAMES := by
  intro r hr
  unfold arr at hr
  obtain ⟨q, hq, rfl⟩ := List.mem_map.mp hr
  have := W.rn q hq
  split
  · exact this
  · exact ⟨this.2, this.1⟩
theorem eq_arr {o x : List Str} (W : Web m P R) : dEq (rds (arr R o)) (rds (arr R x)) = some (.val (.bool (decide (arr R o = arr R x)))) :=
  eq_tup inj_rd ((sh_rds (arr_nm W)).ok (by omega)) ((sh_rds (arr_nm W)).ok (by omega))
theorem alike_ok {o x : List Str} (W : Web m P R) (hm : m ≤ 8) (ho : o.Perm P) (hx : x.Perm P) : s_are_alike [wb P R, ps o, ps x] = some (.val (.bool (decide (arr R o = arr R x))), []) := by
  rw [r_are_alike, w_run]
  simp -implicitDefEqProofs [need_two_ok W hm ho hx, arrows_of_ok W hm ho, arrows_of_ok W hm hx, eq_arr W]
end
end T
end

section
open PySem Z L2 M
set_option Elab.async false
set_option linter.all false
set_option maxRecDepth 100000
set_option maxHeartbeats 1000000
namespace T
/-- roads, some of them turned about -/
inductive Fl : List (Str × Str) → List (Str × Str) → Prop
  | nil : Fl [] []
  | snoc {L Q : List (Str × Str)} {l q : Str × Str} : Fl L Q → (q = l ∨ q = (l.2, l.1)) → Fl (L ++ [l]) (Q ++ [q])
theorem Fl.len {L Q : List (Str × Str)} (h : Fl L Q) : Q.length = L.length := by
  induction h with
  | nil => rfl
  | snoc _ _ ih => simp [ih]
theorem Fl.mem {L Q : List (Str × Str)} (h : Fl L Q) : ∀ q ∈ Q, ∃ l ∈ L, q = l ∨ q = (l.2, l.1) := by
  induction h with
  | nil => intro q hq; cases hq
  | snoc _ e ih =>
    intro q hq
    rcases List.mem_append.mp hq with a | a
    · obtain ⟨l, h1, h2⟩ := ih q a
      exact ⟨l, by simp [h1], h2⟩
    · rw [List.mem_singleton] at a; subst a
      exact ⟨_, by simp, e⟩
theorem Ud.flip {r s r' s' : Str × Str} (h : Ud r s) (hr : r' = r ∨ r' = (r.2, r.1)) (hs : s' = s ∨ s' = (s.2, s.1)) : Ud r' s' := by
  obtain ⟨a, b⟩ := r
  obtain ⟨c, d⟩ := s
  unfold Ud at h ⊢
  rcases hr with rfl | rfl <;> rcases hs with rfl | rfl <;> simp only [ne_eq, Prod.mk.injEq, not_and] at h ⊢ <;> constructor <;> intro x y <;> simp_all
theorem Ud.symm {r s : Str × Str} (h : Ud r s) : Ud s r := by
  unfold Ud at h ⊢
  refine ⟨Ne.symm h.1, fun e => h.2 ?_⟩
  rw [e]
theorem Fl.ud {L Q : List (Str × Str)} (h : Fl L Q) (hl : L.Pairwise Ud) : Q.Pairwise Ud := by
  induction h with
  | nil => exact .nil
  | snoc f e ih =>
    rw [List.pairwise_append] at hl ⊢
    obtain ⟨h1, _, h3⟩ := hl
    refine ⟨ih h1, by simp, fun a ha b hb => ?_⟩
    rw [List.mem_singleton] at hb; subst hb
    obtain ⟨l, hl, e'⟩ := f.mem a ha
    exact (h3 l hl _ (by simp)).flip e' e
theorem web_of {most : Nat} {N P : List Str} {L Q : List (Str × Str)} (hn : N.Nodup) (h1 : 1 ≤ N.length) (hm : N.length ≤ most) (hN : ∀ x ∈ N, x ∈ NAMES) (hL : L.length ≤ 14) (ho : ∀ l ∈ L, l.1 ∈ N ∧ l.2 ∈ N ∧ l.1 ≠ l.2) (hu : L.Pairwise Ud) (hf : Fl L Q) (hp : P.Perm N) : Web most P Q where
  nd := hp.nodup_iff.mpr hn
  pos := by rw [hp.length_eq]; exact h1
  le := by rw [hp.length_eq]; exact hm
  nm := fun x hx => hN x (hp.mem_iff.mp hx)
  rl := by rw [hf.len]; exact hL
  ok := fun q hq => by
    obtain ⟨l, hl, e⟩ := hf.mem q hq
    obtain ⟨a, b, c⟩ := ho l hl
    rw [hp.mem_iff, hp.mem_iff]
    rcases e with rfl | rfl
    · exact ⟨a, b, c⟩
    · exact ⟨b, a, Ne.symm c⟩
  ud := hf.ud hu
/-- two names by their indexes -/
def nm (N : List Str) (p : Nat × Nat) : Str × Str := (N.getD p.1 "", N.getD p.2 "")
theorem nm_inj {N : List Str} (hn : N.Nodup) {i j : Nat} (hi : i < N.length) (hj : j < N.length) (h : N.getD i "" = N.getD j "") : i = j := by
  rw [List.getD_eq_getElem?_getD, List.getD_eq_getElem?_getD, List.getElem?_eq_getElem hi, List.getElem?_eq_getElem hj] at h
  have a := hn.idxOf_getElem i hi
  have b := hn.idxOf_getElem j hj
  simp only [Option.getD_some] at h
  rw [← a, ← b, h]
theorem nm_mem {N : List Str} {i : Nat} (hi : i < N.length) : N.getD i "" ∈ N := by
  rw [List.getD_eq_getElem?_getD, List.getElem?_eq_getElem hi]
  exact List.getElem_mem hi
theorem nm_ud {N : List Str} (hn : N.Nodup) {p q : Nat × Nat} (hp : p.1 < N.length ∧ p.2 < N.length) (hq : q.1 < N.length ∧ q.2 < N.length) (h : p ≠ q) (h2 : p ≠ (q.2, q.1)) : Ud (nm N p) (nm N q) := by
  constructor
  · intro e
    apply h
    have e1 := nm_inj hn hp.1 hq.1 (congrArg Prod.fst e)
    have e2 := nm_inj hn hp.2 hq.2 (congrArg Prod.snd e)
    exact Prod.ext e1 e2
  · intro e
    apply h2
    have e1 := nm_inj hn hp.1 hq.2 (congrArg Prod.fst e)
    have e2 := nm_inj hn hp.2 hq.1 (congrArg Prod.snd e)
    exact Prod.ext e1 e2
theorem ix_nm {N : List Str} {i : Nat} (h : i < N.length) : dIxX (.list (N.map .str)) (.int (i : Int)) = some (.val (.str (N.getD i ""))) := o_ixL (by
  rw [List.getElem?_map, List.getD_eq_getElem?_getD, List.getElem?_eq_getElem h]; rfl)
/-- all pairs of indexes, the greater one ahead -/
def allP (k : Nat) : List (Nat × Nat) := (List.range k).flatMap fun a => (List.range a).map fun t => (a, t)
theorem allP_succ (k : Nat) : allP (k + 1) = allP k ++ (List.range k).map fun t => (k, t) := by
  unfold allP
  rw [List.range_succ, List.flatMap_append]
  simp
theorem allP_mem {k : Nat} {p : Nat × Nat} (h : p ∈ allP k) : p.2 < p.1 ∧ p.1 < k := by
  unfold allP at h
  simp only [List.mem_flatMap, List.mem_range, List.mem_map] at h
  obtain ⟨a, ha, t, ht, rfl⟩ := h
  exact ⟨ht, ha⟩
theorem allP_nodup : ∀ k, (allP k).Nodup
  | 0 => by simp [allP]
  | k + 1 => by
    rw [allP_succ, List.nodup_append]
    refine ⟨allP_nodup k, nodup_map (fun x y e => congrArg Prod.snd e) List.nodup_range, fun p hp q hq e => ?_⟩
    have := allP_mem hp
    simp only [List.mem_map] at hq
    obtain ⟨t, _, rfl⟩ := hq
    subst e
    exact absurd this.2 (by simp)
theorem allP_len : ∀ k, (allP k).length ≤ k * k
  | 0 => by simp [allP]
  | k + 1 => by
    have := allP_len k
    rw [allP_succ, List.length_append, List.length_map, List.length_range, Nat.add_mul, Nat.mul_add]
    omega
theorem pair_ud {N : List Str} (hn : N.Nodup) {L : List (Nat × Nat)} (h : ∀ p ∈ L, p.1 < N.length ∧ p.2 < N.length) (hw : (∀ p ∈ L, p.1 < p.2) ∨ ∀ p ∈ L, p.2 < p.1) (hd : L.Nodup) : (L.map (nm N)).Pairwise Ud := by
  rw [List.pairwise_map]
  have : L.Pairwise fun p q => p ∈ L ∧ q ∈ L ∧ p ≠ q := by
    rw [List.pairwise_iff_forall_sublist]
    intro a b hs
    have hm := hs.subset
    have := (List.pairwise_iff_forall_sublist.mp hd) hs
    exact ⟨hm (by simp), hm (by simp), this⟩
  refine this.imp fun ⟨hp, hq, hne⟩ => nm_ud hn (h _ hp) (h _ hq) hne fun e => ?_
  rcases hw with hw | hw
  · have a := hw _ hp
    have b := hw _ hq
    rw [e] at a
    simp at a
    omega
  · have a := hw _ hp
    have b := hw _ hq
    rw [e] at a
    simp at a
    omega
theorem wide_ok {n most : Nat} {d : D} (hm : 1 ≤ most) (hm8 : most ≤ 8) (hf : Feed (n + 200) d) :
    Ends (s_law_wide_web [d, .int (most : Int)]) fun z => ∃ (P : List Str) (R : List (Str × Str)) (d' : D), z = (.val (wb P R), [d']) ∧ Web most P R ∧ Feed n d' := by
  obtain ⟨r, d1, h1, h2, h3⟩ := draw_ok hf (show 0 < most by omega) (by omega)
  obtain ⟨N, d2, e1, e2, e3, e4, e5⟩ := names_ok (n := n + 180) (d := d1) (many := 1 + r) (h3.mono (by omega)) (by omega)
  have c1 : ((1 + r : Nat) : Int) = 1 + (r : Int) := by omega
  have cr := rng_nat (n := 1 + r) (by omega)
  rw [c1] at e1 cr
  have al := allP_len (1 + r)
  have al2 : (1 + r) * (1 + r) ≤ 8 * 8 := Nat.mul_le_mul (by omega) (by omega)
  refine Ends.gen fun K hK => ?_
  rw [r_law_wide_web, w_run]
  simp -implicitDefEqProofs [h1, e1, Option.bind_assoc]
  refine ends_for [.mp d2, .sh (.int most), .sh (.int (1 + (r : Int))), .ow (.list []), .ow (.list (N.map .str)), .no, .no, .no, .no, .no] (fun i : Nat => .int (i : Int)) (List.range (1 + r)) (fun i ρ => ∃ (s5 : Z.Slot),
    ρ = [.mp d2, .sh (.int most), .sh (.int (1 + (r : Int))), .ow (.list ((allP i).map fun p => rd (nm N p))), .ow (.list (N.map .str)), s5, .no, .no, .no, .no] ∧ Fre s5) ?_ ?_ ?_ ?_
  · simp -implicitDefEqProofs [cr]
  · exact ⟨_, rfl, fr_no⟩
  · rintro i x ρ hx ⟨s5, rfl, f5⟩ K hK _
    have hi : i < 1 + r ∧ x = i := by
      obtain ⟨a, b⟩ := List.getElem?_eq_some_iff.mp hx
      rw [List.length_range] at a
      rw [List.getElem_range] at b
      exact ⟨a, b.symm⟩
    obtain ⟨hi, rfl⟩ := hi
    have cx := rng_nat (n := x) (by omega)
    have ix := ix_nm (N := N) (i := x) (by omega)
    have lc : mLc (mRange1 (mCons (mV 5) mNil)) (fName 7) (fun ρ => some (true, ρ)) (mTup (mCons (mOp dIxX (mV 4) (mV 5)) (mCons (mOp dIxX (mV 4) (mV 7)) mNil))) [7] [.mp d2, .sh (.int most), .sh (.int (1 + (r : Int))), .ow (.list ((allP x).map fun p => rd (nm N p))), .ow (.list (N.map .str)), .sh (.int (x : Int)), .no, .no, .no, .no] =
        some (.fr (.list ((List.range x).map fun t => rd (nm N (x, t)))), [.mp d2, .sh (.int most), .sh (.int (1 + (r : Int))), .ow (.list ((allP x).map fun p => rd (nm N p))), .ow (.list (N.map .str)), .sh (.int (x : Int)), .no, .no, .no, .no]) := by
      rw [lc_map (ρ1 := [.mp d2, .sh (.int most), .sh (.int (1 + (r : Int))), .ow (.list ((allP x).map fun p => rd (nm N p))), .ow (.list (N.map .str)), .sh (.int (x : Int)), .no, .no, .no, .no]) (fun i : Nat => .int (i : Int)) (List.range x) (fun t => rd (nm N (x, t)))]
      · simp -implicitDefEqProofs [cx]
      · rfl
      · unfold big; rw [List.length_range]; omega
      · intro t ht
        rw [List.mem_range] at ht
        have it := ix_nm (N := N) (i := t) (by omega)
        refine ⟨[.mp d2, .sh (.int most), .sh (.int (1 + (r : Int))), .ow (.list ((allP x).map fun p => rd (nm N p))), .ow (.list (N.map .str)), .sh (.int (x : Int)), .no, .sh (.int (t : Int)), .no, .no], [.mp d2, .sh (.int most), .sh (.int (1 + (r : Int))), .ow (.list ((allP x).map fun p => rd (nm N p))), .ow (.list (N.map .str)), .sh (.int (x : Int)), .no, .sh (.int (t : Int)), .no, .no], [.mp d2, .sh (.int most), .sh (.int (1 + (r : Int))), .ow (.list ((allP x).map fun p => rd (nm N p))), .ow (.list (N.map .str)), .sh (.int (x : Int)), .no, .sh (.int (t : Int)), .no, .no], rfl, rfl, ?_, nd_rd, rfl⟩
        simp -implicitDefEqProofs [ix, it]
        rfl
    have ax := allP_len x
    have ax2 : x * x ≤ 8 * 8 := Nat.mul_le_mul (by omega) (by omega)
    have l2 : (allP x).length + x < 100000 := by omega
    simp -implicitDefEqProofs [put_fr f5, lc, l2, Option.bind_assoc]
    refine hK _ ⟨.sh (.int (x : Int)), ?_, fr_sh⟩
    rw [allP_succ]
    simp
  · rintro ρ' ⟨s5, rfl, f5⟩
    rw [List.length_range]
    obtain ⟨L, d3, p1, p2, p3⟩ := mixed_ok (n := n + 100) (d := d2) (t := .list ((allP (1 + r)).map fun p => rd (nm N p))) (fun p => rd (nm N p)) (fun _ => nd_rd) (xs := allP (1 + r)) (.inl rfl) (e5.mono (by omega)) (by omega)
    obtain ⟨k, d4, q1, q2, q3⟩ := draw_ok (n := n + 99) (d := d3) (many := min 14 (allP (1 + r)).length + 1) p3 (by omega) (by omega)
    have c2 : ((min 14 (allP (1 + r)).length + 1 : Nat) : Int) = min 14 ((allP (1 + r)).length : Int) + 1 := by omega
    rw [c2] at q1
    have cu : ∀ xs : List D, cutD xs none (some (k : Int)) = xs.take k := fun xs => cut_take k
    have ltk : (L.map fun p => rd (nm N p)).take k = (L.take k).map fun p => rd (nm N p) := by rw [List.map_take]
    simp -implicitDefEqProofs [p2, q1, cu, Option.bind_assoc]
    rw [← List.map_take]
    have lk : (L.take k).length ≤ 14 := by rw [List.length_take]; omega
    refine ends_lc [.mp d4, .sh (.int most), .sh (.int (1 + (r : Int))), .sh (.list ((allP (1 + r)).map fun p => rd (nm N p))), .ow (.list (N.map .str)), s5, .no, .no, .no, .no] (fun p => rd (nm N p)) (L.take k) (fun i acc ρ => ∃ (Q : List (Str × Str)) (d' : D) (s8 s9 : Z.Slot),
      acc = Q.map rd ∧ Fl (((L.take k).take i).map (nm N)) Q ∧ ρ = [.mp d', .sh (.int most), .sh (.int (1 + (r : Int))), .sh (.list ((allP (1 + r)).map fun p => rd (nm N p))), .ow (.list (N.map .str)), s5, .no, .no, s8, s9] ∧ Feed (n + 30 + (14 - i)) d') ?_ ?_ ?_ ?_ ?_ ?_
    · simp -implicitDefEqProofs []
    · rfl
    · exact ⟨[], d4, _, _, rfl, .nil, rfl, q3.mono (by omega)⟩
    · rintro i acc ρ hi ⟨Q, d', s8, s9, rfl, fl, _, _⟩
      have := fl.len
      rw [List.length_map, List.length_take] at this
      rw [List.length_map]; unfold big; omega
    · rintro i p acc ρ hx ⟨Q, d', s8, s9, rfl, fl, rfl, fd⟩ K K' hK _
      have hi := (List.getElem?_eq_some_iff.mp hx).1
      obtain ⟨c, d5, g1, g2, g3⟩ := draw_ok (n := n + 30 + (14 - (i + 1))) (d := d') (many := 2) (fd.mono (by omega)) (by omega) (by omega)
      have g1 : s_law_draw [d', .int 2] = some (.val (.int c), [d5]) := g1
      have tk : ((L.take k).take (i + 1)).map (nm N) = ((L.take k).take i).map (nm N) ++ [nm N p] := by rw [List.take_add_one, hx]; simp
      have w : fTup 2 (fCons (fName 8) (fCons (fName 9) fNil)) (rd (nm N p)) (wipeR [8, 9] 0 [.mp d', .sh (.int most), .sh (.int (1 + (r : Int))), .sh (.list ((allP (1 + r)).map fun p => rd (nm N p))), .ow (.list (N.map .str)), s5, .no, .no, s8, s9]) =
        some [.mp d', .sh (.int most), .sh (.int (1 + (r : Int))), .sh (.list ((allP (1 + r)).map fun p => rd (nm N p))), .ow (.list (N.map .str)), s5, .no, .no, .sh (.str (nm N p).1), .sh (.str (nm N p).2)] := rfl
      rw [w]
      by_cases c0 : c = 0
      · subst c0
        have g1 : s_law_draw [d', .int 2] = some (.val (.int 0), [d5]) := g1
        simp -implicitDefEqProofs [g1, Option.bind_assoc]
        exact hK _ _ rfl ⟨Q ++ [((nm N p).2, (nm N p).1)], d5, .sh (.str (nm N p).1), .sh (.str (nm N p).2), by rw [List.map_append]; rfl, by rw [tk]; exact .snoc fl (.inr rfl), rfl, g3⟩
      · simp -implicitDefEqProofs [g1, c0, Option.bind_assoc]
        exact hK _ _ rfl ⟨Q ++ [nm N p], d5, .sh (.str (nm N p).1), .sh (.str (nm N p).2), by rw [List.map_append]; rfl, by rw [tk]; exact .snoc fl (.inl rfl), rfl, g3⟩
    · rintro acc ρ' ⟨Q, d', s8, s9, rfl, fl, rfl, fd⟩
      rw [List.take_length] at fl
      obtain ⟨P, d6, t1, t2, t3⟩ := mixed_ok (n := n + 10) (d := d') (t := .list (N.map .str)) .str (fun _ => rfl) (xs := N) (.inl rfl) (fd.mono (by omega)) (by omega)
      have bk : backR [8, 9] 0 [.mp d4, .sh (.int most), .sh (.int (1 + (r : Int))), .sh (.list ((allP (1 + r)).map fun p => rd (nm N p))), .ow (.list (N.map .str)), s5, .no, .no, .no, .no] (wipeR [8, 9] 0 [.mp d', .sh (.int most), .sh (.int (1 + (r : Int))), .sh (.list ((allP (1 + r)).map fun p => rd (nm N p))), .ow (.list (N.map .str)), s5, .no, .no, s8, s9]) =
        [.mp d', .sh (.int most), .sh (.int (1 + (r : Int))), .sh (.list ((allP (1 + r)).map fun p => rd (nm N p))), .ow (.list (N.map .str)), s5, .no, .no, .no, .no] := rfl
      rw [bk]
      simp -implicitDefEqProofs [lcHb, t2, Option.bind_assoc]
      refine hK _ ⟨P, Q, d6, rfl, ?_, t3.mono (by omega)⟩
      have mL : ∀ p ∈ L.take k, p.2 < p.1 ∧ p.1 < 1 + r := fun p hp => allP_mem (p1.mem_iff.mp (List.mem_of_mem_take hp))
      refine web_of e3 (by omega) (by omega) e4 (by rw [List.length_map]; exact lk) (fun l hl => ?_) (pair_ud e3 (fun p hp => ?_) (.inr fun p hp => (mL p hp).1) (((p1.nodup_iff.mpr (allP_nodup _))).sublist (List.take_sublist _ _))) fl t1
      · obtain ⟨p, hp, rfl⟩ := List.mem_map.mp hl
        have a := mL p hp
        refine ⟨nm_mem (by omega), nm_mem (by omega), fun e => ?_⟩
        have := nm_inj e3 (by omega) (by omega) e
        omega
      · have a := mL p hp
        omega
end T
end

section
open PySem Z L2 M
set_option Elab.async false
set_option linter.all false
set_option maxRecDepth 100000
set_option maxHeartbeats 1000000
namespace T
def pd (p : Nat × Nat) : D := .tuple [.int (p.1 : Int), .int (p.2 : Int)]
theorem inj_pd : Inj pd := fun x y => by
  obtain ⟨a, b⟩ := x
  obtain ⟨c, d⟩ := y
  show PyData.eqv (.tuple [.int (a : Int), .int (b : Int)]) (.tuple [.int (c : Int), .int (d : Int)]) = _
  have h1 := inj_nat a c
  have h2 := inj_nat b d
  simp only [PyData.eqv, PyData.eqvAll] at h1 h2 ⊢
  rw [h1, h2]
  by_cases a1 : a = c <;> by_cases a2 : b = d <;> simp [a1, a2]
theorem sh_pd {p : Nat × Nat} : Sh 1 (pd p) := Sh.tup (k := 0) fun d hd => by
  simp only [List.mem_cons, List.not_mem_nil, or_false] at hd
  rcases hd with rfl | rfl <;> exact Sh.int
theorem nd_pd {p : Nat × Nat} : isDict (pd p) = false := rfl
section
variable {n mn most sh : Nat} {way : Str}
theorem many_ok {d : D} {s3 s4 s5 s6 s7 s8 s9 s10 s11 s12 s13 : Z.Slot} (h3 : 3 ≤ most) (h8 : most ≤ 8) (hf : Feed (n + 1) d) : ∃ (mn : Nat) (d' : D), mIf (mTest (mOp dEq (mV 1) (mC (.str "ring")))) (mCBs (dII2 fMax) (mCons (mC (.int 3)) (mCons (mOp dAdd (mC (.int 1)) (mCall [true, false] s_law_draw (mArgs [.chg 0, .val (mV 2)]))) mNil))) (mOp dAdd (mC (.int 1)) (mCall [true, false] s_law_draw (mArgs [.chg 0, .val (mV 2)]))) [.mp d, .sh (.str way), .sh (.int (most : Int)), s3, s4, s5, s6, s7, s8, s9, s10, s11, s12, s13] =
    some (.sh (.int (mn : Int)), [.mp d', .sh (.str way), .sh (.int (most : Int)), s3, s4, s5, s6, s7, s8, s9, s10, s11, s12, s13]) ∧ 1 ≤ mn ∧ mn ≤ most ∧ (way = "ring" → 3 ≤ mn) ∧ Feed n d' := by
  obtain ⟨r, d1, e1, e2, e3⟩ := draw_ok hf (show 0 < most by omega) (by omega)
  by_cases hg : way = "ring"
  · have c : max 3 (1 + (r : Int)) = ((max 3 (1 + r) : Nat) : Int) := by omega
    refine ⟨max 3 (1 + r), d1, ?_, by omega, by omega, fun _ => by omega, e3⟩
    simp -implicitDefEqProofs [hg, e1, c]
  · have c : 1 + (r : Int) = ((1 + r : Nat) : Int) := by omega
    refine ⟨1 + r, d1, ?_, by omega, by omega, fun h => absurd h hg, e3⟩
    simp -implicitDefEqProofs [hg, e1]
theorem back_ok {d : D} {i : Nat} {s2 s3 s4 s7 s8 s9 s10 s11 s12 s13 : Z.Slot} (hi : 1 ≤ i) (hi2 : i ≤ 8) (hf : Feed (n + 1) d) : ∃ (b : Nat) (d' : D), mIf (mOrT (mTest (mOp dEq (mV 5) (mC (.int 0)))) (mTest (mOp dEq (mV 1) (mC (.str "ring"))))) (mOp dSub (mV 6) (mC (.int 1))) (mIf (mTest (mOp dEq (mV 5) (mC (.int 1)))) (mC (.int 0)) (mCall [true, false] s_law_draw (mArgs [.chg 0, .val (mV 6)]))) [.mp d, .sh (.str way), s2, s3, s4, .sh (.int (sh : Int)), .sh (.int (i : Int)), s7, s8, s9, s10, s11, s12, s13] =
    some (.sh (.int (b : Int)), [.mp d', .sh (.str way), s2, s3, s4, .sh (.int (sh : Int)), .sh (.int (i : Int)), s7, s8, s9, s10, s11, s12, s13]) ∧ b < i ∧ (way = "ring" → b + 1 = i) ∧ Feed n d' := by
  by_cases h0 : sh = 0 ∨ way = "ring"
  · have c : (i : Int) - 1 = ((i - 1 : Nat) : Int) := by omega
    refine ⟨i - 1, d, ?_, by omega, fun _ => by omega, hf.mono (by omega)⟩
    by_cases hs : sh = 0
    · simp -implicitDefEqProofs [hs, c]
    · have hg : way = "ring" := h0.resolve_left hs
      simp -implicitDefEqProofs [hs, hg, c]
  · have hs : ¬ sh = 0 := fun h => h0 (.inl h)
    have hg : ¬ way = "ring" := fun h => h0 (.inr h)
    by_cases h1 : sh = 1
    · refine ⟨0, d, ?_, by omega, fun h => absurd h hg, hf.mono (by omega)⟩
      simp -implicitDefEqProofs [hg, h1]
    · obtain ⟨r, d1, e1, e2, e3⟩ := draw_ok hf (show 0 < i by omega) (by omega)
      have h1' : ¬ (sh : Int) = 1 := by omega
      refine ⟨r, d1, ?_, e2, fun h => absurd h hg, e3⟩
      simp -implicitDefEqProofs [hs, hg, h1', e1]
theorem take_ok {d : D} {s2 s3 s4 s5 s6 s7 s8 s9 s10 s11 s12 s13 : Z.Slot} (hf : Feed (n + 1) d) : ∃ (c : Bool) (d' : D), mOrT (mTest (mOp dNe (mV 1) (mC (.str "any")))) (mTest (mOp dGt (mCall [true, false] s_law_draw (mArgs [.chg 0, .val (mC (.int 5))])) (mC (.int 0)))) [.mp d, .sh (.str way), s2, s3, s4, s5, s6, s7, s8, s9, s10, s11, s12, s13] =
    some (c, [.mp d', .sh (.str way), s2, s3, s4, s5, s6, s7, s8, s9, s10, s11, s12, s13]) ∧ Feed n d' := by
  by_cases ha : way = "any"
  · obtain ⟨r, d1, e1, e2, e3⟩ := draw_ok (many := 5) hf (by omega) (by omega)
    have e1 : s_law_draw [d, .int 5] = some (.val (.int r), [d1]) := e1
    refine ⟨decide (0 < (r : Int)), d1, ?_, e3⟩
    simp -implicitDefEqProofs [ha, e1]
  · refine ⟨true, d, ?_, hf.mono (by omega)⟩
    simp -implicitDefEqProofs [ha]
theorem turns_ok {d : D} {s2 s4 s5 s6 s7 s8 s9 s10 s11 s12 s13 : Z.Slot} (hs : PyData.strOk way = true) (hf : Feed (n + 1) d) : ∃ (t : Nat) (d' : D), mIf (mAndT (mTest (mOp (orG dIn (dInM false)) (mV 1) (mTup (mCons (mC (.str "whole")) (mCons (mC (.str "any")) mNil))))) (mTest (mOp dGt (mV 3) (mC (.int 2))))) (mCall [true, false] s_law_draw (mArgs [.chg 0, .val (mC (.int 5))])) (mC (.int 0)) [.mp d, .sh (.str way), s2, .sh (.int (mn : Int)), s4, s5, s6, s7, s8, s9, s10, s11, s12, s13] =
    some (.sh (.int (t : Int)), [.mp d', .sh (.str way), s2, .sh (.int (mn : Int)), s4, s5, s6, s7, s8, s9, s10, s11, s12, s13]) ∧ t < 5 ∧ (0 < t → 2 < mn) ∧ Feed n d' := by
  have i : orG dIn (dInM false) (.str way) (.tuple [.str "whole", .str "any"]) = some (.val (.bool (decide (way ∈ (["whole", "any"] : List Str))))) :=
    in_tup inj_str (xs := ["whole", "any"]) ((Sh.str hs).ok (by omega)) ((Sh.tupM (k := 0) (e := fun x : Str => (.str x : D)) (xs := ["whole", "any"]) fun x hx => Sh.str (by
      simp only [List.mem_cons, List.not_mem_nil, or_false] at hx
      rcases hx with rfl | rfl <;> decide +kernel)).ok (by omega))
  by_cases h : way ∈ (["whole", "any"] : List Str)
  · rw [decide_eq_true h] at i
    by_cases hm : 2 < mn
    · obtain ⟨r, d1, e1, e2, e3⟩ := draw_ok (many := 5) hf (by omega) (by omega)
      have e1 : s_law_draw [d, .int 5] = some (.val (.int r), [d1]) := e1
      have hm' : (2 : Int) < (mn : Int) := by omega
      refine ⟨r, d1, ?_, e2, fun _ => hm, e3⟩
      simp -implicitDefEqProofs [i, hm', e1]
    · have hm' : ¬ (2 : Int) < (mn : Int) := by omega
      refine ⟨0, d, ?_, by omega, fun h => absurd h (by omega), hf.mono (by omega)⟩
      simp -implicitDefEqProofs [i, hm']
  · rw [decide_eq_false h] at i
    refine ⟨0, d, ?_, by omega, fun h => absurd h (by omega), hf.mono (by omega)⟩
    simp -implicitDefEqProofs [i]
/-- pairs of indexes, unlike, the less one ahead -/
structure PF (k : Nat) (L : List (Nat × Nat)) : Prop where
  nd : L.Nodup
  lt : ∀ p ∈ L, p.1 < p.2 ∧ p.2 ≤ k
theorem PF.snoc {k : Nat} {L : List (Nat × Nat)} {p : Nat × Nat} (h : PF k L) (h1 : p ∉ L) (h2 : p.1 < p.2 ∧ p.2 ≤ k) : PF k (L ++ [p]) where
  nd := by
    rw [List.nodup_append]
    exact ⟨h.nd, by simp, fun a ha b hb e => by simp at hb; subst hb; subst e; exact h1 ha⟩
  lt := fun q hq => by
    rcases List.mem_append.mp hq with a | a
    · exact h.lt q a
    · rw [List.mem_singleton] at a; subst a; exact h2
theorem PF.mono {k l : Nat} {L : List (Nat × Nat)} (h : PF k L) (hl : k ≤ l) : PF l L := ⟨h.nd, fun p hp => ⟨(h.lt p hp).1, Nat.le_trans (h.lt p hp).2 hl⟩⟩
theorem ring_ok {d : D} {L : List (Nat × Nat)} {s2 s5 s6 s7 s8 s9 s10 s11 s12 s13 : Z.Slot} (h1 : 1 ≤ mn) (h8 : mn ≤ 8) (hg3 : way = "ring" → 3 ≤ mn) (hP : PF (mn - 1) L) (hl : L.length ≤ mn - 1) (hr : way = "ring" → ∀ p ∈ L, p.1 + 1 = p.2) :
    ∃ L2 : List (Nat × Nat), mIfS (mTest (mOp dEq (mV 1) (mC (.str "ring")))) (mSeq (mDrop (mMut isList 4 mtAppend (mCons (mTup (mCons (mC (.int 0)) (mCons (mOp dSub (mV 3) (mC (.int 1))) mNil))) mNil))) mSkip) mSkip [.mp d, .sh (.str way), s2, .sh (.int (mn : Int)), .ow (.list (L.map pd)), s5, s6, s7, s8, s9, s10, s11, s12, s13] =
      some (.nx [.mp d, .sh (.str way), s2, .sh (.int (mn : Int)), .ow (.list (L2.map pd)), s5, s6, s7, s8, s9, s10, s11, s12, s13]) ∧ PF (mn - 1) L2 ∧ L2.length ≤ mn := by
  by_cases hg : way = "ring"
  · have h3 := hg3 hg
    have c : (mn : Int) - 1 = ((mn - 1 : Nat) : Int) := by omega
    have l1 : L.length < 100000 := by omega
    refine ⟨L ++ [(0, mn - 1)], ?_, hP.snoc (fun m => ?_) ⟨by simp; omega, by simp⟩, by simp; omega⟩
    · simp -implicitDefEqProofs [hg, l1, c, pd]
    · have := hr hg _ m
      simp at this
      omega
  · refine ⟨L, ?_, hP, by omega⟩
    simp -implicitDefEqProofs [hg]
theorem web_ok {d : D} (h3 : 3 ≤ most) (h8 : most ≤ 8) (hs : PyData.strOk way = true) (hf : Feed (n + 200) d) :
    Ends (s_law_web [d, .str way, .int (most : Int)]) fun z => ∃ (P : List Str) (R : List (Str × Str)) (d' : D), z = (.val (wb P R), [d']) ∧ Web most P R ∧ Feed n d' := by
  obtain ⟨mn, d1, F1, m1, m2, m3, f1⟩ := many_ok (n := n + 199) (way := way) (s3 := .no) (s4 := .no) (s5 := .no) (s6 := .no) (s7 := .no) (s8 := .no) (s9 := .no) (s10 := .no) (s11 := .no) (s12 := .no) (s13 := .no) h3 h8 hf
  obtain ⟨sh, d2, g1, g2, g3⟩ := draw_ok (n := n + 198) (many := 3) f1 (by omega) (by omega)
  have g1 : s_law_draw [d1, .int 3] = some (.val (.int sh), [d2]) := g1
  have cr : rngO2 [.int 1, .int (mn : Int)] = some ((List.range (mn - 1)).map fun i : Nat => .int ((1 + i : Nat) : Int)) := rng_nat2 (m := 1) (n := mn) (by omega) (by omega)
  refine Ends.gen fun K hK => ?_
  rw [r_law_web, w_run]
  simp -implicitDefEqProofs [-x_if, -x_ifS, F1, g1, Option.bind_assoc]
  refine ends_for [.mp d2, .sh (.str way), .sh (.int most), .sh (.int mn), .ow (.list []), .sh (.int sh), .no, .no, .no, .no, .no, .no, .no, .no] (fun i : Nat => .int ((1 + i : Nat) : Int)) (List.range (mn - 1)) (fun i ρ => ∃ (L : List (Nat × Nat)) (d' : D) (s6 s7 : Z.Slot),
    ρ = [.mp d', .sh (.str way), .sh (.int most), .sh (.int mn), .ow (.list (L.map pd)), .sh (.int sh), s6, s7, .no, .no, .no, .no, .no, .no] ∧ PF i L ∧ L.length ≤ i ∧ (way = "ring" → ∀ p ∈ L, p.1 + 1 = p.2) ∧ Fre s6 ∧ Fre s7 ∧ Feed (n + 150 + 2 * (mn - 1 - i)) d') ?_ ?_ ?_ ?_
  · simp -implicitDefEqProofs [cr]
  · exact ⟨[], d2, _, _, rfl, ⟨by simp, by simp⟩, by simp, by simp, fr_no, fr_no, g3.mono (by omega)⟩
  · rintro i x ρ hx ⟨L, d', s6, s7, rfl, pf, hl, hr, f6, f7, fd⟩ K hK _
    have hi : i < mn - 1 ∧ x = i := by
      obtain ⟨a, b⟩ := List.getElem?_eq_some_iff.mp hx
      rw [List.length_range] at a
      rw [List.getElem_range] at b
      exact ⟨a, b.symm⟩
    obtain ⟨hi, rfl⟩ := hi
    obtain ⟨b, d3, F2, b1, b2, f2⟩ := back_ok (n := n + 150 + 2 * (mn - 1 - (x + 1)) + 1) (way := way) (sh := sh) (d := d') (i := 1 + x) (s2 := .sh (.int most)) (s3 := .sh (.int mn)) (s4 := .ow (.list (L.map pd))) (s7 := s7) (s8 := .no) (s9 := .no) (s10 := .no) (s11 := .no) (s12 := .no) (s13 := .no) (by omega) (by omega) (fd.mono (by omega))
    obtain ⟨c, d4, F3, f3⟩ := take_ok (n := n + 150 + 2 * (mn - 1 - (x + 1))) (way := way) (d := d3) (s2 := .sh (.int most)) (s3 := .sh (.int mn)) (s4 := .ow (.list (L.map pd))) (s5 := .sh (.int sh)) (s6 := .sh (.int ((1 + x : Nat) : Int))) (s7 := .sh (.int b)) (s8 := .no) (s9 := .no) (s10 := .no) (s11 := .no) (s12 := .no) (s13 := .no) f2
    have ce : ((1 + x : Nat) : Int) = 1 + (x : Int) := by omega
    rw [ce] at F2 F3
    have l1 : L.length < 100000 := by omega
    cases c with
    | false =>
      simp -implicitDefEqProofs [-x_if, -x_orT, put_fr f6, put_fr f7, F2, F3, Option.bind_assoc]
      exact hK _ ⟨L, d4, .sh (.int (1 + (x : Int))), .sh (.int b), rfl, pf.mono (by omega), by omega, hr, fr_sh, fr_sh, f3⟩
    | true =>
      simp -implicitDefEqProofs [-x_if, -x_orT, put_fr f6, put_fr f7, F2, F3, l1, Option.bind_assoc]
      refine hK _ ⟨L ++ [(b, 1 + x)], d4, .sh (.int (1 + (x : Int))), .sh (.int b), ?_, (pf.mono (by omega)).snoc (fun m => ?_) ⟨b1, by simp; omega⟩, by simp; omega, fun hg p hp => ?_, fr_sh, fr_sh, f3⟩
      · simp [pd, ce]
      · have := (pf.lt _ m).2
        simp at this
        omega
      · rcases List.mem_append.mp hp with a | a
        · exact hr hg p a
        · rw [List.mem_singleton] at a; subst a; exact b2 hg
  · rintro ρ' ⟨L, d', s6, s7, rfl, pf, hl, hr, f6, f7, fd⟩
    rw [List.length_range] at pf hl fd
    obtain ⟨L2, F4, pf2, l2⟩ := ring_ok (way := way) (d := d') (s2 := .sh (.int most)) (s5 := .sh (.int sh)) (s6 := s6) (s7 := s7) (s8 := .no) (s9 := .no) (s10 := .no) (s11 := .no) (s12 := .no) (s13 := .no) m1 (by omega) m3 pf hl hr
    obtain ⟨t, d5, F5, t1, t2, f5⟩ := turns_ok (n := n + 149) (way := way) (mn := mn) (d := d') (s2 := .sh (.int most)) (s4 := .ow (.list (L2.map pd))) (s5 := .sh (.int sh)) (s6 := s6) (s7 := s7) (s8 := .no) (s9 := .no) (s10 := .no) (s11 := .no) (s12 := .no) (s13 := .no) hs (fd.mono (by omega))
    have ct := rng_nat (n := t) (by omega)
    simp -implicitDefEqProofs [-x_ifS, F4, Option.bind_assoc]
    refine ends_for [.mp d5, .sh (.str way), .sh (.int most), .sh (.int mn), .ow (.list (L2.map pd)), .sh (.int sh), s6, s7, .no, .no, .no, .no, .no, .no] (fun i : Nat => .int (i : Int)) (List.range t) (fun i ρ => ∃ (L : List (Nat × Nat)) (d' : D) (s8 s9 s10 s11 : Z.Slot),
      ρ = [.mp d', .sh (.str way), .sh (.int most), .sh (.int mn), .ow (.list (L.map pd)), .sh (.int sh), s6, s7, s8, s9, s10, s11, .no, .no] ∧ PF (mn - 1) L ∧ L.length ≤ mn + i ∧ Fre s8 ∧ Fre s9 ∧ Fre s10 ∧ Fre s11 ∧ Feed (n + 130 + 2 * (5 - i)) d') ?_ ?_ ?_ ?_
    · simp -implicitDefEqProofs [-x_if, F5, ct]
    · exact ⟨L2, d5, _, _, _, _, rfl, pf2, by omega, fr_no, fr_no, fr_no, fr_no, f5.mono (by omega)⟩
    · rintro i x ρ hx ⟨L, d', s8, s9, s10, s11, rfl, pf, hl, f8, f9, f10, f11, fd⟩ K hK _
      have hi : i < t := by have := (List.getElem?_eq_some_iff.mp hx).1; simpa using this
      have hm2 := t2 (by omega)
      obtain ⟨a, d6, a1, a2, a3⟩ := draw_ok (n := n + 130 + 2 * (5 - (i + 1)) + 1) (d := d') (many := mn) (fd.mono (by omega)) (by omega) (by omega)
      obtain ⟨c, d7, b1, b2, b3⟩ := draw_ok (n := n + 130 + 2 * (5 - (i + 1))) (d := d6) (many := mn - 1) a3 (by omega) (by omega)
      have cm : ((mn - 1 : Nat) : Int) = (mn : Int) - 1 := by omega
      rw [cm] at b1
      obtain ⟨b, hb⟩ : ∃ b : Nat, b = (a + 1 + c) % mn := ⟨_, rfl⟩
      have eb : ((a : Int) + 1 + (c : Int)) % (mn : Int) = (b : Int) := by
        rw [hb, Int.natCast_emod]; simp
      have hb1 : b < mn := by rw [hb]; exact Nat.mod_lt _ (by omega)
      have hb2 : b ≠ a := by
        by_cases h : a + 1 + c < mn
        · rw [Nat.mod_eq_of_lt h] at hb; omega
        · have e := Nat.mod_eq_sub_mod (show mn ≤ a + 1 + c by omega)
          rw [e, Nat.mod_eq_of_lt (by omega)] at hb
          omega
      have hm0 : 0 < mn := by omega
      have e1 : min (a : Int) (b : Int) = ((min a b : Nat) : Int) := by omega
      have e2 : max (a : Int) (b : Int) = ((max a b : Nat) : Int) := by omega
      have ni : orG dNotIn (dInM true) (.tuple [.int ((min a b : Nat) : Int), .int ((max a b : Nat) : Int)]) (.list (L.map pd)) = some (.val (.bool (!decide ((min a b, max a b) ∈ L)))) :=
        notIn_lst inj_pd (x := (min a b, max a b)) (sh_pd.ok (by omega)) ((Sh.lstM fun p _ => sh_pd).ok (by omega))
      have l1 : L.length < 100000 := by omega
      rw [← e1, ← e2] at ni
      by_cases hc : (min a b, max a b) ∈ L
      · simp -implicitDefEqProofs [put_fr f8, put_fr f9, put_fr f10, put_fr f11, a1, b1, eb, hm0, ni, hc, Option.bind_assoc]
        exact hK _ ⟨L, d7, _, _, _, _, rfl, pf, by omega, fr_sh, fr_sh, fr_sh, fr_sh, b3⟩
      · simp -implicitDefEqProofs [put_fr f8, put_fr f9, put_fr f10, put_fr f11, a1, b1, eb, hm0, ni, hc, l1, Option.bind_assoc]
        refine hK _ ⟨L ++ [(min a b, max a b)], d7, .sh (.int (x : Int)), .sh (.int a), .sh (.int b), .sh (pd (min a b, max a b)), ?_, pf.snoc hc ⟨by simp; omega, by simp; omega⟩, by simp; omega, fr_sh, fr_sh, fr_sh, fr_sh, b3⟩
        simp [pd, e1, e2]
    · rintro ρ' ⟨L, d', s8, s9, s10, s11, rfl, pf, hl, f8, f9, f10, f11, fd⟩
      rw [List.length_range] at hl fd
      obtain ⟨N, d8, n1, n2, n3, n4, n5⟩ := names_ok (n := n + 110) (d := d') (many := mn) (fd.mono (by omega)) (by omega)
      obtain ⟨L3, d9, x1, x2, x3⟩ := mixed_ok (n := n + 90) (d := d8) (t := .list (L.map pd)) pd (fun _ => nd_pd) (xs := L) (.inl rfl) (n5.mono (by omega)) (by omega)
      have hl3 := x1.length_eq
      have pf3 : PF (mn - 1) L3 := ⟨x1.nodup_iff.mpr pf.nd, fun p hp => pf.lt p (x1.mem_iff.mp hp)⟩
      simp -implicitDefEqProofs [n1, Option.bind_assoc]
      refine ends_for [.mp d9, .sh (.str way), .sh (.int most), .sh (.int mn), .sh (.list (L.map pd)), .sh (.int sh), s6, s7, s8, s9, s10, s11, .ow (.list (N.map .str)), .ow (.list [])] pd L3 (fun i ρ => ∃ (Q : List (Str × Str)) (d' : D) (s9 s10 : Z.Slot),
        ρ = [.mp d', .sh (.str way), .sh (.int most), .sh (.int mn), .sh (.list (L.map pd)), .sh (.int sh), s6, s7, s8, s9, s10, s11, .ow (.list (N.map .str)), .ow (.list (Q.map rd))] ∧ Fl ((L3.take i).map (nm N)) Q ∧ Fre s9 ∧ Fre s10 ∧ Feed (n + 60 + (14 - i)) d') ?_ ?_ ?_ ?_
      · simp -implicitDefEqProofs [x2]
      · exact ⟨[], d9, _, _, rfl, .nil, f9, f10, x3.mono (by omega)⟩
      · rintro i p ρ hx ⟨Q, d', s9, s10, rfl, fl, f9, f10, fd⟩ K hK _
        have hi := (List.getElem?_eq_some_iff.mp hx).1
        have hp := pf3.lt p (List.mem_of_getElem? hx)
        have hq := fl.len
        rw [List.length_map, List.length_take] at hq
        obtain ⟨c, d10, g1, g2, g3⟩ := draw_ok (n := n + 60 + (14 - (i + 1))) (d := d') (many := 2) (fd.mono (by omega)) (by omega) (by omega)
        have g1 : s_law_draw [d', .int 2] = some (.val (.int c), [d10]) := g1
        have tk : (L3.take (i + 1)).map (nm N) = (L3.take i).map (nm N) ++ [nm N p] := by rw [List.take_add_one, hx]; simp
        have y1 := ix_nm (N := N) (i := p.1) (by omega)
        have y2 := ix_nm (N := N) (i := p.2) (by omega)
        have l1 : Q.length < 100000 := by omega
        by_cases c0 : c = 0
        · subst c0
          have g1 : s_law_draw [d', .int 2] = some (.val (.int 0), [d10]) := g1
          simp -implicitDefEqProofs [pd, put_fr f9, put_fr f10, g1, y1, y2, l1, Option.bind_assoc]
          refine hK _ ⟨Q ++ [nm N p], d10, .sh (.int p.1), .sh (.int p.2), ?_, by rw [tk]; exact .snoc fl (.inl rfl), fr_sh, fr_sh, g3⟩
          simp [rd, nm, pd]
        · simp -implicitDefEqProofs [pd, put_fr f9, put_fr f10, g1, c0, y1, y2, l1, Option.bind_assoc]
          refine hK _ ⟨Q ++ [((nm N p).2, (nm N p).1)], d10, .sh (.int p.1), .sh (.int p.2), ?_, by rw [tk]; exact .snoc fl (.inr rfl), fr_sh, fr_sh, g3⟩
          simp [rd, nm, pd]
      · rintro ρ' ⟨Q, d', s9, s10, rfl, fl, f9, f10, fd⟩
        rw [List.take_length] at fl
        obtain ⟨P, d11, z1, z2, z3⟩ := mixed_ok (n := n + 40) (d := d') (t := .list (N.map .str)) .str (fun _ => rfl) (xs := N) (.inl rfl) (fd.mono (by omega)) (by omega)
        simp -implicitDefEqProofs [z2, Option.bind_assoc]
        refine hK _ ⟨P, Q, d11, rfl, ?_, z3.mono (by omega)⟩
        refine web_of n3 (by omega) (by omega) n4 (by rw [List.length_map]; omega) (fun l hl => ?_) (pair_ud n3 (fun p hp => ?_) (.inl fun p hp => (pf3.lt p hp).1) pf3.nd) fl z1
        · obtain ⟨p, hp, rfl⟩ := List.mem_map.mp hl
          have a := pf3.lt p hp
          refine ⟨nm_mem (by omega), nm_mem (by omega), fun e => ?_⟩
          have := nm_inj n3 (by omega) (by omega) e
          omega
        · have a := pf3.lt p hp
          omega
end
end T
end

section
open PySem Z L2 M
set_option Elab.async false
set_option linter.all false
set_option maxRecDepth 100000
set_option maxHeartbeats 1000000
namespace T
theorem any_ok {n most : Nat} {d : D} (h3 : 3 ≤ most) (h8 : most ≤ 8) (hf : Feed (n + 300) d) :
    Ends (s_law_any_web [d, .int (most : Int)]) fun z => ∃ (P : List Str) (R : List (Str × Str)) (d' : D), z = (.val (wb P R), [d']) ∧ Web most P R ∧ Feed n d' := by
  obtain ⟨c, d1, g1, g2, g3⟩ := draw_ok (n := n + 299) (d := d) (many := 2) hf (by omega) (by omega)
  have g1 : s_law_draw [d, .int 2] = some (.val (.int c), [d1]) := g1
  refine Ends.gen fun K hK => ?_
  rw [r_law_any_web, w_run]
  by_cases c0 : c = 0
  · subst c0
    have g1 : s_law_draw [d, .int 2] = some (.val (.int 0), [d1]) := g1
    obtain ⟨z, e1, P, R, d2, rfl, W, f2⟩ := wide_ok (n := n) (d := d1) (most := most) (by omega) h8 (g3.mono (by omega))
    simp -implicitDefEqProofs [g1, e1, Option.bind_assoc]
    exact hK _ ⟨P, R, d2, rfl, W, f2⟩
  · obtain ⟨way, hw, d2, e1, f2⟩ := one_ok (n := n + 298) (d := d1) .str (xs := ["tree", "ring", "whole", "any"]) g3 (by simp) (by simp)
    have hs : PyData.strOk way = true := by
      simp only [List.mem_cons, List.not_mem_nil, or_false] at hw
      rcases hw with rfl | rfl | rfl | rfl <;> decide +kernel
    simp only [List.map_cons, List.map_nil] at e1
    obtain ⟨z, e2, P, R, d3, rfl, W, f3⟩ := web_ok (n := n) (d := d2) (most := most) (way := way) h3 h8 hs (f2.mono (by omega))
    simp -implicitDefEqProofs [g1, c0, e1, e2, Option.bind_assoc]
    exact hK _ ⟨P, R, d3, rfl, W, f3⟩
end T
end

section
open PySem Z L2 M
set_option Elab.async false
set_option linter.all false
set_option maxRecDepth 100000
set_option maxHeartbeats 1000000
namespace T
section
variable {m : Nat} {P : List Str} {R : List (Str × Str)}
theorem arrows_k (W : Web m P R) (hm : m ≤ 8) {o : List Str} (ho : o.Perm P) : s_arrows [wb P R, ps o] = some (.val (rds (arr R o)), []) := by
  rw [r_arrows, w_run]
  simp -implicitDefEqProofs [need_web_ok W hm, need_order_ok W hm ho, arrows_of_ok W hm ho]
/-- what is ahead of a place -/
def prd (A : List (Str × Str)) (x : Str) : List Str := (A.filter fun a => decide (a.2 = x)).map (·.1)
theorem fre_prd {A : List (Str × Str)} {g : List Str} {x : Str} : fre A g x = (!decide (x ∈ g) && (prd A x).all fun y => decide (y ∈ g)) := by
  unfold fre prd
  rw [List.all_map, List.all_filter]
  rfl
/-- arrows of a web -/
structure Arw (P : List Str) (A : List (Str × Str)) : Prop where
  len : A.length ≤ 14
  in1 : ∀ a ∈ A, a.1 ∈ P
  in2 : ∀ a ∈ A, a.2 ∈ P
theorem arw_of (W : Web m P R) {o : List Str} (ho : o.Perm P) : Arw P (arr R o) where
  len := by unfold arr; rw [List.length_map]; exact W.rl
  in1 := fun a ha => (arr_lt W.ok ho a ha).1
  in2 := fun a ha => (arr_lt W.ok ho a ha).2.1
theorem prd_in {A : List (Str × Str)} (h : Arw P A) {x y : Str} (hy : y ∈ prd A x) : y ∈ P := by
  unfold prd at hy
  obtain ⟨a, ha, rfl⟩ := List.mem_map.mp hy
  exact h.in1 a (List.mem_filter.mp ha).1
theorem prd_len {A : List (Str × Str)} (h : Arw P A) (x : Str) : (prd A x).length ≤ 14 := by
  unfold prd
  rw [List.length_map]
  exact Nat.le_trans (List.length_filter_le _ _) h.len
def ahd (P : List Str) (A : List (Str × Str)) : D := .dict (P.map fun p => ((.str p : D), ps (prd A p)))
theorem ahead_ok {A : List (Str × Str)} (W : Web m P R) (hm : m ≤ 8) (hA : Arw P A) : s_ahead_of [wb P R, rds A] = some (.new (ahd P A), []) := by
  have hP2 := W.le
  have hl := hA.len
  have dk : mDc (mItems (mOp dIxX (mV 0) (mC (.int 0)))) (fName 2) (fun ρ => some (true, ρ)) (mV 2) (mUn dTuple (mLcH 1 (mItems (mV 1)) (fTup 2 (fCons (fName 3) (fCons (fName 4) fNil))) (mTest (mOp dEq (mV 4) (mV 2))) (mV 3) [3, 4])) [2] [.sh (wb P R), .sh (rds A), .no, .no, .no] = some (.fr (ahd P A), [.sh (wb P R), .sh (rds A), .no, .no, .no]) := by
    rw [dc_run (ρ1 := [.sh (wb P R), .sh (rds A), .no, .no, .no]) .str (fun p => .str p) (fun p => ps (prd A p)) P]
    · rfl
    · simp -implicitDefEqProofs [ix0, it_ps]
    · rfl
    · unfold big; omega
    · have := W.nd
      unfold List.Nodup at this
      exact this.imp fun h => by rw [eqK_str]; exact decide_eq_false h
    · intro x _; exact ⟨rfl, rfl⟩
    · intro x hx
      have lc : mLc (mItems (mV 1)) (fTup 2 (fCons (fName 3) (fCons (fName 4) fNil))) (mTest (mOp dEq (mV 4) (mV 2))) (mV 3) [3, 4] [.sh (wb P R), .sh (rds A), .sh (.str x), .no, .no] = some (.fr (.list ((prd A x).map .str)), [.sh (wb P R), .sh (rds A), .sh (.str x), .no, .no]) := by
        rw [lc_run (ρ1 := [.sh (wb P R), .sh (rds A), .sh (.str x), .no, .no]) rd A (fun a => if decide (a.2 = x) then some (.str a.1) else none)]
        · rw [filterMap_if (fun a : Str × Str => decide (a.2 = x)) (fun a => (.str a.1 : D))]
          unfold prd
          rw [List.map_map]
          rfl
        · simp -implicitDefEqProofs [it_rds]
        · rfl
        · unfold big; omega
        · intro a ha
          by_cases c : a.2 = x
          · rw [if_pos (by simp [c])]
            refine ⟨[.sh (wb P R), .sh (rds A), .sh (.str x), .sh (.str a.1), .sh (.str a.2)], [.sh (wb P R), .sh (rds A), .sh (.str x), .sh (.str a.1), .sh (.str a.2)], [.sh (wb P R), .sh (rds A), .sh (.str x), .sh (.str a.1), .sh (.str a.2)], rfl, ?_, rfl, rfl, rfl⟩
            simp -implicitDefEqProofs [c]
          · rw [if_neg (by simp [c])]
            refine ⟨[.sh (wb P R), .sh (rds A), .sh (.str x), .sh (.str a.1), .sh (.str a.2)], [.sh (wb P R), .sh (rds A), .sh (.str x), .sh (.str a.1), .sh (.str a.2)], rfl, ?_, rfl⟩
            simp -implicitDefEqProofs [c]
      refine ⟨[.sh (wb P R), .sh (rds A), .sh (.str x), .no, .no], [.sh (wb P R), .sh (rds A), .sh (.str x), .no, .no], [.sh (wb P R), .sh (rds A), .sh (.str x), .no, .no], [.sh (wb P R), .sh (rds A), .sh (.str x), .no, .no], rfl, rfl, rfl, ?_, rfl⟩
      simp -implicitDefEqProofs [lc]
      rfl
  rw [r_ahead_of, w_run]
  simp -implicitDefEqProofs [dk]
theorem bool_all {β : Type} (g : β → Bool) (xs : List β) : dAll (.list (xs.map fun x => (.bool (g x) : D))) = some (.val (.bool (xs.all g))) := o_all g xs
theorem sh_lst {l : List Str} (h : ∀ x ∈ l, x ∈ NAMES) : SeqAt.shaped (.list (l.map fun x => (.str x : D))) = true := (Sh.lstM (k := 0) fun x hx => Sh.str (nm_ok x (h x hx))).ok (by omega)
theorem ne_nil {l : List Str} (h : ∀ x ∈ l, x ∈ NAMES) : dNe (.list (l.map .str)) (.list []) = some (.val (.bool (!decide (l = [])))) := ne_lst inj_str (ys := []) (sh_lst h) (by decide)
theorem eq_nil {l : List Str} (h : ∀ x ∈ l, x ∈ NAMES) : dEq (.list (l.map .str)) (.list []) = some (.val (.bool (decide (l = [])))) := eq_lst inj_str (ys := []) (sh_lst h) (by decide)
theorem in_names {x : Str} {l : List Str} (hx : x ∈ NAMES) (h : ∀ x ∈ l, x ∈ NAMES) : orG dIn (dInM false) (.str x) (.list (l.map .str)) = some (.val (.bool (decide (x ∈ l)))) := in_lst inj_str ((Sh.str (nm_ok x hx)).ok (by omega)) (sh_lst h)
theorem notIn_names {x : Str} {l : List Str} (hx : x ∈ NAMES) (h : ∀ x ∈ l, x ∈ NAMES) : orG dNotIn (dInM true) (.str x) (.list (l.map .str)) = some (.val (.bool (!decide (x ∈ l)))) := notIn_lst inj_str ((Sh.str (nm_ok x hx)).ok (by omega)) (sh_lst h)
theorem ix_head {x : Str} {l : List Str} : dIxX (.list ((x :: l).map .str)) (.int 0) = some (.val (.str x)) := o_ixL (n := 0) rfl
/-- one more is found -/
theorem gr_next (W : Web m P R) {y : List Str} (hy : y.Perm P) {k : Nat} (hk : k < P.length) : ∃ x r, P.filter (fre (arr R y) (gr (arr R y) P k)) = x :: r ∧ gr (arr R y) P (k + 1) = gr (arr R y) P k ++ [x] ∧ x ∈ P ∧ x ∉ gr (arr R y) P k := by
  obtain ⟨h1, h2, h3, h4⟩ := gr_ok W.ok hy W.nd k (by omega)
  obtain ⟨x0, hx0, hf0⟩ := ex_free W.ok hy W.nd h2 h1 (by omega)
  have hm : x0 ∈ P.filter (fre (arr R y) (gr (arr R y) P k)) := List.mem_filter.mpr ⟨hx0, hf0⟩
  cases q : P.filter (fre (arr R y) (gr (arr R y) P k)) with
  | nil => rw [q] at hm; cases hm
  | cons x r =>
    have hx : x ∈ P.filter (fre (arr R y) (gr (arr R y) P k)) := by rw [q]; simp
    obtain ⟨hxP, hxf⟩ := List.mem_filter.mp hx
    exact ⟨x, r, rfl, gr_cons q, hxP, (fre_iff.mp hxf).1⟩
theorem first_order_ok (W : Web m P R) (hm : m ≤ 8) {y : List Str} (hy : y.Perm P) : s_first_order [wb P R, rds (arr R y)] = some (.val (ps (gr (arr R y) P P.length)), []) := by
  have hP2 := W.le
  have hA := arw_of W hy
  have ah := ahead_ok W hm hA
  have l0 : dList (ps P) = some (.new (.list (P.map .str))) := rfl
  have main : Ends (s_first_order [wb P R, rds (arr R y)]) fun z => z = (.val (ps (gr (arr R y) P P.length)), []) := by
    refine Ends.gen fun K hK => ?_
    rw [r_first_order, w_run]
    simp -implicitDefEqProofs [ah, ix0, l0, Option.bind_assoc]
    refine ends_wh (fun j ρ => ∃ (k : Nat) (left : List Str) (s5 : Z.Slot), k + j = P.length ∧ left = P.filter (fun x => !decide (x ∈ gr (arr R y) P k)) ∧ left.length = j ∧ Fre s5 ∧
      ρ = [.sh (wb P R), .sh (rds (arr R y)), .ow (ahd P (arr R y)), .ow (.list (left.map .str)), .ow (.list ((gr (arr R y) P k).map .str)), s5, .no, .no]) P.length (by unfold whB; omega) ?_ ?_ ?_
    · exact ⟨0, P, .no, by omega, (List.filter_eq_self.mpr (by simp [gr])).symm, rfl, fr_no, rfl⟩
    · rintro j ρ ⟨k, left, s5, hkj, hleft, hlen, f5, rfl⟩ K h0 h1
      have hlP : ∀ x ∈ left, x ∈ P := fun x hx => by rw [hleft] at hx; exact (List.mem_filter.mp hx).1
      have hlN : ∀ x ∈ left, x ∈ NAMES := fun x hx => W.nm x (hlP x hx)
      have ne := ne_nil hlN
      by_cases c : left = []
      · have hj : j = 0 := by rw [← hlen, c]; rfl
        rw [c] at ne
        simp only [List.map_nil, decide_true, Bool.not_true] at ne
        simp -implicitDefEqProofs [c, ne]
        exact h0 hj _ ⟨k, [], s5, by omega, by rw [← hleft, c], rfl, f5, rfl⟩
      · have hj : 0 < j := by rw [← hlen]; exact List.length_pos_iff.mpr c
        simp -implicitDefEqProofs [ne, c]
        refine h1 hj _ fun K2 hK2 => ?_
        obtain ⟨x, r, q1, q2, q3, q4⟩ := gr_next W hy (show k < P.length by omega)
        obtain ⟨g1, g2, g3, g4⟩ := gr_ok W.ok hy W.nd k (by omega)
        have hgN : ∀ z ∈ gr (arr R y) P k, z ∈ NAMES := fun z hz => W.nm z (g2 z hz)
        have fl : left.filter (fun z => (prd (arr R y) z).all fun w => decide (w ∈ gr (arr R y) P k)) = x :: r := by
          rw [hleft, List.filter_filter, ← q1]
          congr 1
          funext z
          rw [fre_prd, Bool.and_comm]
        have lc : mLcH 3 (mItems (mV 3)) (fName 6) (mTest (mUn dAll (mLc (mItems (mOp dIxX (mV 2) (mV 6))) (fName 7) (fun ρ => some (true, ρ)) (mOp (orG dIn (dInM false)) (mV 7) (mV 4)) [7]))) (mV 6) [6] [.sh (wb P R), .sh (rds (arr R y)), .ow (ahd P (arr R y)), .ow (.list (left.map .str)), .ow (.list ((gr (arr R y) P k).map .str)), s5, .no, .no] =
            some (.fr (.list ((x :: r).map .str)), [.sh (wb P R), .sh (rds (arr R y)), .ow (ahd P (arr R y)), .ow (.list (left.map .str)), .ow (.list ((gr (arr R y) P k).map .str)), s5, .no, .no]) := by
          rw [lcH_run .str left (fun z => if (prd (arr R y) z).all (fun w => decide (w ∈ gr (arr R y) P k)) then some (.str z) else none)]
          · rw [filterMap_if (fun z => (prd (arr R y) z).all fun w => decide (w ∈ gr (arr R y) P k)) (fun z => (.str z : D)), fl]
          · rfl
          · rfl
          · unfold big; omega
          · intro z hz
            have hzP := hlP z hz
            have ixz : dIxX (ahd P (arr R y)) (.str z) = some (.val (ps (prd (arr R y) z))) := ix_names (vf := fun p => ps (prd (arr R y) p)) hzP
            have pl := prd_len hA z
            have lc2 : mLc (mItems (mOp dIxX (mV 2) (mV 6))) (fName 7) (fun ρ => some (true, ρ)) (mOp (orG dIn (dInM false)) (mV 7) (mV 4)) [7] [.sh (wb P R), .sh (rds (arr R y)), .ow (ahd P (arr R y)), .no, .ow (.list ((gr (arr R y) P k).map .str)), s5, .sh (.str z), .no] =
                some (.fr (.list ((prd (arr R y) z).map fun w => .bool (decide (w ∈ gr (arr R y) P k)))), [.sh (wb P R), .sh (rds (arr R y)), .ow (ahd P (arr R y)), .no, .ow (.list ((gr (arr R y) P k).map .str)), s5, .sh (.str z), .no]) := by
              rw [lc_map (ρ1 := [.sh (wb P R), .sh (rds (arr R y)), .ow (ahd P (arr R y)), .no, .ow (.list ((gr (arr R y) P k).map .str)), s5, .sh (.str z), .no]) .str (prd (arr R y) z) (fun w => .bool (decide (w ∈ gr (arr R y) P k)))]
              · simp -implicitDefEqProofs [ixz, it_ps]
              · rfl
              · unfold big; omega
              · intro w hw
                have iw := in_names (x := w) (W.nm w (prd_in hA hw)) hgN
                refine ⟨[.sh (wb P R), .sh (rds (arr R y)), .ow (ahd P (arr R y)), .no, .ow (.list ((gr (arr R y) P k).map .str)), s5, .sh (.str z), .sh (.str w)], [.sh (wb P R), .sh (rds (arr R y)), .ow (ahd P (arr R y)), .no, .ow (.list ((gr (arr R y) P k).map .str)), s5, .sh (.str z), .sh (.str w)], [.sh (wb P R), .sh (rds (arr R y)), .ow (ahd P (arr R y)), .no, .ow (.list ((gr (arr R y) P k).map .str)), s5, .sh (.str z), .sh (.str w)], rfl, rfl, ?_, rfl, rfl⟩
                simp -implicitDefEqProofs [iw]
            have al := bool_all (fun w => decide (w ∈ gr (arr R y) P k)) (prd (arr R y) z)
            have e1 : mUn dAll (mLc (mItems (mOp dIxX (mV 2) (mV 6))) (fName 7) (fun ρ => some (true, ρ)) (mOp (orG dIn (dInM false)) (mV 7) (mV 4)) [7]) [.sh (wb P R), .sh (rds (arr R y)), .ow (ahd P (arr R y)), .no, .ow (.list ((gr (arr R y) P k).map .str)), s5, .sh (.str z), .no] =
                some (.sh (.bool ((prd (arr R y) z).all fun w => decide (w ∈ gr (arr R y) P k))), [.sh (wb P R), .sh (rds (arr R y)), .ow (ahd P (arr R y)), .no, .ow (.list ((gr (arr R y) P k).map .str)), s5, .sh (.str z), .no]) := by
              rw [x_un, lc2, Option.bind_some, w_lookF, Option.bind_some, al]
              rfl
            cases c : (prd (arr R y) z).all fun w => decide (w ∈ gr (arr R y) P k) with
            | true =>
              rw [c] at e1
              rw [if_pos rfl]
              refine ⟨[.sh (wb P R), .sh (rds (arr R y)), .ow (ahd P (arr R y)), .no, .ow (.list ((gr (arr R y) P k).map .str)), s5, .sh (.str z), .no], [.sh (wb P R), .sh (rds (arr R y)), .ow (ahd P (arr R y)), .no, .ow (.list ((gr (arr R y) P k).map .str)), s5, .sh (.str z), .no], [.sh (wb P R), .sh (rds (arr R y)), .ow (ahd P (arr R y)), .no, .ow (.list ((gr (arr R y) P k).map .str)), s5, .sh (.str z), .no], rfl, ?_, rfl, rfl, rfl⟩
              rw [x_test, e1]
              rfl
            | false =>
              rw [c] at e1
              rw [if_neg (by simp)]
              refine ⟨[.sh (wb P R), .sh (rds (arr R y)), .ow (ahd P (arr R y)), .no, .ow (.list ((gr (arr R y) P k).map .str)), s5, .sh (.str z), .no], [.sh (wb P R), .sh (rds (arr R y)), .ow (ahd P (arr R y)), .no, .ow (.list ((gr (arr R y) P k).map .str)), s5, .sh (.str z), .no], rfl, ?_, rfl⟩
              rw [x_test, e1]
              rfl
        have hxr : ∀ z ∈ x :: r, z ∈ NAMES := fun z hz => by
          rw [← fl] at hz
          exact hlN z (List.mem_filter.mp hz).1
        have hxl : x ∈ left := by
          have : x ∈ x :: r := by simp
          rw [← fl] at this
          exact (List.mem_filter.mp this).1
        have en := eq_nil hxr
        have l1 : (gr (arr R y) P k).length < 100000 := by omega
        have rm := remove_at inj_str (sh_lst hlN) ((Sh.str (nm_ok x (hlN x hxl))).ok (by omega)) hxl
        have ih := ix_head (x := x) (l := r)
        simp only [List.map_cons] at en ih lc
        have en : dEq (.list (.str x :: r.map .str)) (.list []) = some (.val (.bool false)) := en
        simp -implicitDefEqProofs [-x_lcH, lc, put_fr f5, en, ih, l1, rm, Option.bind_assoc]
        have nd : left.Nodup := by rw [hleft]; exact W.nd.sublist List.filter_sublist
        refine hK2 _ ⟨k + 1, left.erase x, .ow (.list (.str x :: r.map .str)), by omega, ?_, by rw [List.length_erase_of_mem hxl, hlen], fr_ow, ?_⟩
        · rw [nd.erase_eq_filter, hleft, List.filter_filter, q2]
          congr 1
          funext z
          by_cases c1 : z = x <;> by_cases c2 : z ∈ gr (arr R y) P k <;> simp [c1, c2]
        · rw [q2]
          simp
    · rintro ρ' ⟨k, left, s5, hkj, hleft, hlen, f5, rfl⟩
      have hk : k = P.length := by omega
      subst hk
      simp -implicitDefEqProofs []
      exact hK _ rfl
  obtain ⟨z, e, rfl⟩ := main
  exact e
end
end T
end

section
open PySem Z L2 M
set_option Elab.async false
set_option linter.all false
set_option maxRecDepth 100000
set_option maxHeartbeats 1000000
namespace T
section
variable {m : Nat} {P : List Str} {R : List (Str × Str)}
theorem first_alike_ok (W : Web m P R) (hm : m ≤ 8) {y : List Str} (hy : y.Perm P) : s_first_alike [wb P R, ps y] = some (.val (ps (gr (arr R y) P P.length)), []) := by
  rw [r_first_alike, w_run]
  simp -implicitDefEqProofs [need_web_ok W hm, need_order_ok W hm hy, arrows_of_ok W hm hy, first_order_ok W hm hy]
/-- what must be ahead and is not -/
def mis (A : List (Str × Str)) (g : List Str) (x : Str) : List Str := (A.filter fun a => decide (a.2 = x) && !decide (a.1 ∈ g)).map (·.1)
theorem fre_mis {A : List (Str × Str)} {g : List Str} {x : Str} : fre A g x = (!decide (x ∈ g) && decide (mis A g x = [])) := by
  unfold fre mis
  congr 1
  rw [Bool.eq_iff_iff, List.all_eq_true, decide_eq_true_eq, List.map_eq_nil_iff, List.filter_eq_nil_iff]
  constructor
  · intro h a ha
    have := h a ha
    by_cases c : a.2 = x <;> by_cases c2 : a.1 ∈ g <;> simp [c, c2] at this ⊢
  · intro h a ha
    have := h a ha
    by_cases c : a.2 = x <;> by_cases c2 : a.1 ∈ g <;> simp [c, c2] at this ⊢
theorem law_first_ok (W : Web m P R) (hm : m ≤ 8) {y : List Str} (hy : y.Perm P) : s_law_first [wb P R, rds (arr R y)] = some (.val (ps (gr (arr R y) P P.length)), []) := by
  have hP2 := W.le
  have hA := arw_of W hy
  have hAl := hA.len
  have main : Ends (s_law_first [wb P R, rds (arr R y)]) fun z => z = (.val (ps (gr (arr R y) P P.length)), []) := by
    refine Ends.gen fun K hK => ?_
    rw [r_law_first, w_run]
    simp -implicitDefEqProofs [Option.bind_assoc]
    refine ends_for [.sh (wb P R), .sh (rds (arr R y)), .ow (.list []), .no, .no, .no, .no, .no] .str P (fun i ρ => ∃ s3 s4 s5 : Z.Slot, ρ = [.sh (wb P R), .sh (rds (arr R y)), .ow (.list ((gr (arr R y) P i).map .str)), s3, s4, s5, .no, .no] ∧ Fre s3 ∧ Fre s4 ∧ Fre s5) ?_ ?_ ?_ ?_
    · simp -implicitDefEqProofs [ix0, it_ps]
    · exact ⟨_, _, _, rfl, fr_no, fr_no, fr_no⟩
    · rintro i t ρ hi ⟨s3, s4, s5, rfl, f3, f4, f5⟩ K hK _
      have hik : i < P.length := (List.getElem?_eq_some_iff.mp hi).1
      obtain ⟨x, r, q1, q2, q3, q4⟩ := gr_next W hy hik
      obtain ⟨g1, g2, g3, g4⟩ := gr_ok W.ok hy W.nd i (by omega)
      have hgN : ∀ z ∈ gr (arr R y) P i, z ∈ NAMES := fun z hz => W.nm z (g2 z hz)
      simp -implicitDefEqProofs [put_fr f3, put_fr f4, Option.bind_assoc]
      refine ends_for [.sh (wb P R), .sh (rds (arr R y)), .ow (.list ((gr (arr R y) P i).map .str)), .sh (.str t), .ow (.list []), s5, .no, .no] .str P (fun j ρ => ∃ s5 : Z.Slot, ρ = [.sh (wb P R), .sh (rds (arr R y)), .ow (.list ((gr (arr R y) P i).map .str)), .sh (.str t), .ow (.list (((P.take j).filter (fre (arr R y) (gr (arr R y) P i))).map .str)), s5, .no, .no] ∧ Fre s5) ?_ ?_ ?_ ?_
      · simp -implicitDefEqProofs [ix0, it_ps]
      · exact ⟨_, rfl, f5⟩
      · rintro j z ρ hj ⟨s5, rfl, f5⟩ K hK _
        have hz := List.mem_of_getElem? hj
        have ni := notIn_names (x := z) (W.nm z hz) hgN
        have tk : (P.take (j + 1)).filter (fre (arr R y) (gr (arr R y) P i)) = (P.take j).filter (fre (arr R y) (gr (arr R y) P i)) ++ if fre (arr R y) (gr (arr R y) P i) z then [z] else [] := by
          rw [List.take_add_one, hj, List.filter_append]
          congr 1
          cases c : fre (arr R y) (gr (arr R y) P i) z <;> simp [c]
        by_cases c : z ∈ gr (arr R y) P i
        · have f0 : fre (arr R y) (gr (arr R y) P i) z = false := by rw [fre_mis]; simp [c]
          rw [f0] at tk
          simp -implicitDefEqProofs [put_fr f5, ni, c, Option.bind_assoc]
          refine hK _ ⟨.sh (.str z), ?_, fr_sh⟩
          rw [tk]
          simp
        · have lc : mLc (mItems (mV 1)) (fTup 2 (fCons (fName 6) (fCons (fName 7) fNil))) (mAndT (mTest (mOp dEq (mV 7) (mV 5))) (mTest (mOp (orG dNotIn (dInM true)) (mV 6) (mV 2)))) (mV 6) [6, 7] [.sh (wb P R), .sh (rds (arr R y)), .ow (.list ((gr (arr R y) P i).map .str)), .sh (.str t), .ow (.list (((P.take j).filter (fre (arr R y) (gr (arr R y) P i))).map .str)), .sh (.str z), .no, .no] =
              some (.fr (.list ((mis (arr R y) (gr (arr R y) P i) z).map .str)), [.sh (wb P R), .sh (rds (arr R y)), .ow (.list ((gr (arr R y) P i).map .str)), .sh (.str t), .ow (.list (((P.take j).filter (fre (arr R y) (gr (arr R y) P i))).map .str)), .sh (.str z), .no, .no]) := by
            rw [lc_run (ρ1 := [.sh (wb P R), .sh (rds (arr R y)), .ow (.list ((gr (arr R y) P i).map .str)), .sh (.str t), .ow (.list (((P.take j).filter (fre (arr R y) (gr (arr R y) P i))).map .str)), .sh (.str z), .no, .no]) rd (arr R y) (fun a => if decide (a.2 = z) && !decide (a.1 ∈ gr (arr R y) P i) then some (.str a.1) else none)]
            · rw [filterMap_if (fun a : Str × Str => decide (a.2 = z) && !decide (a.1 ∈ gr (arr R y) P i)) (fun a => (.str a.1 : D))]
              unfold mis
              rw [List.map_map]
              rfl
            · simp -implicitDefEqProofs [it_rds]
            · rfl
            · unfold big; omega
            · intro a ha
              have na := notIn_names (x := a.1) (W.nm _ (hA.in1 a ha)) hgN
              by_cases c1 : a.2 = z
              · by_cases c2 : a.1 ∈ gr (arr R y) P i
                · rw [if_neg (by simp [c1, c2])]
                  refine ⟨[.sh (wb P R), .sh (rds (arr R y)), .ow (.list ((gr (arr R y) P i).map .str)), .sh (.str t), .ow (.list (((P.take j).filter (fre (arr R y) (gr (arr R y) P i))).map .str)), .sh (.str z), .sh (.str a.1), .sh (.str a.2)], [.sh (wb P R), .sh (rds (arr R y)), .ow (.list ((gr (arr R y) P i).map .str)), .sh (.str t), .ow (.list (((P.take j).filter (fre (arr R y) (gr (arr R y) P i))).map .str)), .sh (.str z), .sh (.str a.1), .sh (.str a.2)], rfl, ?_, rfl⟩
                  simp -implicitDefEqProofs [c1, na, c2]
                · rw [if_pos (by simp [c1, c2])]
                  refine ⟨[.sh (wb P R), .sh (rds (arr R y)), .ow (.list ((gr (arr R y) P i).map .str)), .sh (.str t), .ow (.list (((P.take j).filter (fre (arr R y) (gr (arr R y) P i))).map .str)), .sh (.str z), .sh (.str a.1), .sh (.str a.2)], [.sh (wb P R), .sh (rds (arr R y)), .ow (.list ((gr (arr R y) P i).map .str)), .sh (.str t), .ow (.list (((P.take j).filter (fre (arr R y) (gr (arr R y) P i))).map .str)), .sh (.str z), .sh (.str a.1), .sh (.str a.2)], [.sh (wb P R), .sh (rds (arr R y)), .ow (.list ((gr (arr R y) P i).map .str)), .sh (.str t), .ow (.list (((P.take j).filter (fre (arr R y) (gr (arr R y) P i))).map .str)), .sh (.str z), .sh (.str a.1), .sh (.str a.2)], rfl, ?_, rfl, rfl, rfl⟩
                  simp -implicitDefEqProofs [c1, na, c2]
              · rw [if_neg (by simp [c1])]
                refine ⟨[.sh (wb P R), .sh (rds (arr R y)), .ow (.list ((gr (arr R y) P i).map .str)), .sh (.str t), .ow (.list (((P.take j).filter (fre (arr R y) (gr (arr R y) P i))).map .str)), .sh (.str z), .sh (.str a.1), .sh (.str a.2)], [.sh (wb P R), .sh (rds (arr R y)), .ow (.list ((gr (arr R y) P i).map .str)), .sh (.str t), .ow (.list (((P.take j).filter (fre (arr R y) (gr (arr R y) P i))).map .str)), .sh (.str z), .sh (.str a.1), .sh (.str a.2)], rfl, ?_, rfl⟩
                simp -implicitDefEqProofs [c1]
          have hmN : ∀ w ∈ mis (arr R y) (gr (arr R y) P i) z, w ∈ NAMES := fun w hw => by
            unfold mis at hw
            obtain ⟨a, ha, rfl⟩ := List.mem_map.mp hw
            exact W.nm _ (hA.in1 a (List.mem_filter.mp ha).1)
          have en := eq_nil hmN
          have l1 : ((P.take j).filter (fre (arr R y) (gr (arr R y) P i))).length < 100000 := by
            have a1 := List.length_filter_le (fre (arr R y) (gr (arr R y) P i)) (P.take j)
            have a2 : (P.take j).length ≤ P.length := by rw [List.length_take]; omega
            omega
          have fm := fre_mis (A := arr R y) (g := gr (arr R y) P i) (x := z)
          by_cases c1 : mis (arr R y) (gr (arr R y) P i) z = []
          · rw [decide_eq_true c1] at en
            rw [fm, decide_eq_true c1, decide_eq_false c] at tk
            simp -implicitDefEqProofs [put_fr f5, ni, c, lc, en, l1, Option.bind_assoc]
            refine hK _ ⟨.sh (.str z), ?_, fr_sh⟩
            rw [tk]
            simp
          · rw [decide_eq_false c1] at en
            rw [fm, decide_eq_false c1] at tk
            simp -implicitDefEqProofs [put_fr f5, ni, c, lc, en, Option.bind_assoc]
            refine hK _ ⟨.sh (.str z), ?_, fr_sh⟩
            rw [tk]
            simp
      · rintro ρ' ⟨s5, rfl, f5⟩
        rw [List.take_length, q1]
        have hxr : ∀ z ∈ x :: r, z ∈ NAMES := fun z hz => by
          rw [← q1] at hz
          exact W.nm z (List.mem_filter.mp hz).1
        have en := eq_nil hxr
        have en : dEq (.list (.str x :: r.map .str)) (.list []) = some (.val (.bool false)) := en
        have ih : dIxX (.list (.str x :: r.map .str)) (.int 0) = some (.val (.str x)) := ix_head (x := x) (l := r)
        have l1 : (gr (arr R y) P i).length < 100000 := by omega
        simp -implicitDefEqProofs [en, ih, l1, Option.bind_assoc]
        refine hK _ ⟨.sh (.str t), .ow (.list (.str x :: r.map .str)), s5, ?_, fr_sh, fr_ow, f5⟩
        rw [q2]
        simp
    · rintro ρ' ⟨s3, s4, s5, rfl, f3, f4, f5⟩
      simp -implicitDefEqProofs []
      exact hK _ rfl
  obtain ⟨z, e, rfl⟩ := main
  exact e
end
end T
end

section
open PySem Z L2 M
set_option Elab.async false
set_option linter.all false
set_option maxRecDepth 100000
set_option maxHeartbeats 1000000
namespace T
theorem ro2 (a b : D) : reord (["order", "web"] : List Str) (["web", "order"] : List Str) [a, b] = [b, a] := by rfl
theorem nm_text : ∀ x ∈ NAMES, (reprText x).length ≤ 20 := by decide +kernel
theorem wd_ps {l : List Str} (h : ∀ x ∈ l, x ∈ NAMES) : Wd (l.length * 22 + 4) (ps l) := by
  have := Wd.tup (k := 20) (ds := l.map .str) fun d hd => by
    obtain ⟨x, hx, rfl⟩ := List.mem_map.mp hd
    exact Wd.str (nm_text x (h x hx))
  rw [List.length_map] at this
  exact this
theorem wd_rd {r : Str × Str} (h1 : r.1 ∈ NAMES) (h2 : r.2 ∈ NAMES) : Wd 48 (rd r) := wd_ps (l := [r.1, r.2]) fun x hx => by
  simp only [List.mem_cons, List.not_mem_nil, or_false] at hx
  rcases hx with rfl | rfl
  · exact h1
  · exact h2
theorem repr_ps {l : List Str} (h : ∀ x ∈ l, x ∈ NAMES) (hl : l.length ≤ 100) : ∃ S : Str, dRepr (ps l) = some (.val (.str S)) :=
  ⟨_, o_reprT (tells_of (wd_ps h) (by omega) (sh_ps h) (by omega))⟩
theorem repr_rds {A : List (Str × Str)} (h : ∀ r ∈ A, r.1 ∈ NAMES ∧ r.2 ∈ NAMES) (hl : A.length ≤ 100) : ∃ S : Str, dRepr (rds A) = some (.val (.str S)) := by
  have w := Wd.tup (k := 48) (ds := A.map rd) fun d hd => by
    obtain ⟨x, hx, rfl⟩ := List.mem_map.mp hd
    exact wd_rd (h x hx).1 (h x hx).2
  rw [List.length_map] at w
  exact ⟨_, o_reprT (tells_of w (by omega) (sh_rds h) (by omega))⟩
theorem ne_rds {A B : List (Str × Str)} (h : ∀ r ∈ A, r.1 ∈ NAMES ∧ r.2 ∈ NAMES) (e : A = B) : dNe (rds A) (rds B) = some (.val (.bool false)) := by
  subst e
  have := ne_tup inj_rd (xs := A) (ys := A) ((sh_rds h).ok (by omega)) ((sh_rds h).ok (by omega))
  simp only [decide_true, Bool.not_true] at this
  exact this
theorem eq_rd {r s : Str × Str} (h1 : r.1 ∈ NAMES ∧ r.2 ∈ NAMES) (h2 : s.1 ∈ NAMES ∧ s.2 ∈ NAMES) : dEq (rd r) (rd s) = some (.val (.bool (decide (r = s)))) := by
  have s1 := (sh_rd h1.1 h1.2).ok (by omega)
  have s2 := (sh_rd h2.1 h2.2).ok (by omega)
  have e := inj_rd r s
  unfold rd at s1 s2 e ⊢
  unfold dEq eqD scalE sv
  simp only [s1, s2, Bool.and_self, if_true, e]
theorem back_rd {r : Str × Str} : dBack (rd r) = some (.val (rd (r.2, r.1))) := rfl
/-- turning some about -/
theorem lc_turn {c : Str × Str → Bool} {A : List (Str × Str)} : (A.map fun e => rd (if c e = true then (e.2, e.1) else e)) = (A.map fun e => if c e = true then (e.2, e.1) else e).map rd := by
  rw [List.map_map]; rfl
section
variable {P : List Str} {R : List (Str × Str)}
theorem asked_one_ok {ns : List Int} (hl : ns.length ≤ 63) : s_law_asked_one [.list (ns.map .int)] = some (.val (.bool true), []) := by
  have main : Ends (s_law_asked_one [.list (ns.map .int)]) fun z => z = (.val (.bool true), []) := by
    refine Ends.gen fun K hK => ?_
    have c0 : max 1 (min (ns.length : Int) 4) = ((max 1 (min ns.length 4) : Nat) : Int) := by omega
    have r0 := rng_nat (n := max 1 (min ns.length 4)) (by omega)
    rw [← c0] at r0
    rw [r_law_asked_one, w_run]
    simp -implicitDefEqProofs [Option.bind_assoc]
    refine ends_for [.sh (.list (ns.map .int)), .no, .no, .no, .no, .no, .no, .no, .no, .no] (fun i : Nat => .int (i : Int)) (List.range (max 1 (min ns.length 4))) (fun i ρ => ∃ s1 s2 s3 s4 s5 s6 s7 s8 : Z.Slot,
      ρ = [.sh (.list (ns.map .int)), s1, s2, s3, s4, s5, s6, s7, s8, .no] ∧ Fre s1 ∧ Fre s2 ∧ Fre s3 ∧ Fre s4 ∧ Fre s5 ∧ Fre s6 ∧ Fre s7 ∧ Fre s8) ?_ ?_ ?_ ?_
    · simp -implicitDefEqProofs [r0]
    · exact ⟨_, _, _, _, _, _, _, _, rfl, fr_no, fr_no, fr_no, fr_no, fr_no, fr_no, fr_no, fr_no⟩
    · rintro i x ρ hx ⟨s1, s2, s3, s4, s5, s6, s7, s8, rfl, f1, f2, f3, f4, f5, f6, f7, f8⟩ K hK _
      have hx3 : x < 63 := by
        have := List.mem_of_getElem? hx
        rw [List.mem_range] at this
        omega
      obtain ⟨d, e1, g1⟩ := feed_ok (ns := ns) (k := x) hx3 hl
      obtain ⟨z, e2, P, R, d2, rfl, W, g2⟩ := any_ok (n := 1000) (d := d) (most := 8) (by omega) (by omega) (g1.mono (by omega))
      have e2 : s_law_any_web [d, .int 8] = some (.val (wb P R), [d2]) := e2
      obtain ⟨o, d3, e3, ho, g3⟩ := order_ok (n := 900) W (by omega) (g2.mono (by omega))
      have a1 := arrows_ok W ho
      have a2 := arrows_k W (by omega) ho
      have on := ho.nodup_iff.mpr W.nd
      have hon : ∀ z ∈ o, z ∈ NAMES := fun z hz => W.nm z (ho.mem_iff.mp hz)
      have hR : ∀ r ∈ R, r.1 ∈ o ∧ r.2 ∈ o ∧ r.1 ≠ r.2 := fun r hr => by
        obtain ⟨h1, h2, h3⟩ := W.ok r hr
        exact ⟨ho.mem_iff.mpr h1, ho.mem_iff.mpr h2, h3⟩
      have hlo := ho.length_eq
      have hP1 := W.pos
      have hP2 := W.le
      have hRl := W.rl
      have hAl : (arr R o).length ≤ 14 := by unfold arr; rw [List.length_map]; exact hRl
      have hAN := arr_nm (o := o) W
      obtain ⟨S, rp⟩ := repr_rds hAN (by omega)
      have bk : dBack (ps o) = some (.val (ps o.reverse)) := by unfold ps; rw [o_backT, List.map_reverse]
      have a3 := arrows_k W (by omega) ((List.reverse_perm o).trans ho)
      have lc1 : ∀ (s6 s7 s8 : Z.Slot), mLc (mItems (mV 5)) (fName 9) (fun ρ => some (true, ρ)) (mUn dBack (mV 9)) [9] [.sh (.list (ns.map .int)), .sh (.int x), .ow d3, .sh (wb P R), .sh (ps o), .sh (rds (arr R o)), s6, s7, s8, .no] =
          some (.fr (.list (((arr R o).map fun e => (e.2, e.1)).map rd)), [.sh (.list (ns.map .int)), .sh (.int x), .ow d3, .sh (wb P R), .sh (ps o), .sh (rds (arr R o)), s6, s7, s8, .no]) := fun s6 s7 s8 => by
        rw [lc_map (ρ1 := [.sh (.list (ns.map .int)), .sh (.int x), .ow d3, .sh (wb P R), .sh (ps o), .sh (rds (arr R o)), s6, s7, s8, .no]) rd (arr R o) (fun e => rd (e.2, e.1))]
        · rw [List.map_map]; rfl
        · simp -implicitDefEqProofs [it_rds]
        · rfl
        · unfold big; omega
        · intro a ha
          refine ⟨[.sh (.list (ns.map .int)), .sh (.int x), .ow d3, .sh (wb P R), .sh (ps o), .sh (rds (arr R o)), s6, s7, s8, .sh (rd a)], [.sh (.list (ns.map .int)), .sh (.int x), .ow d3, .sh (wb P R), .sh (ps o), .sh (rds (arr R o)), s6, s7, s8, .sh (rd a)], [.sh (.list (ns.map .int)), .sh (.int x), .ow d3, .sh (wb P R), .sh (ps o), .sh (rds (arr R o)), s6, s7, s8, .sh (rd a)], rfl, rfl, ?_, nd_rd, rfl⟩
          simp -implicitDefEqProofs [back_rd]
      have n1 : dNe (rds (arr R o.reverse)) (.tuple (((arr R o).map fun e => (e.2, e.1)).map rd)) = some (.val (.bool false)) := ne_rds (arr_nm W) (arr_rev on hR)
      have c1 : ((o.length : Int) - 1) = ((o.length - 1 : Nat) : Int) := by omega
      have hr := rng_nat (n := o.length - 1) (by omega)
      rw [← c1] at hr
      simp -implicitDefEqProofs only [List.map_map] at n1 lc1
      simp -implicitDefEqProofs [put_fr f1, put_fr f2, put_fr f3, put_fr f4, put_fr f5, e1, e2, e3, a1, a2, rp, ro2, ms_arrows, bk, a3, lc1, n1, Option.bind_assoc]
      refine ends_for [.sh (.list (ns.map .int)), .sh (.int x), .ow d3, .sh (wb P R), .sh (ps o), .sh (rds (arr R o)), s6, s7, s8, .no] (fun i : Nat => .int (i : Int)) (List.range (o.length - 1)) (fun j ρ => ∃ s6 s7 : Z.Slot,
        ρ = [.sh (.list (ns.map .int)), .sh (.int x), .ow d3, .sh (wb P R), .sh (ps o), .sh (rds (arr R o)), s6, s7, s8, .no] ∧ Fre s6 ∧ Fre s7) ?_ ?_ ?_ ?_
      · simp -implicitDefEqProofs [len_ps, hr]
      · exact ⟨_, _, rfl, f6, f7⟩
      · rintro j t ρ hj ⟨s6, s7, rfl, f6, f7⟩ K hK _
        have ht : t + 1 < o.length := by
          have := List.mem_of_getElem? hj
          rw [List.mem_range] at this
          omega
        have sp := swapped_ok ht (by omega)
        have a4 := arrows_k W (by omega) ((sw_perm ht).trans ho)
        have pr : dCut (ps o) (some (t : Int)) (some ((t : Int) + 2)) = some (.val (rd (o[t], o[t + 1]))) := by
          unfold ps rd
          rw [o_cutT, cut_mid (by rw [List.length_map]; exact ht)]
          simp
        have pN : o[t] ∈ NAMES ∧ o[t + 1] ∈ NAMES := ⟨hon _ (List.getElem_mem _), hon _ (List.getElem_mem _)⟩
        have lc2 : mLc (mItems (mV 5)) (fName 9) (fun ρ => some (true, ρ)) (mIf (mTest (mOp dEq (mV 9) (mV 7))) (mUn dBack (mV 9)) (mV 9)) [9] [.sh (.list (ns.map .int)), .sh (.int x), .ow d3, .sh (wb P R), .sh (ps o), .sh (rds (arr R o)), .sh (.int t), .sh (rd (o[t], o[t + 1])), s8, .no] =
            some (.fr (.list ((arr R o).map fun e => rd (if decide (e = (o[t], o[t + 1])) = true then (e.2, e.1) else e))), [.sh (.list (ns.map .int)), .sh (.int x), .ow d3, .sh (wb P R), .sh (ps o), .sh (rds (arr R o)), .sh (.int t), .sh (rd (o[t], o[t + 1])), s8, .no]) := by
          rw [lc_map (ρ1 := [.sh (.list (ns.map .int)), .sh (.int x), .ow d3, .sh (wb P R), .sh (ps o), .sh (rds (arr R o)), .sh (.int t), .sh (rd (o[t], o[t + 1])), s8, .no]) rd (arr R o) (fun e => rd (if decide (e = (o[t], o[t + 1])) = true then (e.2, e.1) else e))]
          · simp -implicitDefEqProofs [it_rds]
          · rfl
          · unfold big; omega
          · intro a ha
            have eq := eq_rd (r := a) (s := (o[t], o[t + 1])) (hAN a ha) pN
            refine ⟨[.sh (.list (ns.map .int)), .sh (.int x), .ow d3, .sh (wb P R), .sh (ps o), .sh (rds (arr R o)), .sh (.int t), .sh (rd (o[t], o[t + 1])), s8, .sh (rd a)], [.sh (.list (ns.map .int)), .sh (.int x), .ow d3, .sh (wb P R), .sh (ps o), .sh (rds (arr R o)), .sh (.int t), .sh (rd (o[t], o[t + 1])), s8, .sh (rd a)], [.sh (.list (ns.map .int)), .sh (.int x), .ow d3, .sh (wb P R), .sh (ps o), .sh (rds (arr R o)), .sh (.int t), .sh (rd (o[t], o[t + 1])), s8, .sh (rd a)], rfl, rfl, ?_, nd_rd, rfl⟩
            by_cases c : a = (o[t], o[t + 1])
            · rw [decide_eq_true c] at eq
              rw [if_pos (decide_eq_true c)]
              simp -implicitDefEqProofs [eq, back_rd]
            · rw [decide_eq_false c] at eq
              rw [if_neg (by simp [c])]
              simp -implicitDefEqProofs [eq]
        have n2 : dNe (rds (arr R (sw o t))) (.tuple ((arr R o).map fun e => rd (if decide (e = (o[t], o[t + 1])) = true then (e.2, e.1) else e))) = some (.val (.bool false)) := by
          rw [lc_turn (c := fun e => decide (e = (o[t], o[t + 1])))]
          refine ne_rds (arr_nm W) ?_
          obtain ⟨p, a, b, s, e, hp, ha, hb⟩ := at_split ht
          have ea : o[t] = a := by
            have : o[t]? = some o[t] := by simp
            rw [ha] at this; exact (Option.some.inj this).symm
          have eb : o[t + 1] = b := by
            have : o[t + 1]? = some o[t + 1] := by simp [ht]
            rw [hb] at this; exact (Option.some.inj this).symm
          rw [ea, eb]
          have es : sw o t = p ++ b :: a :: s := by rw [← hp, e, sw_eq]
          rw [es]
          have hR' := hR
          have on' := on
          rw [e] at hR' on'
          have := arr_sw on' hR'
          rw [← e] at this
          exact this
        simp -implicitDefEqProofs only [decide_eq_true_eq] at lc2 n2
        simp -implicitDefEqProofs [put_fr f6, put_fr f7, pr, sp, a4, lc2, n2, Option.bind_assoc]
        exact hK _ ⟨_, _, rfl, fr_sh, fr_sh⟩
      · rintro ρ' ⟨s6, s7, rfl, f6, f7⟩
        obtain ⟨a, s, e⟩ : ∃ a s, o = a :: s := by
          cases o with
          | nil => simp at hlo; omega
          | cons a s => exact ⟨a, s, rfl⟩
        have i0 : dIxX (ps o) (.int 0) = some (.val (.str a)) := by
          have := ix_ps (P := o) (i := 0) (by omega)
          simpa [e] using this
        have c1 : dCut (ps o) (some 1) none = some (.val (ps s)) := by
          have q : cutD (o.map fun x => (.str x : D)) (some 1) none = (o.map fun x => (.str x : D)).drop 1 := cut_drop 1
          unfold ps
          rw [o_cutT, q, e]
          rfl
        have c2 : dCut (ps o) none (some 1) = some (.val (ps [a])) := by
          have q : cutD (o.map fun x => (.str x : D)) none (some 1) = (o.map fun x => (.str x : D)).take 1 := cut_take 1
          unfold ps
          rw [o_cutT, q, e]
          rfl
        have hls : s.length + 1 = o.length := by rw [e]; rfl
        have ad : dAdd (ps s) (ps [a]) = some (.val (ps (s ++ [a]))) := by
          unfold ps
          rw [o_addT, if_pos (by simp [w_bigle]; omega)]
          simp
        have pm : (s ++ [a]).Perm P := by
          refine List.Perm.trans ?_ ho
          rw [e]
          exact List.perm_append_comm (l₁ := s) (l₂ := [a])
        have a4 := arrows_k W (by omega) pm
        have haN : a ∈ NAMES := hon a (by rw [e]; simp)
        have lc3 : mLc (mItems (mV 5)) (fName 9) (fun ρ => some (true, ρ)) (mIf (mTest (mOp dEq (mOp dIxX (mV 9) (mC (.int 0))) (mOp dIxX (mV 4) (mC (.int 0))))) (mUn dBack (mV 9)) (mV 9)) [9] [.sh (.list (ns.map .int)), .sh (.int x), .ow d3, .sh (wb P R), .sh (ps o), .sh (rds (arr R o)), s6, s7, s8, .no] =
            some (.fr (.list ((arr R o).map fun e => rd (if decide (e.1 = a) = true then (e.2, e.1) else e))), [.sh (.list (ns.map .int)), .sh (.int x), .ow d3, .sh (wb P R), .sh (ps o), .sh (rds (arr R o)), s6, s7, s8, .no]) := by
          rw [lc_map (ρ1 := [.sh (.list (ns.map .int)), .sh (.int x), .ow d3, .sh (wb P R), .sh (ps o), .sh (rds (arr R o)), s6, s7, s8, .no]) rd (arr R o) (fun e => rd (if decide (e.1 = a) = true then (e.2, e.1) else e))]
          · simp -implicitDefEqProofs [it_rds]
          · rfl
          · unfold big; omega
          · intro b hb
            refine ⟨[.sh (.list (ns.map .int)), .sh (.int x), .ow d3, .sh (wb P R), .sh (ps o), .sh (rds (arr R o)), s6, s7, s8, .sh (rd b)], [.sh (.list (ns.map .int)), .sh (.int x), .ow d3, .sh (wb P R), .sh (ps o), .sh (rds (arr R o)), s6, s7, s8, .sh (rd b)], [.sh (.list (ns.map .int)), .sh (.int x), .ow d3, .sh (wb P R), .sh (ps o), .sh (rds (arr R o)), s6, s7, s8, .sh (rd b)], rfl, rfl, ?_, nd_rd, rfl⟩
            by_cases c : b.1 = a
            · rw [if_pos (decide_eq_true c)]
              simp -implicitDefEqProofs [rd0, i0, c, back_rd]
            · rw [if_neg (by simp [c])]
              simp -implicitDefEqProofs [rd0, i0, c]
        have n3 : dNe (rds (arr R (s ++ [a]))) (.tuple ((arr R o).map fun e => rd (if decide (e.1 = a) = true then (e.2, e.1) else e))) = some (.val (.bool false)) := by
          rw [lc_turn (c := fun e => decide (e.1 = a))]
          refine ne_rds (arr_nm W) ?_
          rw [e] at on hR ⊢
          exact arr_rot on hR
        simp -implicitDefEqProofs only [decide_eq_true_eq] at lc3 n3
        simp -implicitDefEqProofs [put_fr f8, lc3, c1, c2, ad, a4, n3, Option.bind_assoc]
        exact hK _ ⟨_, _, _, _, _, _, _, _, rfl, fr_sh, fr_ow, fr_sh, fr_sh, fr_sh, f6, f7, fr_sh⟩
    · rintro ρ' ⟨s1, s2, s3, s4, s5, s6, s7, s8, rfl, f1, f2, f3, f4, f5, f6, f7, f8⟩
      simp -implicitDefEqProofs []
      exact hK _ rfl
  obtain ⟨z, e, rfl⟩ := main
  exact e
end
end T
end

section
open PySem Z L2 M
set_option Elab.async false
set_option linter.all false
set_option maxRecDepth 100000
set_option maxHeartbeats 1000000
namespace T
/-! a dict from arrows to orders -/
def kR (r : Str × Str) : NestedKey := .tup [.text r.1, .text r.2]
theorem nks_rd : ∀ A : List (Str × Str), nks (A.map rd) = some (A.map kR)
  | [] => by simp [nks]
  | r :: A => by simp [nks, nk, rd, kR, nks_rd A]
theorem nk_rds (A : List (Str × Str)) : nk (rds A) = some (.tup (A.map kR)) := by
  unfold rds; simp only [nk, nks_rd]
theorem depth_kR : ∀ A : List (Str × Str), NestedKey.depthAll (A.map kR) ≤ 2
  | [] => by simp [NestedKey.depthAll]
  | r :: A => by
    have := depth_kR A
    simp only [List.map_cons, NestedKey.depthAll, NestedKey.depth, kR]
    omega
theorem nkOk_rds (A : List (Str × Str)) : nkOk (rds A) = true := by
  unfold nkOk
  rw [nk_rds]
  have h : (NestedKey.tup (A.map kR)).depth ≤ 8 := by
    have := depth_kR A
    simp only [NestedKey.depth]
    omega
  dsimp only
  rw [decide_eq_true h]
  rfl
theorem kR_inj (x y : Str × Str) (h : kR x = kR y) : x = y := by
  unfold kR at h
  have h' : [NestedKey.text x.1, NestedKey.text x.2] = [NestedKey.text y.1, NestedKey.text y.2] := by injection h
  rw [List.cons.injEq, List.cons.injEq] at h'
  obtain ⟨a, b, _⟩ := h'
  exact Prod.ext (by injection a) (by injection b)
theorem eqK_rds (a b : List (Str × Str)) : eqK (rds a) (rds b) = decide (a = b) := by
  unfold eqK
  rw [nk_rds, nk_rds]
  dsimp only
  rw [decide_eq_decide]
  constructor
  · intro h
    have h' : a.map kR = b.map kR := by injection h
    exact (List.map_inj_right kR_inj).mp h'
  · rintro rfl; rfl
def dF (F : List (List (Str × Str) × List Str)) : D := .dict (F.map fun q => (rds q.1, ps q.2))
def vF (F : List (List (Str × Str) × List Str)) (k : List (Str × Str)) : Option (List Str) := (F.find? fun q => decide (q.1 = k)).map (·.2)
theorem val_F (F : List (List (Str × Str) × List Str)) (k : List (Str × Str)) : valD (F.map fun q => (rds q.1, ps q.2)) (rds k) = (vF F k).map ps := by
  unfold valD vF
  induction F with
  | nil => rfl
  | cons q F ih =>
    rw [List.map_cons, List.find?_cons, List.find?_cons]
    dsimp only
    rw [eqK_rds]
    by_cases c : q.1 = k
    · simp [c]
    · simp only [c, decide_false]; exact ih
theorem suits_F (F : List (List (Str × Str) × List Str)) (k : List (Str × Str)) : suits (F.map fun q => (rds q.1, ps q.2)) (rds k) = true := by
  unfold suits
  rw [nkOk_rds]
  have : allN (F.map fun q => (rds q.1, ps q.2)) = true := by
    unfold allN
    rw [List.all_map, List.all_eq_true]
    intro x _; rfl
  rw [this]; simp
theorem has_F (F : List (List (Str × Str) × List Str)) (k : List (Str × Str)) (h : vF F k = none) : hasD (F.map fun q => (rds q.1, ps q.2)) (rds k) = false := by
  unfold vF at h
  rw [Option.map_eq_none_iff, List.find?_eq_none] at h
  unfold hasD
  rw [List.any_map, List.any_eq_false]
  intro q hq
  have := h q hq
  simp only [Function.comp, eqK_rds]
  exact this
theorem setdef_F {F : List (List (Str × Str) × List Str)} {k : List (Str × Str)} {v : List Str} (hl : F.length < 100000) :
    ∃ F' r, mtSetdef (dF F) [rds k, ps v] = some (dF F', r) ∧ F'.length ≤ F.length + 1 ∧ ∀ j, vF F' j = (vF F j).or (if k = j then some v else none) := by
  have g : (!isDict (ps v) && suits (F.map fun q => (rds q.1, ps q.2)) (rds k) && decide ((F.map fun q => (rds q.1, ps q.2)).length < big)) = true := by
    rw [suits_F, decide_eq_true (by rw [List.length_map]; exact hl)]; rfl
  have red : mtSetdef (dF F) [rds k, ps v] = match valD (F.map fun q => (rds q.1, ps q.2)) (rds k) with
      | some w => some (.dict (F.map fun q => (rds q.1, ps q.2)), w)
      | none => some (.dict (putD (F.map fun q => (rds q.1, ps q.2)) (rds k) (ps v)), ps v) := by
    show (if _ then _ else none) = _
    rw [if_pos g]
    try rfl
  rw [red, val_F]
  cases q : vF F k with
  | some w =>
    refine ⟨F, ps w, rfl, by omega, fun j => ?_⟩
    by_cases c : k = j
    · subst c; rw [q]; rfl
    · rw [if_neg c]; simp
  | none =>
    refine ⟨F ++ [(k, v)], ps v, ?_, by simp, fun j => ?_⟩
    · have : putD (F.map fun q => (rds q.1, ps q.2)) (rds k) (ps v) = (F ++ [(k, v)]).map fun q => (rds q.1, ps q.2) := by
        unfold putD; rw [has_F F k q]; simp
      dsimp only [Option.map_none]
      rw [this]
      rfl
    · unfold vF
      rw [List.find?_append, List.find?_cons]
      by_cases c : k = j
      · cases F.find? fun q => decide (q.1 = j) <;> simp [c]
      · cases F.find? fun q => decide (q.1 = j) <;> simp [c]
theorem ix_F {F : List (List (Str × Str) × List Str)} {k : List (Str × Str)} {v : List Str} (h : vF F k = some v) : dIxX (dF F) (rds k) = some (.val (ps v)) := by
  unfold dIxX orG dIx dIxM dF
  have e : rds k = .tuple (k.map rd) := rfl
  have hv := val_F F k
  rw [h] at hv
  simp only [suits_F, hv, if_true]
  rfl
theorem ne_ps {l : List Str} (h : ∀ x ∈ l, x ∈ NAMES) : dNe (ps l) (ps l) = some (.val (.bool false)) := by
  have := ne_tup inj_str (xs := l) (ys := l) ((sh_ps h).ok (by omega)) ((sh_ps h).ok (by omega))
  simp only [decide_true, Bool.not_true] at this
  exact this
theorem asked_two_ok {ns : List Int} (hl : ns.length ≤ 63) : s_law_asked_two [.list (ns.map .int)] = some (.val (.bool true), []) := by
  have main : Ends (s_law_asked_two [.list (ns.map .int)]) fun z => z = (.val (.bool true), []) := by
    refine Ends.gen fun K hK => ?_
    have c0 : max 1 (min (ns.length : Int) 3) = ((max 1 (min ns.length 3) : Nat) : Int) := by omega
    have r0 := rng_nat (n := max 1 (min ns.length 3)) (by omega)
    rw [← c0] at r0
    rw [r_law_asked_two, w_run]
    simp -implicitDefEqProofs [Option.bind_assoc]
    refine ends_for [.sh (.list (ns.map .int)), .no, .no, .no, .no, .no, .no, .no, .no] (fun i : Nat => .int (i : Int)) (List.range (max 1 (min ns.length 3))) (fun i ρ => ∃ s1 s2 s3 s4 s5 s6 s7 s8 : Z.Slot,
      ρ = [.sh (.list (ns.map .int)), s1, s2, s3, s4, s5, s6, s7, s8] ∧ Fre s1 ∧ Fre s2 ∧ Fre s3 ∧ Fre s4 ∧ Fre s5 ∧ Fre s6 ∧ Fre s7 ∧ Fre s8) ?_ ?_ ?_ ?_
    · simp -implicitDefEqProofs [r0]
    · exact ⟨_, _, _, _, _, _, _, _, rfl, fr_no, fr_no, fr_no, fr_no, fr_no, fr_no, fr_no, fr_no⟩
    · rintro i x ρ hx ⟨s1, s2, s3, s4, s5, s6, s7, s8, rfl, f1, f2, f3, f4, f5, f6, f7, f8⟩ K hK _
      have hx3 : x < 63 := by
        have := List.mem_of_getElem? hx
        rw [List.mem_range] at this
        omega
      obtain ⟨d, e1, g1⟩ := feed_ok (ns := ns) (k := x) hx3 hl
      obtain ⟨z, e2, P, R, d2, rfl, W, g2⟩ := any_ok (n := 1000) (d := d) (most := 5) (by omega) (by omega) (g1.mono (by omega))
      have e2 : s_law_any_web [d, .int 5] = some (.val (wb P R), [d2]) := e2
      have e5 := orders_ok W
      obtain ⟨z, e6, P2, R2, d4, rfl, W2, g4⟩ := any_ok (n := 500) (d := d2) (most := 8) (by omega) (by omega) (g2.mono (by omega))
      have e6 : s_law_any_web [d2, .int 8] = some (.val (wb P2 R2), [d4]) := e6
      obtain ⟨o2, d5, e7, ho2, g5⟩ := order_ok (n := 400) W2 (by omega) (g4.mono (by omega))
      have hlen : (M.allK P P.length).length ≤ 3125 := by
        have h1 := allK_len W.le P.length
        have h2 : 5 ^ P.length ≤ 5 ^ 5 := Nat.pow_le_pow_right (by omega) W.le
        omega
      simp -implicitDefEqProofs [put_fr f1, put_fr f2, put_fr f3, put_fr f4, e1, e2, Option.bind_assoc]
      refine ends_for [.sh (.list (ns.map .int)), .sh (.int x), .ow d2, .sh (wb P R), .ow (dF []), s5, s6, s7, s8] ps (M.allK P P.length) (fun j ρ => ∃ (F : List (List (Str × Str) × List Str)) (s5 : Z.Slot),
        ρ = [.sh (.list (ns.map .int)), .sh (.int x), .ow d2, .sh (wb P R), .ow (dF F), s5, s6, s7, s8] ∧ Fre s5 ∧ F.length ≤ j ∧ ∀ k, vF F k = ((M.allK P P.length).take j).find? fun z => decide (arr R z = k)) ?_ ?_ ?_ ?_
      · simp -implicitDefEqProofs [e5]
        rfl
      · exact ⟨[], _, rfl, f5, by simp, fun k => rfl⟩
      · rintro j y ρ hy ⟨F, s5, rfl, f5, hF, hv⟩ K hK _
        have hjl := (List.getElem?_eq_some_iff.mp hy).1
        obtain ⟨y1, y2, y3⟩ := mem_allK.mp (List.mem_of_getElem? hy)
        have hyp : y.Perm P := perm_of y1 y2 y3
        have a1 := arrows_ok W hyp
        have a2 := first_alike_ok W (by omega) hyp
        obtain ⟨F', r, q1, q2, q3⟩ := setdef_F (F := F) (k := arr R y) (v := y) (by omega)
        have tk : ∀ k, vF F' k = ((M.allK P P.length).take (j + 1)).find? fun z => decide (arr R z = k) := fun k => by
          have s1 : [y].find? (fun z => decide (arr R z = k)) = if arr R y = k then some y else none := by by_cases c : arr R y = k <;> simp [c]
          rw [q3, hv, List.take_add_one, hy, Option.toList_some, List.find?_append, s1]
        have ff := first_arr W.ok hyp W.nd
        have ex : vF F' (arr R y) = some (gr (arr R y) P P.length) := by
          rw [tk]
          have sp := List.take_append_drop (j + 1) (M.allK P P.length)
          rw [← sp, List.find?_append] at ff
          cases c : ((M.allK P P.length).take (j + 1)).find? fun z => decide (arr R z = arr R y) with
          | some w => rw [c] at ff; simpa using ff
          | none =>
            have m : y ∈ (M.allK P P.length).take (j + 1) := by
              rw [List.take_add_one, hy]; simp
            have := List.find?_eq_none.mp c y m
            simp at this
        have ix := ix_F ex
        have gp := (gr_perm W.ok hyp W.nd).1
        obtain ⟨S, rp⟩ := repr_ps (l := gr (arr R y) P P.length) (fun z hz => W.nm z (gp.mem_iff.mp hz)) (by have := gp.length_eq; have := W.le; omega)
        have isd : isDict (dF F) = true := rfl
        simp -implicitDefEqProofs [put_fr f5, a1, a2, isd, q1, ix, rp, Option.bind_assoc]
        exact hK _ ⟨F', _, rfl, fr_sh, by omega, tk⟩
      · rintro ρ' ⟨F, s5, rfl, f5, hF, hv⟩
        have a1 := arrows_ok W2 ho2
        have a2 := law_first_ok W2 (by omega) ho2
        obtain ⟨gp, ga⟩ := gr_perm W2.ok ho2 W2.nd
        obtain ⟨S, rp⟩ := repr_ps (l := gr (arr R2 o2) P2 P2.length) (fun z hz => W2.nm z (gp.mem_iff.mp hz)) (by have := gp.length_eq; have := W2.le; omega)
        have r4 : rngO [.int 4] = some ((List.range 4).map fun i : Nat => .int (i : Int)) := rng_nat (n := 4) (by omega)
        simp -implicitDefEqProofs [e6, e7, put_fr f5, put_fr f6, a1, a2, Option.bind_assoc]
        refine ends_for [.sh (.list (ns.map .int)), .sh (.int x), .ow d5, .sh (wb P2 R2), .ow (dF F), .sh (ps o2), .sh (ps (gr (arr R2 o2) P2 P2.length)), s7, s8] (fun i : Nat => .int (i : Int)) (List.range 4) (fun j ρ => ∃ (d' : D) (s7 s8 : Z.Slot),
          ρ = [.sh (.list (ns.map .int)), .sh (.int x), .ow d', .sh (wb P2 R2), .ow (dF F), .sh (ps o2), .sh (ps (gr (arr R2 o2) P2 P2.length)), s7, s8] ∧ Fre s7 ∧ Fre s8 ∧ Feed (20 * (4 - j)) d') ?_ ?_ ?_ ?_
        · simp -implicitDefEqProofs [r4]
        · exact ⟨_, _, _, rfl, f7, f8, g5.mono (by omega)⟩
        · rintro j t ρ hj ⟨d', s7, s8, rfl, f7, f8, fd⟩ K hK _
          have hj4 : j < 4 := by have := (List.getElem?_eq_some_iff.mp hj).1; simpa using this
          obtain ⟨z, q1, tt, y, d6, rfl, hyp, hal, fd2⟩ := like_ok (n := 20 * (4 - (j + 1))) (d := d') W2 (by omega) ho2 (fd.mono (by omega))
          have ix : dIxX (.tuple [tt, ps y]) (.int 1) = some (.val (ps y)) := o_ixT (n := 1) rfl
          have ea : arr R2 y = arr R2 o2 := ((arr_iff fun r hr => (W2.ok r hr).2.2).mpr hal).symm
          have a3 := first_alike_ok W2 (by omega) hyp
          rw [ea] at a3
          simp -implicitDefEqProofs [put_fr f7, put_fr f8, q1, ix, a3, rp, ro2, ms_first_alike, Option.bind_assoc]
          exact hK _ ⟨d6, _, _, rfl, fr_sh, fr_sh, fd2⟩
        · rintro ρ' ⟨d', s7, s8, rfl, f7, f8, fd⟩
          have a3 := first_alike_ok W2 (by omega) gp
          rw [ga] at a3
          have n1 := ne_ps (l := gr (arr R2 o2) P2 P2.length) fun z hz => W2.nm z (gp.mem_iff.mp hz)
          have a4 := alike_ok W2 (by omega) gp ho2
          rw [decide_eq_true ga] at a4
          have is : orG (dIsB true) (dIsNo true) (.bool true) (.bool true) = some (.val (.bool false)) := rfl
          simp -implicitDefEqProofs [a3, n1, a4, is, Option.bind_assoc]
          exact hK _ ⟨_, _, _, _, _, _, _, _, rfl, fr_sh, fr_ow, fr_sh, fr_ow, fr_sh, fr_sh, f7, f8⟩
    · rintro ρ' ⟨s1, s2, s3, s4, s5, s6, s7, s8, rfl, f1, f2, f3, f4, f5, f6, f7, f8⟩
      simp -implicitDefEqProofs []
      exact hK _ rfl
  obtain ⟨z, e, rfl⟩ := main
  exact e
theorem law_holds : Z.Holds s_law 63 := by
  intro ns hl _
  rw [r_law, w_run]
  simp -implicitDefEqProofs [asked_one_ok hl, asked_two_ok hl]
end T
end

section
set_option Elab.async false
set_option linter.all false
set_option maxRecDepth 100000
set_option maxHeartbeats 2000000
open PySem PySem.W PyProof.Rows
set_option maxRecDepth 100000 in
set_option maxHeartbeats 0 in
theorem PySem.Challenge.cw_allseen_k27_arrows_of_orders_and_first_a_holds : PySem.Challenge.rw_allseen_k27_arrows_of_orders_and_first_a.Holds := by
  w_on; o_law; k_head; (case hw => w_witness2)
  k_fill
  refine T.walk (l := PySem.Challenge.rw_allseen_k27_arrows_of_orders_and_first_a) rfl rfl rfl (fun w h Y => PySem.W.kIn_of Y) ?L ?C ?B ?t1 ?t2 ?t3 ?t12 ?t13 ?t14 ?t18 ?t19 ?t20 ?t21 ?t22 ?t23 ?t25 ?t26 ?t27 ?t28 ?t30 ?t31 ?t32 ?t33 ?t34 ?t35 ?t36 ?t37 ?t38 ?t39 ?t40 ?t41 ?t42 ?t43 ?t44 ?t45 ?t46 ?t47 ?t48
  case L => exact T.law_holds
  case C =>
    intro w
    refine' Z.CsOk.str ?hcLETTERS ?_; (case hcLETTERS => k_is)
    refine' Z.CsOk.str ?hcDIGITS ?_; (case hcDIGITS => k_is)
    refine' Z.CsOk.int ?hcMOST_SIGNS ?_; (case hcMOST_SIGNS => k_is)
    refine' Z.CsOk.int ?hcMOST_PLACES ?_; (case hcMOST_PLACES => k_is)
    refine' Z.CsOk.int ?hcMOST_ROADS ?_; (case hcMOST_ROADS => k_is)
    exact Z.CsOk.nil
  case B =>
    intro w
    refine' Z.bl_cons ?hb0 ?_; (case hb0 => k_is)
    refine' Z.bl_cons ?hb1 ?_; (case hb1 => k_is)
    refine' Z.bl_cons ?hb2 ?_; (case hb2 => k_is)
    refine' Z.bl_cons ?hb3 ?_; (case hb3 => k_is)
    refine' Z.bl_cons ?hb4 ?_; (case hb4 => k_is)
    refine' Z.bl_cons ?hb5 ?_; (case hb5 => k_is)
    refine' Z.bl_cons ?hb6 ?_; (case hb6 => k_is)
    refine' Z.bl_cons ?hb7 ?_; (case hb7 => k_is)
    refine' Z.bl_cons ?hb8 ?_; (case hb8 => k_is)
    refine' Z.bl_cons ?hb9 ?_; (case hb9 => k_is)
    refine' Z.bl_cons ?hb10 ?_; (case hb10 => k_is)
    refine' Z.bl_cons ?hb11 ?_; (case hb11 => k_is)
    refine' Z.bl_cons ?hb12 ?_; (case hb12 => k_is)
    refine' Z.bl_cons ?hb13 ?_; (case hb13 => k_is)
    refine' Z.bl_cons ?hb14 ?_; (case hb14 => k_is)
    refine' Z.bl_cons ?hb15 ?_; (case hb15 => k_is)
    refine' Z.bl_cons ?hb16 ?_; (case hb16 => k_is)
    refine' Z.bl_cons ?hb17 ?_; (case hb17 => k_is)
    exact Z.bl_nil
  case t1 => intro w; refine' Z.TopD.mk ?a1 ?l1 ?c1; (case a1 => k_is); (case l1 => k_is); (case c1 => k_is)
  case t2 => intro w; refine' Z.TopD.mk ?a2 ?l2 ?c2; (case a2 => k_is); (case l2 => k_is); (case c2 => k_is)
  case t3 => intro w; refine' Z.TopD.mk ?a3 ?l3 ?c3; (case a3 => k_is); (case l3 => k_is); (case c3 => k_is)
  case t12 => intro w; refine' Z.TopD.mk ?a12 ?l12 ?c12; (case a12 => k_is); (case l12 => k_is); (case c12 => k_is)
  case t13 => intro w; refine' Z.TopD.mk ?a13 ?l13 ?c13; (case a13 => k_is); (case l13 => k_is); (case c13 => k_is)
  case t14 => intro w; refine' Z.TopD.mk ?a14 ?l14 ?c14; (case a14 => k_is); (case l14 => k_is); (case c14 => k_is)
  case t18 => intro w; refine' Z.TopD.mk ?a18 ?l18 ?c18; (case a18 => k_is); (case l18 => k_is); (case c18 => k_is)
  case t19 => intro w; refine' Z.TopD.mk ?a19 ?l19 ?c19; (case a19 => k_is); (case l19 => k_is); (case c19 => k_is)
  case t20 => intro w; refine' Z.TopD.mk ?a20 ?l20 ?c20; (case a20 => k_is); (case l20 => k_is); (case c20 => k_is)
  case t21 => intro w; refine' Z.TopD.mk ?a21 ?l21 ?c21; (case a21 => k_is); (case l21 => k_is); (case c21 => k_is)
  case t22 => intro w; refine' Z.TopD.mk ?a22 ?l22 ?c22; (case a22 => k_is); (case l22 => k_is); (case c22 => k_is)
  case t23 => intro w; refine' Z.TopD.mk ?a23 ?l23 ?c23; (case a23 => k_is); (case l23 => k_is); (case c23 => k_is)
  case t25 => intro w; refine' Z.TopD.mk ?a25 ?l25 ?c25; (case a25 => k_is); (case l25 => k_is); (case c25 => k_is)
  case t26 => intro w; refine' Z.TopD.mk ?a26 ?l26 ?c26; (case a26 => k_is); (case l26 => k_is); (case c26 => k_is)
  case t27 => intro w; refine' Z.TopD.mk ?a27 ?l27 ?c27; (case a27 => k_is); (case l27 => k_is); (case c27 => k_is)
  case t28 => intro w; refine' Z.TopD.mk ?a28 ?l28 ?c28; (case a28 => k_is); (case l28 => k_is); (case c28 => k_is)
  case t30 => intro w; refine' Z.TopD.mk ?a30 ?l30 ?c30; (case a30 => k_is); (case l30 => k_is); (case c30 => k_is)
  case t31 => intro w; refine' Z.TopD.mk ?a31 ?l31 ?c31; (case a31 => k_is); (case l31 => k_is); (case c31 => k_is)
  case t32 => intro w; refine' Z.TopD.mk ?a32 ?l32 ?c32; (case a32 => k_is); (case l32 => k_is); (case c32 => k_is)
  case t33 => intro w; refine' Z.TopD.mk ?a33 ?l33 ?c33; (case a33 => k_is); (case l33 => k_is); (case c33 => k_is)
  case t34 => intro w; refine' Z.TopD.mk ?a34 ?l34 ?c34; (case a34 => k_is); (case l34 => k_is); (case c34 => k_is)
  case t35 => intro w; refine' Z.TopD.mk ?a35 ?l35 ?c35; (case a35 => k_is); (case l35 => k_is); (case c35 => k_is)
  case t36 => intro w; refine' Z.TopD.mk ?a36 ?l36 ?c36; (case a36 => k_is); (case l36 => k_is); (case c36 => k_is)
  case t37 => intro w; refine' Z.TopD.mk ?a37 ?l37 ?c37; (case a37 => k_is); (case l37 => k_is); (case c37 => k_is)
  case t38 => intro w; refine' Z.TopD.mk ?a38 ?l38 ?c38; (case a38 => k_is); (case l38 => k_is); (case c38 => k_is)
  case t39 => intro w; refine' Z.TopD.mk ?a39 ?l39 ?c39; (case a39 => k_is); (case l39 => k_is); (case c39 => k_is)
  case t40 => intro w; refine' Z.TopD.mk ?a40 ?l40 ?c40; (case a40 => k_is); (case l40 => k_is); (case c40 => k_is)
  case t41 => intro w; refine' Z.TopD.mk ?a41 ?l41 ?c41; (case a41 => k_is); (case l41 => k_is); (case c41 => k_is)
  case t42 => intro w; refine' Z.TopD.mk ?a42 ?l42 ?c42; (case a42 => k_is); (case l42 => k_is); (case c42 => k_is)
  case t43 => intro w; refine' Z.TopD.mk ?a43 ?l43 ?c43; (case a43 => k_is); (case l43 => k_is); (case c43 => k_is)
  case t44 => intro w; refine' Z.TopD.mk ?a44 ?l44 ?c44; (case a44 => k_is); (case l44 => k_is); (case c44 => k_is)
  case t45 => intro w; refine' Z.TopD.mk ?a45 ?l45 ?c45; (case a45 => k_is); (case l45 => k_is); (case c45 => k_is)
  case t46 => intro w; refine' Z.TopD.mk ?a46 ?l46 ?c46; (case a46 => k_is); (case l46 => k_is); (case c46 => k_is)
  case t47 => intro w; refine' Z.TopD.mk ?a47 ?l47 ?c47; (case a47 => k_is); (case l47 => k_is); (case c47 => k_is)
  case t48 => intro w; refine' Z.TopD.mk ?a48 ?l48 ?c48; (case a48 => k_is); (case l48 => k_is); (case c48 => k_is)
end

