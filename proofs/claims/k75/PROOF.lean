import PyProof.Rows.All
import Wide.All
import OpenK.AllK
import Wide.FinOn
import HandS.ForMost
import HandS.ForExc
import HandS.Flow
import HandS.CallLocal
import KE.KDictKeyed
import KE.KeyNested
import KE.DataMinMax
import HandS.TupAny
import HandS.TupMul
import HandS.Style
import HandS.IsInst
import HandS.Deep
import PyProof.SumAny
import HandS.Walk
import HandS.CallSlots
import HandS.WordsExc
import PyProof.Claim2Refuses
import HandS.SetFor
import HandS.Conv
import KE.GoesEnum
import HandS.Zip
import HandS.Ends
import PySem.Challenge.RW_sortingoffice_k75_whole_counts_of_wishes
set_option Elab.async false
set_option linter.all false
set_option maxRecDepth 100000
set_option maxHeartbeats 4000000
namespace Fw
open PySem PySem.Spec L2

/-! ### plain data -/
abbrev D := PyData
/-- a def of the module, as data -/
def fnD (x : Str) : D := .dict [(.none, .str x)]

/-- the law's script, as data: read by list(script) alone -/
def scrD (l : List D) : D := .dict [(.none, .list l)]

/-- what stands around: program, world, the written part, the module's names -/
structure Th where
  P : Program
  w : World
  K : PySem.W.Frag
  M : Str → Option Value
abbrev thOf (X : Cx) : Th := ⟨X.prog, X.w, X.K, X.mg⟩

/-- a dict object, pinned -/
def dO (a : Addr) (o : Obj) : HO := .ext fun h => h.get? a = some o

mutual
def nk : D → NestedKey
  | .int i => .num i
  | .tuple l => .tup (nks l)
  | _ => .none
def nks : List D → List NestedKey
  | [] => []
  | d :: r => nk d :: nks r
end
mutual
/-- tuples of ints, nested -/
def tupK : D → Bool
  | .tuple l => tupKs l
  | _ => false
def tupK0 : D → Bool
  | .int _ => true
  | .tuple l => tupKs l
  | _ => false
def tupKs : List D → Bool
  | [] => true
  | d :: r => tupK0 d && tupKs r
end
/-- a key that is a tuple -/
def keyT (d : D) : Bool := tupK d && decide ((nk d).depth ≤ 8)
structure EntI (Θ : Th) (o : Obj) (vs : List (Int × Value)) : Prop where
  ex : o.ExactDict
  dat : ∃ es ep, o.data = .dict es ep ∧ KeysOf (intKind Θ.P Θ.w) es ∧ Pairs (intKind Θ.P Θ.w) es.toList vs
  nd : (vs.map (·.1)).Nodup
structure EntT (Θ : Th) (o : Obj) (zs : List (NestedKey × Addr × Value)) : Prop where
  ex : o.ExactDict
  dat : ∃ es ep, o.data = .dict es ep ∧ es.toList = zs.map (entryOfKey (nestedKind Θ.P Θ.w))
  nd : (zs.map (·.1)).Nodup
/-- a dict's object: the values of its keys and of its items, from the first; the keys -/
inductive EntOk (Θ : Th) (a : Addr) (o : Obj) : List V → List V → List D → Prop
  | int {kvs : List (Int × V)} {vs : List (Int × Value)} : (a == sysModules) = false → kvs.length ≤ sizeLine → EntI Θ o vs → KV kvs vs → EntOk Θ a o (kvs.map fun p => V.int p.1) (kvs.map (·.2)) (kvs.map fun p => PyData.int p.1)
  | tup {zs : List (NestedKey × Addr × Value)} {xs : List V} {ks : List D} : (a == sysModules) = false → zs.length ≤ sizeLine → EntT Θ o zs → Vals xs (zs.map (·.2.2)) → ks.map nk = zs.map (·.1) → (ks.all keyT) = true →
      EntOk Θ a o (zs.map fun z => V.ref z.2.1) xs ks

mutual
inductive DV (Θ : Th) (G : Hp) : V → D → Prop
  | non : DV Θ G .non .none
  | bl (b : Bool) : DV Θ G (.bl b) (.bool b)
  | int (i : Int) : DV Θ G (.int i) (.int i)
  | str (x : Str) : DV Θ G (.str x) (.str x)
  | tup {a : Addr} {xs : List V} {ds : List D} : SqT Θ.K G a xs → DVs Θ G xs ds → DV Θ G (.ref a) (.tuple ds)
  | lst {a : Addr} {xs : List V} {ds : List D} : G a = some (.lst xs) → DVs Θ G xs ds → DV Θ G (.ref a) (.list ds)
  | dct {a : Addr} {o : Obj} {kxs xs : List V} {kvs : List (D × D)} : G a = some (dO a o) → EntOk Θ a o kxs xs (kvs.map (·.1)) → DVs Θ G kxs (kvs.map (·.1)) → DVs Θ G xs (kvs.map (·.2)) → DV Θ G (.ref a) (.dict kvs)
  | fn {x : Str} {f : Addr} : Θ.M x = some (.ref f) → PySem.W.keepIn Θ.K (.ref f) = true → DV Θ G (.ref f) (fnD x)
  | scr {a : Addr} {xs : List V} {ds : List D} : SqL Θ.K G a xs → DVs Θ G xs ds → DV Θ G (.ref a) (scrD ds)
inductive DVs (Θ : Th) (G : Hp) : List V → List D → Prop
  | nil : DVs Θ G [] []
  | cons {x : V} {d : D} {xs : List V} {ds : List D} : DV Θ G x d → DVs Θ G xs ds → DVs Θ G (x :: xs) (d :: ds)
end

theorem _root_.L2.Rd.same {H H' : Hp} {a : Addr} {u : HO} (e : Same H H') (r : Rd H a u) : Rd H' a u := by
  rcases r with r | ⟨o, r⟩
  · exact .inl (e _ _ r)
  · exact .inr ⟨o, e _ _ r⟩
theorem sqL_same {K : PySem.W.Frag} {H H' : Hp} {a : Addr} {xs : List V} (e : Same H H') (r : SqL K H a xs) : SqL K H' a xs := by
  rcases r with r | r
  · exact .inl (r.same e)
  · exact .inr r
theorem sqT_same {K : PySem.W.Frag} {H H' : Hp} {a : Addr} {xs : List V} (e : Same H H') (r : SqT K H a xs) : SqT K H' a xs := by
  rcases r with r | r
  · exact .inl (r.same e)
  · exact .inr r

mutual
theorem DV.same {Θ : Th} {G G' : Hp} (e : Same G G') {v : V} {d : D} : DV Θ G v d → DV Θ G' v d
  | .non => .non
  | .bl b => .bl b
  | .int i => .int i
  | .str x => .str x
  | .tup h t => .tup (sqT_same e h) (DVs.same e t)
  | .lst h t => .lst (e _ _ h) (DVs.same e t)
  | .dct h o k t => .dct (e _ _ h) o (DVs.same e k) (DVs.same e t)
  | .fn h k => .fn h k
  | .scr h t => .scr (sqL_same e h) (DVs.same e t)
theorem DVs.same {Θ : Th} {G G' : Hp} (e : Same G G') {vs : List V} {ds : List D} : DVs Θ G vs ds → DVs Θ G' vs ds
  | .nil => .nil
  | .cons h t => .cons (DV.same e h) (DVs.same e t)
end

section
variable {Θ : Th} {G : Hp}
theorem DVs.length : ∀ {vs : List V} {ds : List D}, DVs Θ G vs ds → vs.length = ds.length
  | _, _, .nil => rfl
  | _, _, .cons _ t => by simp [DVs.length t]
theorem DVs.get : ∀ {vs : List V} {ds : List D} {i : Nat} {d : D}, DVs Θ G vs ds → ds[i]? = some d → ∃ v, vs[i]? = some v ∧ DV Θ G v d
  | _, _, _, _, .nil, h => by simp at h
  | _, _, 0, _, .cons h _, e => by simp at e; subst e; exact ⟨_, rfl, h⟩
  | _, _, i + 1, d, .cons _ t, e => by
    obtain ⟨v, h1, h2⟩ := DVs.get (i := i) (d := d) t (by simpa using e)
    exact ⟨v, by simpa using h1, h2⟩
theorem DVs.getV : ∀ {vs : List V} {ds : List D} {i : Nat} {v : V}, DVs Θ G vs ds → vs[i]? = some v → ∃ d, ds[i]? = some d ∧ DV Θ G v d
  | _, _, _, _, .nil, h => by simp at h
  | _, _, 0, _, .cons h _, e => by simp at e; subst e; exact ⟨_, rfl, h⟩
  | _, _, i + 1, d, .cons _ t, e => by
    obtain ⟨v, h1, h2⟩ := DVs.getV (i := i) (v := d) t (by simpa using e)
    exact ⟨v, by simpa using h1, h2⟩
theorem DVs.append : ∀ {vs ws : List V} {ds es : List D}, DVs Θ G vs ds → DVs Θ G ws es → DVs Θ G (vs ++ ws) (ds ++ es)
  | _, _, _, _, .nil, h => h
  | _, _, _, _, .cons h t, q => .cons h (DVs.append t q)
theorem DVs.take : ∀ {vs : List V} {ds : List D} (n : Nat), DVs Θ G vs ds → DVs Θ G (vs.take n) (ds.take n)
  | _, _, 0, _ => .nil
  | _, _, _ + 1, .nil => .nil
  | _, _, n + 1, .cons h t => .cons h (DVs.take n t)
theorem DVs.drop : ∀ {vs : List V} {ds : List D} (n : Nat), DVs Θ G vs ds → DVs Θ G (vs.drop n) (ds.drop n)
  | _, _, 0, h => h
  | _, _, _ + 1, .nil => .nil
  | _, _, n + 1, .cons _ t => DVs.drop n t
theorem DVs.reverse {vs : List V} {ds : List D} (h : DVs Θ G vs ds) : DVs Θ G vs.reverse ds.reverse := by
  induction vs generalizing ds with
  | nil => cases h; exact .nil
  | cons v vs ih =>
    cases h with
    | cons h t =>
      rw [List.reverse_cons, List.reverse_cons]
      exact (ih t).append (.cons h .nil)
theorem DVs.set : ∀ {vs : List V} {ds : List D} (i : Nat) {v : V} {d : D}, DVs Θ G vs ds → DV Θ G v d → DVs Θ G (vs.set i v) (ds.set i d)
  | _, _, _, _, _, .nil, _ => .nil
  | _, _, 0, _, _, .cons _ t, q => .cons q t
  | _, _, i + 1, _, _, .cons h t, q => .cons h (DVs.set i t q)
theorem DVs.eraseIdx : ∀ {vs : List V} {ds : List D} (i : Nat), DVs Θ G vs ds → DVs Θ G (vs.eraseIdx i) (ds.eraseIdx i)
  | _, _, _, .nil => .nil
  | _, _, 0, .cons _ t => t
  | _, _, i + 1, .cons h t => .cons h (DVs.eraseIdx i t)
theorem DVs.replicate {v : V} {d : D} (h : DV Θ G v d) : ∀ n : Nat, DVs Θ G (List.replicate n v) (List.replicate n d)
  | 0 => .nil
  | n + 1 => .cons h (DVs.replicate h n)
theorem DVs.ints : ∀ ns : List Int, DVs Θ G (ns.map V.int) (ns.map PyData.int)
  | [] => .nil
  | _ :: r => .cons (.int _) (DVs.ints r)
end

/-! ### cells, the state of a body -/
inductive Cell where
  | v (d : D) | o (d : D)
abbrev FS := List (Option Cell)
/-- an object of its own, with its contents -/
inductive OV (Θ : Th) (G H : Hp) (a : Addr) : D → Prop
  | lst {xs : List V} {ds : List D} : H a = some (.lst xs) → DVs Θ G xs ds → OV Θ G H a (.list ds)
  | dct {o : Obj} {kxs xs : List V} {kvs : List (D × D)} : H a = some (dO a o) → EntOk Θ a o kxs xs (kvs.map (·.1)) → DVs Θ G kxs (kvs.map (·.1)) → DVs Θ G xs (kvs.map (·.2)) → OV Θ G H a (.dict kvs)
theorem OV.there {Θ : Th} {G H : Hp} {a : Addr} {d : D} (h : OV Θ G H a d) : ∃ o, H a = some o := by
  cases h with
  | lst e _ => exact ⟨_, e⟩
  | dct e _ _ _ => exact ⟨_, e⟩
theorem OV.same {Θ : Th} {G G' H H' : Hp} {a : Addr} {d : D} (e : Same G G') (e' : H' a = H a) (h : OV Θ G H a d) : OV Θ G' H' a d := by
  cases h with
  | lst q t => exact .lst (e'.trans q) (t.same e)
  | dct q o k t => exact .dct (e'.trans q) o (k.same e) (t.same e)
/-- the object is let go: from now on it is read alone -/
theorem OV.freeze {Θ : Th} {G H : Hp} {a : Addr} {d : D} (h : OV Θ G H a d) (hn : G a = none) : ∃ o, H a = some o ∧ DV Θ (upd G a o) (.ref a) d := by
  have sm : ∀ o, Same G (upd G a o) := fun o b u q => by rw [upd_ne (ne_of_none q hn)]; exact q
  cases h with
  | lst q t => exact ⟨_, q, .lst upd_same (t.same (sm _))⟩
  | dct q o k t => exact ⟨_, q, .dct upd_same o (k.same (sm _)) (t.same (sm _))⟩

def Own (ŝ : FS) (σ : L2.St) (a : Addr) : Prop := ∃ (i : Nat) (d : D), ŝ[i]? = some (some (.o d)) ∧ σ[i]? = some (some (.ref a))

structure Rep (Θ : Th) (G : Hp) (T : List (Addr × D)) (ŝ : FS) (σ : L2.St) (H : Hp) : Prop where
  sub : Same G H
  len : ŝ.length = σ.length
  val : ∀ {i : Nat} {d : D}, ŝ[i]? = some (some (.v d)) → ∃ x, σ[i]? = some (some x) ∧ DV Θ G x d
  own : ∀ {i : Nat} {d : D}, ŝ[i]? = some (some (.o d)) → ∃ a, σ[i]? = some (some (.ref a)) ∧ G a = none ∧ OV Θ G H a d
  tmp : ∀ {a : Addr} {d : D}, (a, d) ∈ T → G a = none ∧ OV Θ G H a d
  inj : ∀ {i j : Nat} {d d' : D} {a : Addr}, ŝ[i]? = some (some (.o d)) → ŝ[j]? = some (some (.o d')) → σ[i]? = some (some (.ref a)) → σ[j]? = some (some (.ref a)) → i = j
  tnd : (T.map (·.1)).Nodup
  tne : ∀ {a : Addr} {d : D}, (a, d) ∈ T → ¬ Own ŝ σ a

/-- what may have changed: new objects, and those owned (O) -/
structure Ext (O : Addr → Prop) (H G H' G' : Hp) : Prop where
  gg : Same G G'
  fr : ∀ b o, H b = some o → ¬ O b → H' b = some o
  nw : ∀ b o, G' b = some o → G b = some o ∨ H b = none ∨ O b
  th : ∀ b o, H b = some o → ∃ o', H' b = some o'
theorem Ext.refl {O : Addr → Prop} {H G : Hp} : Ext O H G H G := ⟨Same.refl G, fun _ _ h _ => h, fun _ _ h => .inl h, fun _ o h => ⟨o, h⟩⟩
theorem Ext.trans {O O1 : Addr → Prop} {H G H1 G1 H2 G2 : Hp} (a : Ext O H G H1 G1) (b : Ext O1 H1 G1 H2 G2) (h : ∀ b o, O1 b → H b = some o → O b) : Ext O H G H2 G2 where
  gg := a.gg.trans b.gg
  fr := fun c o q n => b.fr c o (a.fr c o q n) fun z => n (h c o z q)
  nw := fun c o q => by
    rcases b.nw c o q with z | z | z
    · exact a.nw c o z
    · cases e : H c with
      | none => exact .inr (.inl rfl)
      | some u => obtain ⟨o', q'⟩ := a.th c u e; rw [z] at q'; cases q'
    · cases e : H c with
      | none => exact .inr (.inl rfl)
      | some u => exact .inr (.inr (h c u z e))
  th := fun c o q => by obtain ⟨o', q'⟩ := a.th c o q; exact b.th c o' q'
theorem Ext.mono {O O1 : Addr → Prop} {H G H1 G1 : Hp} (a : Ext O H G H1 G1) (h : ∀ b o, O b → H b = some o → O1 b) : Ext O1 H G H1 G1 where
  gg := a.gg
  fr := fun c o q n => a.fr c o q fun z => n (h c o z q)
  nw := fun c o q => by
    rcases a.nw c o q with z | z | z
    · exact .inl z
    · exact .inr (.inl z)
    · cases e : H c with
      | none => exact .inr (.inl rfl)
      | some u => exact .inr (.inr (h c u z e))
  th := a.th
end Fw

set_option Elab.async false
set_option linter.all false
set_option maxRecDepth 100000
set_option maxHeartbeats 4000000
namespace Fw
open PySem PySem.Spec L2

section
variable {Θ : Th} {G G' H H' : Hp} {T : List (Addr × D)} {ŝ : FS} {σ : L2.St} {i : Nat} {a p : Addr} {d : D}
theorem same_upd {o : HO} (h : G a = none) : Same G (upd G a o) := fun b u q => by rw [upd_ne (ne_of_none q h)]; exact q
theorem set_get {α : Type} {l : List α} {i j : Nat} {x y : α} (h : (l.set i x)[j]? = some y) : (i = j ∧ y = x ∧ i < l.length) ∨ (i ≠ j ∧ l[j]? = some y) := by
  by_cases e : i = j
  · subst e
    by_cases hl : i < l.length
    · rw [List.getElem?_set_self hl] at h; cases h; exact .inl ⟨rfl, rfl, hl⟩
    · rw [List.getElem?_eq_none (by rw [List.length_set]; omega)] at h; cases h
  · rw [List.getElem?_set_ne e] at h; exact .inr ⟨e, h⟩
theorem get_set_ne {α : Type} {l : List α} {i j : Nat} {x : α} (h : i ≠ j) : (l.set i x)[j]? = l[j]? := List.getElem?_set_ne h
theorem get_set_self {α : Type} {l : List α} {i : Nat} {x : α} (h : i < l.length) : (l.set i x)[i]? = some x := List.getElem?_set_self h
theorem lt_get {α : Type} {l : List α} {i : Nat} {x : α} (h : l[i]? = some x) : i < l.length := (List.getElem?_eq_some_iff.mp h).1
theorem own_lt (h : Own ŝ σ a) : ∃ i, i < σ.length := by
  obtain ⟨i, d, _, e⟩ := h; exact ⟨i, lt_get e⟩

theorem Rep.ownG (R : Rep Θ G T ŝ σ H) (h : Own ŝ σ a) : G a = none ∧ ∃ d, OV Θ G H a d := by
  obtain ⟨i, d, e1, e2⟩ := h
  obtain ⟨a', e3, n, v⟩ := R.own e1
  rw [e2] at e3; cases e3
  exact ⟨n, _, v⟩
theorem Rep.ownH (R : Rep Θ G T ŝ σ H) (h : Own ŝ σ a) : ∃ o, H a = some o := by
  obtain ⟨_, d, v⟩ := R.ownG h; exact v.there
theorem Rep.drop {t : Addr × D} (R : Rep Θ G (t :: T) ŝ σ H) : Rep Θ G T ŝ σ H :=
  ⟨R.sub, R.len, R.val, R.own, fun h => R.tmp (List.mem_cons_of_mem _ h), R.inj, (List.nodup_cons.mp R.tnd).2, fun h => R.tne (List.mem_cons_of_mem _ h)⟩
/-- the heap grows -/
theorem Rep.grow (R : Rep Θ G T ŝ σ H) (e : Same H H') : Rep Θ G T ŝ σ H' where
  sub := R.sub.trans e
  len := R.len
  val := R.val
  own := fun h => by
    obtain ⟨a, e1, n, v⟩ := R.own h
    obtain ⟨o, q⟩ := v.there
    exact ⟨a, e1, n, v.same (Same.refl _) ((e _ _ q).trans q.symm)⟩
  tmp := fun h => by
    obtain ⟨n, v⟩ := R.tmp h
    obtain ⟨o, q⟩ := v.there
    exact ⟨n, v.same (Same.refl _) ((e _ _ q).trans q.symm)⟩
  inj := R.inj
  tnd := R.tnd
  tne := R.tne
/-- a new object, told to all -/
theorem Rep.tell {o : HO} (R : Rep Θ G T ŝ σ H) (hp : H p = none) : Rep Θ (upd G p o) T ŝ σ (upd H p o) := by
  have gp : G p = none := by
    cases e : G p with
    | none => rfl
    | some u => rw [R.sub _ _ e] at hp; cases hp
  have R1 := R.grow (same_upd (o := o) hp)
  refine ⟨fun b u q => ?_, R.len, fun h => ?_, fun h => ?_, fun h => ?_, R.inj, R.tnd, R.tne⟩
  · by_cases e : b = p
    · subst e; rw [upd_same] at q ⊢; exact q
    · rw [upd_ne e] at q ⊢; exact R.sub _ _ q
  · obtain ⟨x, e1, v⟩ := R.val h
    exact ⟨x, e1, v.same (same_upd gp)⟩
  · obtain ⟨a, e1, n, v⟩ := R1.own h
    obtain ⟨a2, e2, _, v2⟩ := R.own h
    rw [e1] at e2; cases e2
    obtain ⟨u, q⟩ := v2.there
    exact ⟨a, e1, by rw [upd_ne (ne_of_none q hp)]; exact n, v.same (same_upd gp) rfl⟩
  · obtain ⟨n, v⟩ := R1.tmp h
    obtain ⟨_, v2⟩ := R.tmp h
    obtain ⟨u, q⟩ := v2.there
    exact ⟨by rw [upd_ne (ne_of_none q hp)]; exact n, v.same (same_upd gp) rfl⟩
theorem Ext.tell {O : Addr → Prop} {o : HO} (sub : Same G H) (hp : H p = none) : Ext O H G (upd H p o) (upd G p o) where
  gg := same_upd (by
    cases e : G p with
    | none => rfl
    | some u => rw [sub _ _ e] at hp; cases hp)
  fr := fun b u q _ => by rw [upd_ne (ne_of_none q hp)]; exact q
  nw := fun b u q => by
    by_cases e : b = p
    · subst e; exact .inr (.inl hp)
    · rw [upd_ne e] at q; exact .inl q
  th := fun b u q => ⟨u, by rw [upd_ne (ne_of_none q hp)]; exact q⟩
/-- a new object, of the one who made it -/
theorem Rep.made {o : HO} (R : Rep Θ G T ŝ σ H) (hp : H p = none) (v : OV Θ G (upd H p o) p d) : Rep Θ G ((p, d) :: T) ŝ σ (upd H p o) := by
  have gp : G p = none := by
    cases e : G p with
    | none => rfl
    | some u => rw [R.sub _ _ e] at hp; cases hp
  have R1 := R.grow (same_upd (o := o) hp)
  refine ⟨R1.sub, R.len, R.val, R1.own, fun h => ?_, R.inj, ?_, fun h => ?_⟩
  · rcases List.mem_cons.mp h with e | h
    · cases e; exact ⟨gp, v⟩
    · exact R1.tmp h
  · refine List.nodup_cons.mpr ⟨fun h => ?_, R.tnd⟩
    obtain ⟨⟨b, e⟩, hm, rfl⟩ := List.mem_map.mp h
    obtain ⟨_, v2⟩ := R.tmp hm
    obtain ⟨u, q⟩ := v2.there
    rw [hp] at q; cases q
  · rcases List.mem_cons.mp h with e | h
    · cases e
      intro z
      obtain ⟨u, q⟩ := R.ownH z
      rw [hp] at q; cases q
    · exact R.tne h
theorem Ext.made {O : Addr → Prop} {o : HO} (hp : H p = none) : Ext O H G (upd H p o) G where
  gg := Same.refl G
  fr := fun b u q _ => by rw [upd_ne (ne_of_none q hp)]; exact q
  nw := fun b u q => .inl q
  th := fun b u q => ⟨u, by rw [upd_ne (ne_of_none q hp)]; exact q⟩
/-- a temporary object is told to all -/
theorem Rep.freeze (R : Rep Θ G ((a, d) :: T) ŝ σ H) : ∃ o, H a = some o ∧ Rep Θ (upd G a o) T ŝ σ H ∧ DV Θ (upd G a o) (.ref a) d := by
  obtain ⟨n, v⟩ := R.tmp List.mem_cons_self
  obtain ⟨o, q, dv⟩ := v.freeze n
  have ndT := List.nodup_cons.mp R.tnd
  refine ⟨o, q, ⟨fun b u e => ?_, R.len, fun h => ?_, fun h => ?_, fun {b e} h => ?_, R.inj, ndT.2, fun h => R.tne (List.mem_cons_of_mem _ h)⟩, dv⟩
  · by_cases z : b = a
    · subst z; rw [upd_same] at e; cases e; exact q
    · rw [upd_ne z] at e; exact R.sub _ _ e
  · obtain ⟨x, e1, v⟩ := R.val h
    exact ⟨x, e1, v.same (same_upd n)⟩
  · obtain ⟨b, e1, n1, v1⟩ := R.own h
    have hb : b ≠ a := fun z => R.tne List.mem_cons_self ⟨_, _, h, z ▸ e1⟩
    exact ⟨b, e1, by rw [upd_ne hb]; exact n1, v1.same (same_upd n) rfl⟩
  · obtain ⟨n1, v1⟩ := R.tmp (List.mem_cons_of_mem _ h)
    have hb : b ≠ a := fun z => ndT.1 (List.mem_map.mpr ⟨_, h, z⟩)
    exact ⟨by rw [upd_ne hb]; exact n1, v1.same (same_upd n) rfl⟩
theorem Ext.freeze {O : Addr → Prop} {H0 G0 : Hp} {o : HO} (x : Ext O H0 G0 H G) (hn : H0 a = none) (hg : G a = none) : Ext O H0 G0 H (upd G a o) where
  gg := x.gg.trans (same_upd hg)
  fr := x.fr
  nw := fun b u q => by
    by_cases e : b = a
    · subst e; exact .inr (.inl hn)
    · rw [upd_ne e] at q; exact x.nw b u q
  th := x.th
/-- a slot's object is told to all: from now on it is read alone -/
theorem Rep.demote (R : Rep Θ G T ŝ σ H) (h : ŝ[i]? = some (some (.o d))) : ∃ a o, σ[i]? = some (some (.ref a)) ∧ H a = some o ∧ G a = none ∧ Rep Θ (upd G a o) T (ŝ.set i (some (.v d))) σ H ∧ DV Θ (upd G a o) (.ref a) d := by
  obtain ⟨a, es, n, v⟩ := R.own h
  obtain ⟨o, q, dv⟩ := v.freeze n
  have hi := lt_get h
  refine ⟨a, o, es, q, n, ⟨fun b u e => ?_, by rw [List.length_set]; exact R.len, fun {j e} hj => ?_, fun {j e} hj => ?_, fun {b e} hb => ?_, fun {j k e e' b} h1 h2 h3 h4 => ?_, R.tnd, fun {b e} hb z => ?_⟩, dv⟩
  · by_cases z : b = a
    · subst z; rw [upd_same] at e; cases e; exact q
    · rw [upd_ne z] at e; exact R.sub _ _ e
  · rcases set_get hj with ⟨rfl, e1, _⟩ | ⟨hne, e1⟩
    · cases e1; exact ⟨_, es, dv⟩
    · obtain ⟨x, e2, v2⟩ := R.val e1
      exact ⟨x, e2, v2.same (same_upd n)⟩
  · rcases set_get hj with ⟨rfl, e1, _⟩ | ⟨hne, e1⟩
    · cases e1
    · obtain ⟨b, e2, n2, v2⟩ := R.own e1
      have hb : b ≠ a := fun z => hne (R.inj h e1 es (z ▸ e2))
      exact ⟨b, e2, by rw [upd_ne hb]; exact n2, v2.same (same_upd n) rfl⟩
  · obtain ⟨n1, v1⟩ := R.tmp hb
    have hb' : b ≠ a := fun z => R.tne hb ⟨i, d, h, z ▸ es⟩
    exact ⟨by rw [upd_ne hb']; exact n1, v1.same (same_upd n) rfl⟩
  · rcases set_get h1 with ⟨_, e1, _⟩ | ⟨_, e1⟩
    · cases e1
    · rcases set_get h2 with ⟨_, e2, _⟩ | ⟨_, e2⟩
      · cases e2
      · exact R.inj e1 e2 h3 h4
  · obtain ⟨j, e', z1, z2⟩ := z
    rcases set_get z1 with ⟨_, e1, _⟩ | ⟨_, e1⟩
    · cases e1
    · exact R.tne hb ⟨j, e', e1, z2⟩
theorem Own.of_set_v {x : D} (h : Own (ŝ.set i (some (.v x))) σ a) : Own ŝ σ a := by
  obtain ⟨j, e, z1, z2⟩ := h
  rcases set_get z1 with ⟨_, e1, _⟩ | ⟨_, e1⟩
  · cases e1
  · exact ⟨j, e, e1, z2⟩
theorem Ext.demote {o : HO} (x : Own ŝ σ a) (hg : G a = none) : Ext (Own ŝ σ) H G H (upd G a o) where
  gg := same_upd hg
  fr := fun _ _ q _ => q
  nw := fun b u q => by
    by_cases e : b = a
    · subst e; exact .inr (.inr x)
    · rw [upd_ne e] at q; exact .inl q
  th := fun b u q => ⟨u, q⟩
/-- a slot's object is changed -/
theorem Rep.mut {o : HO} {d' : D} (R : Rep Θ G T ŝ σ H) (h : ŝ[i]? = some (some (.o d))) (es : σ[i]? = some (some (.ref a))) (v' : OV Θ G (upd H a o) a d') : Rep Θ G T (ŝ.set i (some (.o d'))) σ (upd H a o) := by
  obtain ⟨a', es', n, v⟩ := R.own h
  rw [es] at es'; cases es'
  have hi := lt_get h
  have own' : ∀ {j : Nat} {e : D}, (ŝ.set i (some (.o d')))[j]? = some (some (.o e)) → ∃ e0, ŝ[j]? = some (some (.o e0)) := fun {j e} hj => by
    rcases set_get hj with ⟨rfl, e1, _⟩ | ⟨hne, e1⟩
    · exact ⟨_, h⟩
    · exact ⟨_, e1⟩
  refine ⟨fun b u e => ?_, by rw [List.length_set]; exact R.len, fun {j e} hj => ?_, fun {j e} hj => ?_, fun {b e} hb => ?_, fun {j k e e' b} h1 h2 h3 h4 => ?_, R.tnd, fun {b e} hb z => ?_⟩
  · have hb : b ≠ a := fun z => by rw [z, n] at e; cases e
    rw [upd_ne hb]; exact R.sub _ _ e
  · rcases set_get hj with ⟨rfl, e1, _⟩ | ⟨hne, e1⟩
    · cases e1
    · exact R.val e1
  · rcases set_get hj with ⟨rfl, e1, _⟩ | ⟨hne, e1⟩
    · cases e1; exact ⟨a, es, n, v'⟩
    · obtain ⟨b, e2, n2, v2⟩ := R.own e1
      have hb : b ≠ a := fun z => hne (R.inj h e1 es (z ▸ e2))
      exact ⟨b, e2, n2, v2.same (Same.refl _) (by rw [upd_ne hb])⟩
  · obtain ⟨n1, v1⟩ := R.tmp hb
    have hb' : b ≠ a := fun z => R.tne hb ⟨i, d, h, z ▸ es⟩
    exact ⟨n1, v1.same (Same.refl _) (by rw [upd_ne hb'])⟩
  · obtain ⟨_, q1⟩ := own' h1
    obtain ⟨_, q2⟩ := own' h2
    exact R.inj q1 q2 h3 h4
  · obtain ⟨j, e', z1, z2⟩ := z
    obtain ⟨_, q1⟩ := own' z1
    exact R.tne hb ⟨j, _, q1, z2⟩
theorem Own.of_set_o {x : D} (h0 : ŝ[i]? = some (some (.o d))) (h : Own (ŝ.set i (some (.o x))) σ a) : Own ŝ σ a := by
  obtain ⟨j, e, z1, z2⟩ := h
  rcases set_get z1 with ⟨rfl, e1, _⟩ | ⟨_, e1⟩
  · exact ⟨_, _, h0, z2⟩
  · exact ⟨j, e, e1, z2⟩
theorem Ext.mut {o : HO} (x : Own ŝ σ a) (hh : ∃ u, H a = some u) : Ext (Own ŝ σ) H G (upd H a o) G where
  gg := Same.refl G
  fr := fun b u q nb => by
    by_cases e : b = a
    · subst e; exact absurd x nb
    · rw [upd_ne e]; exact q
  nw := fun b u q => .inl q
  th := fun b u q => by
    by_cases e : b = a
    · subst e; exact ⟨o, upd_same⟩
    · exact ⟨u, by rw [upd_ne e]; exact q⟩
/-- a slot is stored -/
theorem Rep.setv {x : V} (R : Rep Θ G T ŝ σ H) (v : DV Θ G x d) : Rep Θ G T (ŝ.set i (some (.v d))) (σ.set i (some x)) H := by
  have own' : ∀ {j : Nat} {e : D}, (ŝ.set i (some (.v d)))[j]? = some (some (.o e)) → ŝ[j]? = some (some (.o e)) ∧ (σ.set i (some x))[j]? = σ[j]? := fun {j e} hj => by
    rcases set_get hj with ⟨rfl, e1, _⟩ | ⟨hne, e1⟩
    · cases e1
    · exact ⟨e1, get_set_ne hne⟩
  refine ⟨R.sub, by rw [List.length_set, List.length_set]; exact R.len, fun {j e} hj => ?_, fun {j e} hj => ?_, R.tmp, fun {j k e e' b} h1 h2 h3 h4 => ?_, R.tnd, fun {b e} hb z => ?_⟩
  · rcases set_get hj with ⟨rfl, e1, hl⟩ | ⟨hne, e1⟩
    · cases e1; exact ⟨x, get_set_self (by rw [← R.len]; exact hl), v⟩
    · rw [get_set_ne hne]; exact R.val e1
  · obtain ⟨q1, q2⟩ := own' hj
    rw [q2]; exact R.own q1
  · obtain ⟨q1, q2⟩ := own' h1
    obtain ⟨q3, q4⟩ := own' h2
    rw [q2] at h3; rw [q4] at h4
    exact R.inj q1 q3 h3 h4
  · obtain ⟨j, e', z1, z2⟩ := z
    obtain ⟨q1, q2⟩ := own' z1
    rw [q2] at z2
    exact R.tne hb ⟨j, e', q1, z2⟩
theorem Own.of_setv {x : V} (h : Own (ŝ.set i (some (.v d))) (σ.set i (some x)) a) : Own ŝ σ a := by
  obtain ⟨j, e, z1, z2⟩ := h
  rcases set_get z1 with ⟨_, e1, _⟩ | ⟨hne, e1⟩
  · cases e1
  · rw [get_set_ne hne] at z2; exact ⟨j, e, e1, z2⟩
theorem Rep.seto (R : Rep Θ G ((a, d) :: T) ŝ σ H) : Rep Θ G T (ŝ.set i (some (.o d))) (σ.set i (some (.ref a))) H := by
  obtain ⟨n, v⟩ := R.tmp List.mem_cons_self
  have ndT := List.nodup_cons.mp R.tnd
  have own' : ∀ {j : Nat} {e : D}, (ŝ.set i (some (.o d)))[j]? = some (some (.o e)) → (i = j ∧ e = d ∧ (σ.set i (some (.ref a)))[j]? = some (some (.ref a))) ∨ (i ≠ j ∧ ŝ[j]? = some (some (.o e)) ∧ (σ.set i (some (.ref a)))[j]? = σ[j]?) := fun {j e} hj => by
    rcases set_get hj with ⟨rfl, e1, hl⟩ | ⟨hne, e1⟩
    · cases e1; exact .inl ⟨rfl, rfl, get_set_self (by rw [← R.len]; exact hl)⟩
    · exact .inr ⟨hne, e1, get_set_ne hne⟩
  refine ⟨R.sub, by rw [List.length_set, List.length_set]; exact R.len, fun {j e} hj => ?_, fun {j e} hj => ?_, fun h => R.tmp (List.mem_cons_of_mem _ h), fun {j k e e' b} h1 h2 h3 h4 => ?_, ndT.2, fun {b e} hb z => ?_⟩
  · rcases set_get hj with ⟨rfl, e1, hl⟩ | ⟨hne, e1⟩
    · cases e1
    · rw [get_set_ne hne]; exact R.val e1
  · rcases own' hj with ⟨_, rfl, q⟩ | ⟨_, q1, q2⟩
    · exact ⟨a, q, n, v⟩
    · rw [q2]; exact R.own q1
  · rcases own' h1 with ⟨rfl, _, q⟩ | ⟨n1, q1, q2⟩
    · rw [q] at h3; cases h3
      rcases own' h2 with ⟨rfl, _, q'⟩ | ⟨n1, q1, q2⟩
      · rfl
      · rw [q2] at h4
        exact absurd ⟨k, e', q1, h4⟩ (R.tne List.mem_cons_self)
    · rw [q2] at h3
      rcases own' h2 with ⟨rfl, _, q'⟩ | ⟨n3, q3, q4⟩
      · rw [q'] at h4; cases h4
        exact absurd ⟨j, e, q1, h3⟩ (R.tne List.mem_cons_self)
      · rw [q4] at h4
        exact R.inj q1 q3 h3 h4
  · obtain ⟨j, e', z1, z2⟩ := z
    rcases own' z1 with ⟨rfl, _, q⟩ | ⟨n1, q1, q2⟩
    · rw [q] at z2; cases z2
      exact ndT.1 (List.mem_map.mpr ⟨_, hb, rfl⟩)
    · rw [q2] at z2
      exact R.tne (List.mem_cons_of_mem _ hb) ⟨j, e', q1, z2⟩
theorem Own.of_seto (h : Own (ŝ.set i (some (.o d))) (σ.set i (some (.ref a))) p) : Own ŝ σ p ∨ p = a := by
  obtain ⟨j, e, z1, z2⟩ := h
  rcases set_get z1 with ⟨rfl, e1, _⟩ | ⟨hne, e1⟩
  · rcases set_get z2 with ⟨_, e2, _⟩ | ⟨hne, _⟩
    · cases e2; exact .inr rfl
    · exact absurd rfl hne
  · rw [get_set_ne hne] at z2; exact .inl ⟨j, e, e1, z2⟩
/-- a slot is forgotten -/
theorem Rep.forget (R : Rep Θ G T ŝ σ H) : Rep Θ G T (ŝ.set i none) σ H := by
  have k : ∀ {j : Nat} {c : Cell}, (ŝ.set i none)[j]? = some (some c) → ŝ[j]? = some (some c) := fun hj => by
    rcases set_get hj with ⟨_, e1, _⟩ | ⟨_, e1⟩
    · cases e1
    · exact e1
  exact ⟨R.sub, by rw [List.length_set]; exact R.len, fun h => R.val (k h), fun h => R.own (k h), R.tmp, fun h1 h2 => R.inj (k h1) (k h2), R.tnd, fun hb ⟨j, e', z1, z2⟩ => R.tne hb ⟨j, e', k z1, z2⟩⟩
theorem Own.of_forget (h : Own (ŝ.set i none) σ a) : Own ŝ σ a := by
  obtain ⟨j, e, z1, z2⟩ := h
  rcases set_get z1 with ⟨_, e1, _⟩ | ⟨_, e1⟩
  · cases e1
  · exact ⟨j, e, e1, z2⟩
end
end Fw

set_option Elab.async false
set_option linter.all false
set_option maxRecDepth 100000
set_option maxHeartbeats 4000000
namespace Fw
open PySem PySem.Spec L2

inductive Out (α : Type) where
  | ok (a : α) | err (c : Str) (x : D) | bad
@[simp] def Out.bind {α β : Type} : Out α → (α → Out β) → Out β
  | .ok a, f => f a
  | .err c x, _ => .err c x
  | .bad, _ => .bad
instance : Monad Out where
  pure := .ok
  bind := Out.bind
@[simp] theorem bind_ok {α β : Type} (a : α) (f : α → Out β) : (Bind.bind (Out.ok a) f : Out β) = f a := rfl
@[simp] theorem bind_err {α β : Type} (c : Str) (x : D) (f : α → Out β) : (Bind.bind (Out.err c x) f : Out β) = .err c x := rfl
@[simp] theorem bind_bad {α β : Type} (f : α → Out β) : (Bind.bind Out.bad f : Out β) = .bad := rfl
@[simp] theorem pure_ok {α : Type} (a : α) : (Pure.pure a : Out α) = .ok a := rfl
theorem bind_assoc {α β γ : Type} (x : Out α) (f : α → Out β) (g : β → Out γ) : (x >>= f) >>= g = x >>= fun a => f a >>= g := by
  cases x <;> rfl

/-! ### operations on data -/
inductive BOp where | add | sub | mul | fdiv | mod | pow | addL | mulL
inductive COp where | eq | ne | lt | le | gt | ge | isin | notin | is | isnot
inductive B1 where | len | abs | int | str | sum | all | any | min | max | repr | lenset
inductive B2 where | min | max
inductive Ty where | int | bool | tuple | list | str

def optO {α : Type} : Option α → Out α
  | some a => .ok a
  | none => .bad
@[simp] theorem optO_some {α : Type} (a : α) : optO (some a) = .ok a := rfl
@[simp] theorem optO_none {α : Type} : optO (none : Option α) = .bad := rfl
def guardO (b : Bool) (d : D)   : Option D := if b = true then some d else none
@[simp] theorem guardO_t (d : D) : guardO true d = some d := rfl
def fitsL (n : Nat) : Bool := decide (n ≤ sizeLine)
def mulOk (i j : Int) : Bool := decide ((-(2 ^ 64) < i ∧ i < 2 ^ 64) ∨ (-(2 ^ 64) < j ∧ j < 2 ^ 64))
def divOk (j : Int) : Bool := decide (0 < j ∧ j < 1073741824)
def powOk (i j : Int) : Bool := decide (0 ≤ j ∧ j ≤ 1000000 ∧ i.natAbs < 2 ^ 64)
def rep (k : Int) (l : List D) : List D := (List.replicate k.toNat l).flatten
def repOk (n : Nat) (k : Int) : Bool := decide (-(2 ^ 62) ≤ k ∧ k < 2 ^ 62 ∧ n * k.toNat ≤ 100000)
def addD : D → D → Option D
  | .int i, .int j => some (.int (i + j))
  | .str x, .str y => guardO (fitsL (x.length + y.length)) (.str (x ++ y))
  | .tuple a, .tuple b => guardO (fitsL (a.length + b.length)) (.tuple (a ++ b))
  | _, _ => none
def addLD : D → D → Option D
  | .list a, .list b => guardO (fitsL (a.length + b.length)) (.list (a ++ b))
  | _, _ => none
def subD : D → D → Option D
  | .int i, .int j => some (.int (i - j))
  | _, _ => none
def mulD : D → D → Option D
  | .int i, .int j => guardO (mulOk i j) (.int (i * j))
  | .tuple a, .int k => guardO (repOk a.length k) (.tuple (rep k a))
  | _, _ => none
def mulLD : D → D → Option D
  | .list a, .int k => guardO (repOk a.length k) (.list (rep k a))
  | _, _ => none
def fdivD : D → D → Option D
  | .int i, .int j => guardO (divOk j) (.int (i / j))
  | _, _ => none
def modD : D → D → Option D
  | .int i, .int j => guardO (decide (0 < j)) (.int (i % j))
  | _, _ => none
def powD : D → D → Option D
  | .int i, .int j => guardO (powOk i j) (.int (i ^ j.toNat))
  | _, _ => none
def appBin : BOp → D → D → Option D
  | .add => addD
  | .sub => subD
  | .mul => mulD
  | .fdiv => fdivD
  | .mod => modD
  | .pow => powD
  | .addL => addLD
  | .mulL => mulLD

def eqD (a b : D) : Bool := PyData.eqv a b
def shp (a : D) : Bool := SeqAt.shaped a
def isNone : D → Bool
  | .none => true
  | _ => false
def memD (x : D) (l : List D) : Bool := l.any fun y => eqD y x
def itemsD : D → Option (List D)
  | .tuple l => some l
  | .list l => some l
  | _ => none
def keyOk : D → Bool
  | .int _ => true
  | .tuple _ => true
  | _ => false
/-- the place of a key in a dict -/
def findK (k : D) : List (D × D) → Option D
  | [] => none
  | (a, b) :: r => if eqD a k = true then some b else findK k r
def putK (k v : D) (kvs : List (D × D)) : List (D × D) :=
  if (findK k kvs).isSome = true then kvs.map fun p => if eqD p.1 k = true then (p.1, v) else p else kvs ++ [(k, v)]
/-- keys of one kind -/
def intK : D → Bool
  | .int _ => true
  | _ => false
def keysOk (kvs : List (D × D)) (k : D) : Bool := (intK k && kvs.all fun p => intK p.1) || (keyT k && kvs.all fun p => keyT p.1)

mutual
/-- the order of ints, texts and tuples -/
def ltD : D → D → Bool
  | .int i, .int j => decide (i < j)
  | .str x, .str y => decide (x.cps.toList < y.cps.toList)
  | .bool a, .bool b => !a && b
  | .tuple a, .tuple b => ltDs a b
  | _, _ => false
def ltDs : List D → List D → Bool
  | [], [] => false
  | [], _ :: _ => true
  | _ :: _, [] => false
  | a :: r, b :: q => if eqD a b = true then ltDs r q else ltD a b
end
mutual
/-- two things that are in order with one another, place by place -/
def cmpOk : D → D → Bool
  | .int _, .int _ => true
  | .str _, .str _ => true
  | .bool _, .bool _ => true
  | .tuple a, .tuple b => cmpOks a b
  | _, _ => false
def cmpOks : List D → List D → Bool
  | a :: r, b :: q => cmpOk a b && cmpOks r q
  | _, _ => true
end
def inD (x : D) : D → Option Bool
  | .tuple l => if (shp x && shp (.tuple l)) = true then some (memD x l) else none
  | .list l => if (shp x && shp (.list l)) = true then some (memD x l) else none
  | .dict kvs => if keysOk kvs x = true then some (findK x kvs).isSome else none
  | _ => none
def isD : D → D → Option Bool
  | d, .none => some (isNone d)
  | .bool a, .bool b => some (a == b)
  | _, _ => none
def boolO (o : Option Bool) : Option D := o >>= fun b => some (.bool b)
def eqO (a b : D) : Option D := guardO (shp a && shp b) (.bool (eqD a b))
def neO (a b : D) : Option D := guardO (shp a && shp b) (.bool (!eqD a b))
def ltO : D → D → Option D
  | .int a, .int b => some (.bool (decide (a < b)))
  | _, _ => none
def leO : D → D → Option D
  | .int a, .int b => some (.bool (decide (a ≤ b)))
  | _, _ => none
def gtO : D → D → Option D
  | .int a, .int b => some (.bool (decide (b < a)))
  | _, _ => none
def geO : D → D → Option D
  | .int a, .int b => some (.bool (decide (b ≤ a)))
  | _, _ => none
def inO (a b : D) : Option D := boolO (inD a b)
def niO (a b : D) : Option D := boolO (inD a b >>= fun c => some (!c))
def isO (a b : D) : Option D := boolO (isD a b)
def nsO (a b : D) : Option D := boolO (isD a b >>= fun c => some (!c))
def appCmp : COp → D → D → Option D
  | .eq => eqO
  | .ne => neO
  | .lt => ltO
  | .le => leO
  | .gt => gtO
  | .ge => geO
  | .isin => inO
  | .notin => niO
  | .is => isO
  | .isnot => nsO

def intsD : List D → Option (List Int)
  | [] => some []
  | .int i :: r => (intsD r).map (i :: ·)
  | _ => none
def boolsD : List D → Option (List Bool)
  | [] => some []
  | .bool i :: r => (boolsD r).map (i :: ·)
  | _ => none
/-- things in order with one another -/
def ordX (l : List D) : Bool := ((l.all fun a => l.all fun b => PySem.W.alike a b) && l.all fun a => !isNone a) && shp (.list l)
def lenD : D → Option D
  | .tuple l => some (.int l.length)
  | .list l => some (.int l.length)
  | .dict kvs => if (kvs.all fun p => keyOk p.1) = true then some (.int kvs.length) else none
  | _ => none
def absD : D → Option D
  | .int i => some (.int (if i < 0 then -i else i))
  | _ => none
def intD : D → Option D
  | .int i => some (.int i)
  | .bool b => some (.int (if b then 1 else 0))
  | _ => none
def sumD : D → Option D
  | .list l => (intsD l).map fun ns => .int ns.sum
  | .tuple l => (intsD l).map fun ns => .int ns.sum
  | _ => none
def allD : D → Option D
  | .list l => (boolsD l).map fun bs => .bool (bs.all id)
  | _ => none
def anyD : D → Option D
  | .list l => (boolsD l).map fun bs => .bool (bs.any id)
  | _ => none
def uniqL : List Int → List Int
  | [] => []
  | x :: r => if x ∈ r then uniqL r else x :: uniqL r
/-- len(set(..)) of a tuple of ints -/
def lensetD : D → Option D
  | .tuple l => (intsD l).bind fun ns => if ns.length ≤ 4000 then some (.int (uniqL ns).length) else none
  | _ => none
def minX : D → Option D
  | .list (d :: r) => guardO (ordX (d :: r)) (PySem.W.minD d r)
  | _ => none
def maxX : D → Option D
  | .list (d :: r) => guardO (ordX (d :: r)) (PySem.W.maxD d r)
  | _ => none
def app1 : B1 → D → Option D
  | .len => lenD
  | .abs => absD
  | .int => intD
  | .sum => sumD
  | .all => allD
  | .any => anyD
  | .min => minX
  | .max => maxX
  | _ => fun _ => none
def min2D : D → D → Option D
  | .int i, .int j => some (.int (if j < i then j else i))
  | _, _ => none
def max2D : D → D → Option D
  | .int i, .int j => some (.int (if j > i then j else i))
  | _, _ => none
def app2 : B2 → D → D → Option D
  | .min => min2D
  | .max => max2D
def appIdx : D → D → Option D
  | .tuple l, .int i => atI l i
  | .list l, .int i => atI l i
  | .dict kvs, k => if keysOk kvs k = true then findK k kvs else none
  | _, _ => none
def cutA {α : Type} (xs : List α) (lo hi : Option Int) : List α := (xs.drop (HT.sIx xs.length 0 lo)).take (HT.sIx xs.length xs.length hi - HT.sIx xs.length 0 lo)
def partD : D → Option (Option Int)
  | .none => some none
  | .int i => some (some i)
  | _ => none
def sliT : D → Option Int → Option Int → Option D
  | .tuple l, lo, hi => some (.tuple (cutA l lo hi))
  | _, _, _ => none
def sliLD : D → Option Int → Option Int → Option D
  | .list l, lo, hi => some (.list (cutA l lo hi))
  | _, _, _ => none
def revTD : D → Option D
  | .tuple l => some (.tuple l.reverse)
  | _ => none
def revLD : D → Option D
  | .list l => some (.list l.reverse)
  | _ => none
def isTy : Ty → D → Option Bool
  | .int, .int _ | .int, .bool _ | .bool, .bool _ | .tuple, .tuple _ | .list, .list _ | .str, .str _ => some true
  | _, .dict _ => none
  | _, _ => some false
def rngL (lo hi : Int) : List D := (List.range (hi - lo).toNat).map fun i => .int (lo + (i : Nat))
def toLD : D → Option D
  | .list l => some (.list l)
  | .tuple l => some (.list l)
  | .dict [(.none, .list l)] => some (.list l)
  | _ => none
def toTD : D → Option D
  | .list l => some (.tuple l)
  | .tuple l => some (.tuple l)
  | _ => none
def rngD : D → Option (List D)
  | .int j => if decide (-(2 ^ 62) ≤ j ∧ j ≤ 16777216) = true then some (rngL 0 j) else none
  | _ => none
def enumL : Nat → List D → List D
  | _, [] => []
  | n, d :: r => .tuple [.int n, d] :: enumL (n + 1) r
def zipL : List D → List D → List D
  | a :: r, b :: q => .tuple [a, b] :: zipL r q
  | _, _ => []

/-! ### the syntax -/
inductive Pat where
  | nm (i : Nat) | tp (p : Pat) | nil | cons (p q : Pat)
inductive IR where
  | nev | cst (d : D) | var (i : Nat) | bor (i : Nat) | glo (x : Str)
  | nil | cons (a b : IR)
  | tup (a : IR) | lst (a : IR) | emp
  | bin (k : BOp) (a b : IR) | cmp (k : COp) (a b : IR) | chain (k k' : COp) (a b c : IR)
  | neg (a : IR) | not (a : IR) | and (a b : IR) | or (a b : IR) | ite (c a b : IR)
  | b1 (k : B1) (a : IR) | b2 (k : B2) (a b : IR) | isi (t : Ty) (a : IR)
  | idx (a b : IR) | sli (a lo hi : IR) | sliL (a lo hi : IR) | revT (a : IR) | revL (a : IR)
  | call (x : Str) (fr : Bool) (a : IR) | callc (x : Str) (fr : Bool) (i : Nat) (a : IR) | callv (i : Nat) (a : IR)
  | app (i : Nat) (a : IR) | pop (i : Nat) | popi (i : Nat) (a : IR) | upd (i : Nat) (a : IR)
  | get (a b : IR) | get3 (a b c : IR)
  | iseq (a : IR) | irng (a : IR) | irng2 (a b : IR) | ienum (a : IR) | izip (a b : IR) | ienz (a b : IR) | iitems (a : IR) | ivals (a : IR)
  | toL (a : IR) | toT (a : IR) | rngL (a : IR) | rngT (a : IR) | sort (a : IR) | set (a : IR) | dct (a : IR)
  | lc (own : List (Str × Nat)) (p : Pat) (src cond elt : IR)
  | lc2 (own : List (Str × Nat)) (own1 : List Nat) (p : Pat) (src cond : IR) (p1 : Pat) (src1 cond1 elt : IR)

/-- a def's contract: its name, parameters, whether it changes the list that it is handed first, whether its answer is a new object, its function -/
structure Fd where
  name : Str
  ps : List Str
  lent : Bool
  fresh : Bool
  F : D → List D → Out (D × D)
abbrev Tab := List Fd
def Tab.find (Φ : Tab) (x : Str) : Option Fd := List.find? (fun f => f.name == x) Φ

def partN : IR → D → Option (Option Int)
  | .cst .none, _ => some none
  | _, .int i => some (some i)
  | _, _ => none
def readS (ŝ : FS) (i : Nat) : Option D :=
  match ŝ[i]? with
  | some (some (.v d)) => some d
  | some (some (.o d)) => some d
  | _ => none
def readO (ŝ : FS) (i : Nat) : Option D :=
  match ŝ[i]? with
  | some (some (.o d)) => some d
  | _ => none
/-- the slot's value goes elsewhere -/
def escS (ŝ : FS) (i : Nat) : Option (D × FS) :=
  match ŝ[i]? with
  | some (some (.v d)) => some (d, ŝ)
  | some (some (.o d)) => some (d, ŝ.set i (some (.v d)))
  | _ => none
def late : IR → FS → D → Option D
  | .bor i, ŝ, _ => readS ŝ i
  | _, _, d => some d
def tstD : D → Option Bool
  | .bool b => some b
  | _ => none
def lstD : D → Option (List D)
  | .list l => some l
  | _ => none
def tupD : D → Option (List D)
  | .tuple l => some l
  | _ => none
def seqD : D → Option (List D)
  | .list l => some l
  | .tuple l => some l
  | _ => none
def rngOk (i : Int) : Bool := decide (-(2 ^ 62) ≤ i ∧ i < 2 ^ 62)
mutual
def bindP : Pat → D → FS → Option FS
  | .nm i, d, ŝ => some (ŝ.set i (some (.v d)))
  | .tp p, .tuple ds, ŝ => bindPs p ds ŝ
  | _, _, _ => none
def bindPs : Pat → List D → FS → Option FS
  | .nil, [], ŝ => some ŝ
  | .cons p q, d :: ds, ŝ => bindP p d ŝ >>= fun s => bindPs q ds s
  | _, _, _ => none
end
def wipeF (ŝ : FS) : List Nat → FS
  | [] => ŝ
  | v :: vs => (wipeF ŝ vs).set v none
/-- no slot of these holds an object of its own -/
def noneOwn (ŝ : FS) (vs : List Nat) : Bool := vs.all fun i => match ŝ[i]? with
  | some (some (.o _)) => false
  | _ => true
def backF (ŝ0 ŝ : FS) : List Nat → FS
  | [] => ŝ
  | v :: vs => (backF ŝ0 ŝ vs).set v (ŝ0.getD v none)
def lcLoop (turn : D → FS → Out (List D × FS)) : List D → List D → FS → Out (List D × FS)
  | [], acc, ŝ => .ok (acc, ŝ)
  | d :: ds, acc, ŝ => turn d ŝ >>= fun p => if fitsL (acc.length + p.1.length) = true then lcLoop turn ds (acc ++ p.1) p.2 else .bad
def noErr {α : Type} : Out α → Out α
  | .ok a => .ok a
  | _ => .bad
structure Env where
  Φ : Tab
  Γ : Str → Option D

def sem (Λ : Env) : IR → FS → Out (D × FS)
  | .nev, _ => .bad
  | .cst d, ŝ => .ok (d, ŝ)
  | .var i, ŝ => optO (escS ŝ i)
  | .bor i, ŝ => optO (readS ŝ i) >>= fun d => .ok (d, ŝ)
  | .glo x, ŝ => optO (Λ.Γ x) >>= fun d => .ok (d, ŝ)
  | .nil, ŝ => .ok (.tuple [], ŝ)
  | .cons a b, ŝ => sem Λ a ŝ >>= fun p => sem Λ b p.2 >>= fun q => optO (tupD q.1) >>= fun l => .ok (.tuple (p.1 :: l), q.2)
  | .tup a, ŝ => sem Λ a ŝ >>= fun p => optO (tupD p.1) >>= fun l => if fitsL l.length = true then .ok (p.1, p.2) else .bad
  | .lst a, ŝ => sem Λ a ŝ >>= fun p => optO (tupD p.1) >>= fun l => if fitsL l.length = true then .ok (.list l, p.2) else .bad
  | .emp, ŝ => .ok (.dict [], ŝ)
  | .bin k a b, ŝ => sem Λ a ŝ >>= fun p => sem Λ b p.2 >>= fun q => optO (late a q.2 p.1) >>= fun d => optO (appBin k d q.1) >>= fun r => .ok (r, q.2)
  | .cmp k a b, ŝ => sem Λ a ŝ >>= fun p => sem Λ b p.2 >>= fun q => optO (late a q.2 p.1) >>= fun d => optO (appCmp k d q.1) >>= fun r => .ok (r, q.2)
  | .chain k k' a b c, ŝ => sem Λ a ŝ >>= fun p => sem Λ b p.2 >>= fun q => optO (appCmp k p.1 q.1) >>= fun r => optO (tstD r) >>= fun t =>
      if t = true then sem Λ c q.2 >>= fun z => optO (appCmp k' q.1 z.1) >>= fun r' => .ok (r', z.2) else .ok (.bool false, q.2)
  | .neg a, ŝ => sem Λ a ŝ >>= fun p => match p.1 with
      | .int i => .ok (.int (-i), p.2)
      | _ => .bad
  | .not a, ŝ => sem Λ a ŝ >>= fun p => optO (tstD p.1) >>= fun t => .ok (.bool (!t), p.2)
  | .and a b, ŝ => sem Λ a ŝ >>= fun p => optO (tstD p.1) >>= fun t => if t = true then sem Λ b p.2 >>= fun q => optO (tstD q.1) >>= fun u => .ok (.bool u, q.2) else .ok (.bool false, p.2)
  | .or a b, ŝ => sem Λ a ŝ >>= fun p => optO (tstD p.1) >>= fun t => if t = true then .ok (.bool true, p.2) else sem Λ b p.2 >>= fun q => optO (tstD q.1) >>= fun u => .ok (.bool u, q.2)
  | .ite c a b, ŝ => sem Λ c ŝ >>= fun p => optO (tstD p.1) >>= fun t => if t = true then sem Λ a p.2 else sem Λ b p.2
  | .b1 k a, ŝ => sem Λ a ŝ >>= fun p => optO (app1 k p.1) >>= fun r => .ok (r, p.2)
  | .b2 k a b, ŝ => sem Λ a ŝ >>= fun p => sem Λ b p.2 >>= fun q => optO (app2 k p.1 q.1) >>= fun r => .ok (r, q.2)
  | .isi t a, ŝ => sem Λ a ŝ >>= fun p => optO (isTy t p.1) >>= fun r => .ok (.bool r, p.2)
  | .idx a b, ŝ => sem Λ a ŝ >>= fun p => sem Λ b p.2 >>= fun q => optO (late a q.2 p.1) >>= fun d => optO (appIdx d q.1) >>= fun r => .ok (r, q.2)
  | .sli a lo hi, ŝ => sem Λ a ŝ >>= fun p => sem Λ lo p.2 >>= fun q => optO (partN lo q.1) >>= fun l => sem Λ hi q.2 >>= fun z => optO (partN hi z.1) >>= fun h => optO (late a z.2 p.1) >>= fun d => optO (sliT d l h) >>= fun r => .ok (r, z.2)
  | .sliL a lo hi, ŝ => sem Λ a ŝ >>= fun p => sem Λ lo p.2 >>= fun q => optO (partN lo q.1) >>= fun l => sem Λ hi q.2 >>= fun z => optO (partN hi z.1) >>= fun h => optO (late a z.2 p.1) >>= fun d => optO (sliLD d l h) >>= fun r => .ok (r, z.2)
  | .revT a, ŝ => sem Λ a ŝ >>= fun p => optO (revTD p.1) >>= fun r => .ok (r, p.2)
  | .revL a, ŝ => sem Λ a ŝ >>= fun p => optO (revLD p.1) >>= fun r => .ok (r, p.2)
  | .call x fr a, ŝ => sem Λ a ŝ >>= fun p => optO (tupD p.1) >>= fun ds => optO (Λ.Φ.find x) >>= fun f =>
      if f.lent = false ∧ f.fresh = fr ∧ f.ps.length = ds.length then f.F .none ds >>= fun r => .ok (r.1, p.2) else .bad
  | .callc x fr i a, ŝ => optO (readO ŝ i) >>= fun _ => sem Λ a ŝ >>= fun p => optO (tupD p.1) >>= fun ds => optO (Λ.Φ.find x) >>= fun f => optO (readO p.2 i) >>= fun c =>
      if f.lent = true ∧ f.fresh = fr ∧ f.ps.length = ds.length + 1 then f.F c ds >>= fun r => .ok (r.1, p.2.set i (some (.o r.2))) else .bad
  | .callv i a, ŝ => .bad
  | .app i a, ŝ => optO (readO ŝ i) >>= fun c0 => optO (lstD c0) >>= fun _ => sem Λ a ŝ >>= fun p => optO (readO p.2 i) >>= fun c => optO (lstD c) >>= fun l => if l.length < sizeLine then .ok (.none, p.2.set i (some (.o (.list (l ++ [p.1]))))) else .bad
  | .pop i, ŝ => optO (readO ŝ i) >>= fun c => optO (lstD c) >>= fun l => optO l[l.length - 1]? >>= fun d => .ok (d, ŝ.set i (some (.o (.list l.dropLast))))
  | .popi i a, ŝ => optO (readO ŝ i) >>= fun c0 => optO (lstD c0) >>= fun _ => sem Λ a ŝ >>= fun p => optO (readO p.2 i) >>= fun c => optO (lstD c) >>= fun l => match p.1 with
      | .int k => if rngOk k = true then optO (ixN l.length k) >>= fun j => optO l[j]? >>= fun d => .ok (d, p.2.set i (some (.o (.list (l.eraseIdx j))))) else .bad
      | _ => .bad
  | .upd i a, ŝ => .bad
  | .get a b, ŝ => .bad
  | .get3 a b c, ŝ => .bad
  | .iseq a, ŝ => sem Λ a ŝ >>= fun p => optO (seqD p.1) >>= fun l => .ok (.list l, p.2)
  | .irng a, ŝ => sem Λ a ŝ >>= fun p => match p.1 with
      | .int j => if rngOk j = true then .ok (.list (rngL 0 j), p.2) else .bad
      | _ => .bad
  | .irng2 a b, ŝ => sem Λ a ŝ >>= fun p => sem Λ b p.2 >>= fun q => match p.1, q.1 with
      | .int i, .int j => if (rngOk i && rngOk j) = true then .ok (.list (rngL i j), q.2) else .bad
      | _, _ => .bad
  | .ienum a, ŝ => sem Λ a ŝ >>= fun p => optO (seqD p.1) >>= fun l => .ok (.list (enumL 0 l), p.2)
  | .ienz a b, ŝ => sem Λ a ŝ >>= fun p => sem Λ b p.2 >>= fun q => optO (seqD p.1) >>= fun l => optO (seqD q.1) >>= fun m => .ok (.list (enumL 0 (zipL l m)), q.2)
  | .izip a b, ŝ => sem Λ a ŝ >>= fun p => sem Λ b p.2 >>= fun q => optO (seqD p.1) >>= fun l => optO (seqD q.1) >>= fun m => .ok (.list (zipL l m), q.2)
  | .iitems a, ŝ => .bad
  | .ivals a, ŝ => .bad
  | .toL a, ŝ => sem Λ a ŝ >>= fun p => optO (toLD p.1) >>= fun r => .ok (r, p.2)
  | .toT a, ŝ => sem Λ a ŝ >>= fun p => optO (toTD p.1) >>= fun r => .ok (r, p.2)
  | .rngL a, ŝ => sem Λ a ŝ >>= fun p => optO (rngD p.1) >>= fun l => .ok (.list l, p.2)
  | .rngT a, ŝ => sem Λ a ŝ >>= fun p => optO (rngD p.1) >>= fun l => .ok (.tuple l, p.2)
  | .sort a, ŝ => .bad
  | .set a, ŝ => sem Λ a ŝ >>= fun p => optO (lensetD p.1) >>= fun r => .ok (r, p.2)
  | .dct a, ŝ => .bad
  | .lc own p src cond elt, ŝ => sem Λ src ŝ >>= fun q => optO (lstD q.1) >>= fun l =>
      if noneOwn q.2 (own.map (·.2)) = true then lcLoop (fun d s => noErr (optO (bindP p d (wipeF s (own.map (·.2)))) >>= fun s1 => sem Λ cond s1 >>= fun c => optO (tstD c.1) >>= fun t =>
        if t = true then sem Λ elt c.2 >>= fun e => .ok ([e.1], e.2) else .ok ([], c.2))) l [] q.2 >>= fun r => .ok (.list r.1, backF q.2 r.2 (own.map (·.2))) else .bad
  | .lc2 own own1 p src cond p1 src1 cond1 elt, ŝ => sem Λ src ŝ >>= fun q => optO (lstD q.1) >>= fun l =>
      if noneOwn q.2 (own.map (·.2)) = true then lcLoop (fun d s => noErr (optO (bindP p d (wipeF s (own.map (·.2)))) >>= fun s1 => sem Λ cond s1 >>= fun c => optO (tstD c.1) >>= fun t =>
        if t = true then sem Λ src1 c.2 >>= fun q1 => optO (lstD q1.1) >>= fun l1 => lcLoop (fun d s => optO (bindP p1 d (wipeF s own1)) >>= fun s1 => sem Λ cond1 s1 >>= fun c => optO (tstD c.1) >>= fun t =>
        if t = true then sem Λ elt c.2 >>= fun e => .ok ([e.1], e.2) else .ok ([], c.2)) l1 [] q1.2 >>= fun r => .ok (r.1, wipeF r.2 own1) else .ok ([], c.2))) l [] q.2 >>= fun r => .ok (.list r.1, backF q.2 r.2 (own.map (·.2))) else .bad

/-! ### statements -/
inductive IS where
  | nevS | skip | seq (a b : IS) | fgt (vs : List Nat)
  | set (p : Pat) (e : IR) | seto (i : Nat) (e : IR)
  | par (ps : List (Nat × Bool)) (e : IR)
  | setix (i : Nat) (k e : IR)
  | aug (i : Nat) (sub : Bool) (e : IR) | ext (i : Nat) (e : IR)
  | ex (e : IR) | iff (c : IR) (a b : IS) | whl (n : Nat) (c : IR) (b : IS) | for (p : Pat) (src : IR) (b : IS)
  | ret (fr : Bool) (e : IR) | retO (i : Nat) | retN | raise (c : Str) (x : IR) | brk
inductive Fl where
  | nx (ŝ : FS) | rt (fr : Bool) (d : D) (ŝ : FS) | bk (ŝ : FS)
def setPar : List (Nat × Bool) → List D → FS → Option FS
  | [], [], ŝ => some ŝ
  | (i, fr) :: ps, d :: ds, ŝ => setPar ps ds (ŝ.set i (some (if fr then .o d else .v d)))
  | _, _, _ => none
def forLoop (turn : D → FS → Out Fl) : List D → FS → Out Fl
  | [], ŝ => .ok (.nx ŝ)
  | d :: ds, ŝ => turn d ŝ >>= fun f => match f with
    | .nx s => forLoop turn ds s
    | .rt fr d s => .ok (.rt fr d s)
    | .bk s => .ok (.nx s)
def whileLoop (c : FS → Out (Bool × FS)) (turn : FS → Out Fl) : Nat → FS → Out Fl
  | 0, _ => .bad
  | n + 1, ŝ => c ŝ >>= fun p => if p.1 = true then turn p.2 >>= fun f => match f with
    | .nx s => whileLoop c turn n s
    | .rt fr d s => .ok (.rt fr d s)
    | .bk s => .ok (.nx s) else .ok (.nx p.2)
def augD (sub : Bool) : D → D → Option D
  | .int a, .int b => some (.int (if sub = true then a - b else a + b))
  | _, _ => none
def semS (Λ : Env) : IS → FS → Out Fl
  | .nevS, _ => .bad
  | .skip, ŝ => .ok (.nx ŝ)
  | .fgt vs, ŝ => .ok (.nx (wipeF ŝ vs))
  | .seq a b, ŝ => semS Λ a ŝ >>= fun f => match f with
    | .nx s => semS Λ b s
    | .rt fr d s => .ok (.rt fr d s)
    | .bk s => .ok (.bk s)
  | .set p e, ŝ => sem Λ e ŝ >>= fun q => optO (bindP p q.1 q.2) >>= fun s => .ok (.nx s)
  | .seto i e, ŝ => sem Λ e ŝ >>= fun q => .ok (.nx (q.2.set i (some (.o q.1))))
  | .par ps e, ŝ => sem Λ e ŝ >>= fun q => optO (tupD q.1) >>= fun l => optO (setPar ps l q.2) >>= fun s => .ok (.nx s)
  | .setix i k e, ŝ => sem Λ e ŝ >>= fun p => optO (readO p.2 i) >>= fun _ => sem Λ k p.2 >>= fun q => optO (readO q.2 i) >>= fun c => match c, q.1 with
    | .list l, .int z => optO (ixN l.length z) >>= fun j => .ok (.nx (q.2.set i (some (.o (.list (l.set j p.1))))))
    | .dict kvs, k => if (keysOk kvs k && fitsL (kvs.length + 1)) = true then .ok (.nx (q.2.set i (some (.o (.dict (putK k p.1 kvs)))))) else .bad
    | _, _ => .bad
  | .aug i sub e, ŝ => optO (readS ŝ i) >>= fun d => sem Λ e ŝ >>= fun q => optO (augD sub d q.1) >>= fun r => .ok (.nx (q.2.set i (some (.v r))))
  | .ext i e, ŝ => optO (readO ŝ i) >>= fun _ => sem Λ e ŝ >>= fun q => optO (readO q.2 i) >>= fun c => optO (lstD c) >>= fun l => optO (lstD q.1) >>= fun m => if fitsL (l.length + m.length) = true then .ok (.nx (q.2.set i (some (.o (.list (l ++ m)))))) else .bad
  | .ex e, ŝ => sem Λ e ŝ >>= fun q => .ok (.nx q.2)
  | .iff c a b, ŝ => sem Λ c ŝ >>= fun p => optO (tstD p.1) >>= fun t => if t = true then semS Λ a p.2 else semS Λ b p.2
  | .whl n c b, ŝ => whileLoop (fun s => sem Λ c s >>= fun p => optO (tstD p.1) >>= fun t => .ok (t, p.2)) (semS Λ b) n ŝ
  | .for p src b, ŝ => sem Λ src ŝ >>= fun q => optO (lstD q.1) >>= fun l => forLoop (fun d s => optO (bindP p d s) >>= fun s1 => semS Λ b s1) l q.2
  | .ret fr e, ŝ => sem Λ e ŝ >>= fun q => .ok (.rt fr q.1 q.2)
  | .retO i, ŝ => optO (readO ŝ i) >>= fun d => .ok (.rt true d (ŝ.set i none))
  | .retN, ŝ => .ok (.rt false .none ŝ)
  | .raise c x, ŝ => sem Λ x ŝ >>= fun q => .err c q.1
  | .brk, ŝ => .ok (.bk ŝ)
end Fw

set_option Elab.async false
set_option linter.all false
set_option maxRecDepth 100000
set_option maxHeartbeats 4000000
namespace Fw
open PySem PySem.Spec L2

/-! ### what a reading says -/
structure Stp (Θ : Th) (σ : L2.St) (ŝ : FS) (H G : Hp) (ŝ' : FS) (H' G' : Hp) (T' : List (Addr × D)) : Prop where
  ext : Ext (Own ŝ σ) H G H' G'
  own : ∀ b, Own ŝ' σ b → Own ŝ σ b
  rep : Rep Θ G' T' ŝ' σ H'
def ErrV (x : D) (dd : Option Addr) (H' : Hp) : Prop := (x = .none ∧ dd = none) ∨ ∃ n a, x = .int n ∧ dd = some a ∧ H' a = some (.xd [("limit", .int n)])
def XP (Θ : Th) (E : XK) (H : Hp) (O : Addr → Prop) (c : Str) (x : D) : Prop :=
  ∀ (cls : Value) (dd : Option Addr) (H' : Hp), Θ.M c = some cls → (∀ b o, H b = some o → ¬ O b → H' b = some o) → ErrV x dd H' → E cls dd H'
def WO (Θ : Th) (E : XK) (H : Hp) (O : Addr → Prop) {α : Type} (o : Out α) (K : α → Prop) : Prop :=
  match o with
  | .ok a => K a
  | .err c x => XP Θ E H O c x
  | .bad => False
inductive Kd where
  | frozen | fresh | bor (i : Nat)
def RK (Θ : Th) (κ : Kd) (G' H : Hp) (T T' : List (Addr × D)) (ŝ' : FS) (σ : L2.St) (v : V) (d : D) : Prop :=
  match κ with
  | .frozen => T' = T ∧ DV Θ G' v d
  | .fresh => ∃ a, v = .ref a ∧ T' = (a, d) :: T ∧ H a = none
  | .bor i => T' = T ∧ σ[i]? = some (some v) ∧ readS ŝ' i = some d
def RdE (Θ : Th) (E : XK) (κ : Kd) (f : FS → Out (D × FS)) : TE := fun σ H Q => ∃ ŝ G T, Rep Θ G T ŝ σ H ∧ WO Θ E H (Own ŝ σ) (f ŝ) fun p =>
  ∀ v H' G' T', Stp Θ σ ŝ H G p.2 H' G' T' → RK Θ κ G' H T T' p.2 σ v p.1 → Q v H'
/-- a list of values, all told -/
def RdA (Θ : Th) (E : XK) (f : FS → Out (D × FS)) : TA := fun σ H Q => ∃ ŝ G T, Rep Θ G T ŝ σ H ∧ WO Θ E H (Own ŝ σ) (f ŝ) fun p =>
  ∀ vs H' G' ds, p.1 = .tuple ds → Stp Θ σ ŝ H G p.2 H' G' T → DVs Θ G' vs ds → Q vs H'
/-- a test -/
def RdT (Θ : Th) (E : XK) (f : FS → Out (D × FS)) : TT := fun σ H Q => ∃ ŝ G T, Rep Θ G T ŝ σ H ∧ WO Θ E H (Own ŝ σ) (f ŝ) fun p =>
  ∃ b, p.1 = .bool b ∧ ∀ H' G', Stp Θ σ ŝ H G p.2 H' G' T → Q b H'
def Rdb (Θ : Th) (G H : Hp) (v : V) (d : D) : Prop := DV Θ G v d ∨ ∃ a, v = .ref a ∧ OV Θ G H a d

section
variable {Θ : Th} {E : XK} {G G' G1 G2 H H' H1 H2 : Hp} {T T' T1 T2 : List (Addr × D)} {ŝ ŝ' ŝ1 ŝ2 : FS} {σ : L2.St} {κ : Kd} {v w : V} {d e : D} {O : Addr → Prop}
theorem WO.bind {α β : Type} {x : Out α} {f : α → Out β} {K : β → Prop} : WO Θ E H O (x >>= f) K ↔ WO Θ E H O x fun a => WO Θ E H O (f a) K := by
  cases x <;> exact Iff.rfl
theorem WO.mono {α : Type} {x : Out α} {K K' : α → Prop} (h : WO Θ E H O x K) (k : ∀ a, x = .ok a → K a → K' a) : WO Θ E H O x K' := by
  cases x with
  | ok a => exact k a rfl h
  | err c y => exact h
  | bad => exact h
theorem WO.opt {α : Type} {x : Option α} {K : α → Prop} (h : WO Θ E H O (optO x) K) : ∃ a, x = some a ∧ K a := by
  cases x with
  | none => exact h.elim
  | some a => exact ⟨a, rfl, h⟩
theorem WO.optb {α β : Type} {x : Option α} {f : α → Out β} {K : β → Prop} (h : WO Θ E H O (optO x >>= f) K) : ∃ a, x = some a ∧ WO Θ E H O (f a) K := WO.opt (WO.bind.mp h)
theorem WO.ite {α : Type} {c : Prop} [Decidable c] {x : Out α} {K : α → Prop} (h : WO Θ E H O (if c then x else .bad) K) : c ∧ WO Θ E H O x K := by
  by_cases hc : c
  · rw [if_pos hc] at h; exact ⟨hc, h⟩
  · rw [if_neg hc] at h; exact h.elim
theorem XP.move {c : Str} {x : D} {O1 : Addr → Prop} (h : XP Θ E H O c x) (fr : ∀ b o, H b = some o → ¬ O b → H1 b = some o) (own : ∀ b o, O1 b → H b = some o → O b) : XP Θ E H1 O1 c x :=
  fun cls dd H' hm hf he => h cls dd H' hm (fun b o q n => hf b o (fr b o q n) fun z => n (own b o z q)) he
theorem WO.move {α : Type} {x : Out α} {K : α → Prop} {O1 : Addr → Prop} (h : WO Θ E H O x K) (fr : ∀ b o, H b = some o → ¬ O b → H1 b = some o) (own : ∀ b o, O1 b → H b = some o → O b) : WO Θ E H1 O1 x K := by
  cases x with
  | ok a => exact h
  | err c y => exact XP.move h fr own
  | bad => exact h
theorem WO.step {α : Type} {x : Out α} {K : α → Prop} (h : WO Θ E H (Own ŝ σ) x K) (s : Stp Θ σ ŝ H G ŝ1 H1 G1 T1) : WO Θ E H1 (Own ŝ1 σ) x K := h.move s.ext.fr fun b _ z _ => s.own b z
theorem Stp.refl (R : Rep Θ G T ŝ σ H) : Stp Θ σ ŝ H G ŝ H G T := ⟨Ext.refl, fun _ h => h, R⟩
theorem Stp.trans (a : Stp Θ σ ŝ H G ŝ1 H1 G1 T1) (b : Stp Θ σ ŝ1 H1 G1 ŝ2 H2 G2 T2) : Stp Θ σ ŝ H G ŝ2 H2 G2 T2 :=
  ⟨a.ext.trans b.ext fun c _ z _ => a.own c z, fun c z => a.own c (b.own c z), b.rep⟩
theorem Rep.suffix : ∀ {T' T : List (Addr × D)}, T <:+ T' → Rep Θ G T' ŝ σ H → Rep Θ G T ŝ σ H
  | [], _, h, R => by
    have e := List.suffix_nil.mp h
    subst e; exact R
  | t :: T', T, h, R => by
    rcases List.suffix_cons_iff.mp h with e | h
    · subst e; exact R
    · exact Rep.suffix h R.drop
theorem Stp.suffix (h : T <:+ T') (a : Stp Θ σ ŝ H G ŝ1 H1 G1 T') : Stp Θ σ ŝ H G ŝ1 H1 G1 T := ⟨a.ext, a.own, a.rep.suffix h⟩
theorem RK.suffix (h : RK Θ κ G' H T T' ŝ' σ v d) : T <:+ T' := by
  cases κ with
  | frozen => obtain ⟨rfl, _⟩ := h; exact List.suffix_refl _
  | fresh => obtain ⟨a, _, rfl, _⟩ := h; exact List.suffix_cons _ _
  | bor i => obtain ⟨rfl, _⟩ := h; exact List.suffix_refl _
/-- from a later heap's view to an earlier one's -/
theorem RK.back (h : RK Θ κ G' H1 T T' ŝ' σ v d) (x : Ext O H G H1 G1) : RK Θ κ G' H T T' ŝ' σ v d := by
  cases κ with
  | frozen => exact h
  | bor i => exact h
  | fresh =>
    obtain ⟨a, e1, e2, n⟩ := h
    refine ⟨a, e1, e2, ?_⟩
    cases q : H a with
    | none => rfl
    | some o => obtain ⟨o', q'⟩ := x.th a o q; rw [n] at q'; cases q'
theorem Rep.readS (R : Rep Θ G T ŝ σ H) {i : Nat} (hv : σ[i]? = some (some v)) (h : Fw.readS ŝ i = some d) : Rdb Θ G H v d := by
  unfold Fw.readS at h
  split at h
  · rename_i c hc
    cases h
    obtain ⟨x, e, dv⟩ := R.val hc
    rw [hv] at e; cases e
    exact .inl dv
  · rename_i c hc
    cases h
    obtain ⟨a, e, _, ov⟩ := R.own hc
    rw [hv] at e; cases e
    exact .inr ⟨a, rfl, ov⟩
  · cases h
theorem RK.read (R : Rep Θ G' T' ŝ' σ H') (h : RK Θ κ G' H T T' ŝ' σ v d) : Rdb Θ G' H' v d := by
  cases κ with
  | frozen => exact .inl h.2
  | fresh =>
    obtain ⟨a, rfl, rfl, _⟩ := h
    exact .inr ⟨a, rfl, (R.tmp List.mem_cons_self).2⟩
  | bor i => exact R.readS h.2.1 h.2.2
def lateK : Kd → FS → D → Option D
  | .bor i, ŝ, _ => readS ŝ i
  | _, _, d => some d
/-- .. read later -/
theorem RK.later (h : RK Θ κ G1 H T T1 ŝ1 σ v d) (s : Stp Θ σ ŝ1 H1 G1 ŝ2 H2 G2 T2) (hT : T1 <:+ T2) (hl : lateK κ ŝ2 d = some e) : Rdb Θ G2 H2 v e := by
  cases κ with
  | frozen => cases hl; exact .inl (h.2.same s.ext.gg)
  | fresh =>
    obtain ⟨a, rfl, rfl, _⟩ := h
    cases hl
    exact .inr ⟨a, rfl, (s.rep.tmp (hT.subset List.mem_cons_self)).2⟩
  | bor i => exact s.rep.readS h.2.1 hl
theorem PE.imp {X : Cx} {e : Expr} {t t' : TE} (h : PE X e t) (k : ∀ σ H Q, t' σ H Q → t σ H Q) : PE X e t' := ⟨fun pins s σ H Q I q => h.run pins s σ H Q I (k σ H Q q)⟩
theorem PA.imp {X : Cx} {e : List Expr} {t t' : TA} (h : PA X e t) (k : ∀ σ H Q, t' σ H Q → t σ H Q) : PA X e t' := ⟨fun pos pins s σ H Q I q => h.run pos pins s σ H Q I (k σ H Q q)⟩
theorem PT.imp {X : Cx} {e : Expr} {t t' : TT} (h : PT X e t) (k : ∀ σ H Q, t' σ H Q → t σ H Q) : PT X e t' := ⟨fun pins s σ H Q I q => h.run pins s σ H Q I (k σ H Q q)⟩
theorem PW.imp {X : Cx} {e : Expr} {t t' : TT} (h : PW X e t) (k : ∀ σ H Q, t' σ H Q → t σ H Q) : PW X e t' := ⟨fun wh pins s σ H Q I q => h.run wh pins s σ H Q I (k σ H Q q)⟩

/-- a fresh thing is told to all -/
theorem RdE.freeze {f : FS → Out (D × FS)} {Q : VK} (h : RdE Θ E .frozen f σ H Q) : RdE Θ E .fresh f σ H Q := by
  obtain ⟨ŝ, G, T, R, w⟩ := h
  refine ⟨ŝ, G, T, R, w.mono fun p _ k v H' G' T' s r => ?_⟩
  obtain ⟨a, rfl, rfl, n⟩ := r
  obtain ⟨gn, _⟩ := s.rep.tmp List.mem_cons_self
  obtain ⟨o, ho, R', dv⟩ := s.rep.freeze
  exact k _ H' _ T ⟨s.ext.freeze n gn, s.own, R'⟩ ⟨rfl, dv⟩
/-- .. a borrowed one is not -/
theorem Kd.notBor_frozen {X : Cx} {e : Expr} {f : FS → Out (D × FS)} (h : PE X e (RdE Θ E κ f)) (hk : ∀ i, κ ≠ .bor i) : PE X e (RdE Θ E .frozen f) := by
  cases κ with
  | frozen => exact h
  | fresh => exact PE.imp h fun σ H Q => RdE.freeze
  | bor i => exact absurd rfl (hk i)
/-- a value as a test -/
theorem RdT.to {f : FS → Out (D × FS)} {Q : Bool → Hp → Prop} (h : RdT Θ E f σ H Q) : RdE Θ E κ f σ H fun x H' => ∃ k, x = .bl k ∧ Q k H' := by
  obtain ⟨ŝ, G, T, R, w⟩ := h
  refine ⟨ŝ, G, T, R, w.mono fun p _ k v H' G' T' s r => ?_⟩
  obtain ⟨b, e, k⟩ := k
  have q := r.read s.rep
  rw [e] at q
  rcases q with q | ⟨a, _, q⟩
  · cases q; exact ⟨b, rfl, k H' G' (s.suffix r.suffix)⟩
  · cases q
end

/-! ### what can be read -/
section
variable {Θ : Th} {G H : Hp} {T : List (Addr × D)} {ŝ : FS} {σ : L2.St} {v : V} {d : D}
theorem Rdb.int {i : Int} (h : Rdb Θ G H v (.int i)) : v = .int i := by
  rcases h with h | ⟨a, _, h⟩ <;> cases h; rfl
theorem Rdb.bool {b : Bool} (h : Rdb Θ G H v (.bool b)) : v = .bl b := by
  rcases h with h | ⟨a, _, h⟩ <;> cases h; rfl
theorem Rdb.str {b : Str} (h : Rdb Θ G H v (.str b)) : v = .str b := by
  rcases h with h | ⟨a, _, h⟩ <;> cases h; rfl
theorem Rdb.none (h : Rdb Θ G H v .none) : v = .non := by
  rcases h with h | ⟨a, _, h⟩ <;> cases h; rfl
theorem Rdb.tuple {l : List D} (sub : Same G H) (h : Rdb Θ G H v (.tuple l)) : ∃ a xs, v = .ref a ∧ SqT Θ.K G a xs ∧ SqT Θ.K H a xs ∧ DVs Θ G xs l := by
  rcases h with h | ⟨a, _, h⟩
  · cases h with
    | tup h t => exact ⟨_, _, rfl, h, sqT_same sub h, t⟩
  · cases h
theorem Rdb.list {l : List D} (sub : Same G H) (h : Rdb Θ G H v (.list l)) : ∃ a xs, v = .ref a ∧ H a = some (.lst xs) ∧ DVs Θ G xs l := by
  rcases h with h | ⟨a, rfl, h⟩
  · cases h with
    | lst h t => exact ⟨_, _, rfl, sub _ _ h, t⟩
  · cases h with
    | lst h t => exact ⟨a, _, rfl, h, t⟩
theorem Rdb.dict {l : List (D × D)} (sub : Same G H) (h : Rdb Θ G H v (.dict l)) (hk : ∀ p ∈ l, p.1 ≠ .none) : ∃ a o kxs xs, v = .ref a ∧ H a = some (dO a o) ∧ EntOk Θ a o kxs xs (l.map (·.1)) ∧ DVs Θ G kxs (l.map (·.1)) ∧ DVs Θ G xs (l.map (·.2)) := by
  rcases h with h | ⟨a, rfl, h⟩
  · generalize e : PyData.dict l = d at h
    cases h with
    | non => cases e
    | bl => cases e
    | int => cases e
    | str => cases e
    | tup => cases e
    | lst => cases e
    | dct h1 h2 h3 h4 => cases e; exact ⟨_, _, _, _, rfl, sub _ _ h1, h2, h3, h4⟩
    | fn => cases e; exact absurd rfl (hk _ List.mem_cons_self)
    | scr => cases e; exact absurd rfl (hk _ List.mem_cons_self)
  · cases h with
    | dct h1 h2 h3 h4 => exact ⟨_, _, _, _, rfl, h1, h2, h3, h4⟩
theorem DVs.len {xs : List V} {l : List D} (h : DVs Θ G xs l) : xs.length = l.length := h.length
/-- a new list, told to its maker -/
theorem Stp.made {p : Addr} {xs : List V} {l : List D} (R : Rep Θ G T ŝ σ H) (hp : H p = none) (t : DVs Θ G xs l) : Stp Θ σ ŝ H G ŝ (upd H p (.lst xs)) G ((p, .list l) :: T) :=
  ⟨Ext.made hp, fun _ h => h, R.made hp (.lst upd_same t)⟩
/-- a new tuple -/
theorem Stp.tup {p : Addr} {xs : List V} {l : List D} (R : Rep Θ G T ŝ σ H) (hp : H p = none) (t : DVs Θ G xs l) : Stp Θ σ ŝ H G ŝ (upd H p (.tup xs)) (upd G p (.tup xs)) T ∧ DV Θ (upd G p (.tup xs)) (.ref p) (.tuple l) := by
  have gp : G p = none := by
    cases e : G p with
    | none => rfl
    | some u => rw [R.sub _ _ e] at hp; cases hp
  exact ⟨⟨Ext.tell R.sub hp, fun _ h => h, R.tell hp⟩, .tup (.of upd_same) (t.same (same_upd gp))⟩
end
end Fw

set_option Elab.async false
set_option linter.all false
set_option maxRecDepth 100000
set_option maxHeartbeats 4000000
namespace Fw
open PySem PySem.Spec L2 PyProof.Rows
theorem tuple_mulS (l : Addr) (items : Array Value) (n : Nat) (dd : Option Addr) (sl : Array (Option Value)) (x : Int) (u : Tok) (c0 : (decide (x < -(2 ^ 63)) || decide (x ≥ 2 ^ 63)) = false) (c1 : (items.isEmpty || x == 1) = true) :
    Meets (Builtin.«tuple.__mul__» ⟨[.ref l, .int x u], []⟩) (fun _ R s => s.heap.get? l = some { cls := .type "tuple", dict := dd, data := .seq items n, slots := sl } ∧ R (.ok (.ret (Value.ref l))) s) :=
  .of_wp fun prog w A R s h => by
    obtain ⟨hp, g, d, tk, os⟩ := s
    obtain ⟨hl, h⟩ := h
    have f1 := AutoSeq1.idx_int
    have f2 := AutoSeq1.sub_tuple_tuple
    wp_walk using wpAny_loadPart' hl
    repeat (first
      | (refine wpAny_ite_false (decide_eq_false (by rw [c0]; exact Bool.false_ne_true)) ?_; wp_walk using wpAny_loadPart' hl)
      | (refine wpAny_ite_true (decide_eq_true c1) ?_; wp_walk using wpAny_loadPart' hl))
    exact ⟨_, rfl, h⟩
theorem tuple_mulZ (l : Addr) (items : Array Value) (n : Nat) (dd : Option Addr) (sl : Array (Option Value)) (x : Int) (u : Tok) (c0 : (decide (x < -(2 ^ 63)) || decide (x ≥ 2 ^ 63)) = false) (c1 : (items.isEmpty || x == 1) = false) (c2 : (decide (x ≤ 0) || items.isEmpty) = true) :
    Meets (Builtin.«tuple.__mul__» ⟨[.ref l, .int x u], []⟩) (fun _ R s => s.heap.get? l = some { cls := .type "tuple", dict := dd, data := .seq items n, slots := sl } ∧
      R (.ok (.ret (Value.ref s.heap.objs.size))) { s with heap := s.heap.push { cls := Value.type "tuple", data := Data.seq #[] }, toks := s.toks }) :=
  .of_wp fun prog w A R s h => by
    obtain ⟨hp, g, d, tk, os⟩ := s
    obtain ⟨hl, h⟩ := h
    have f1 := AutoSeq1.idx_int
    wp_walk using wpAny_loadPart' hl
    repeat (first
      | (refine wpAny_ite_false (decide_eq_false (by rw [c0]; exact Bool.false_ne_true)) ?_; wp_walk using wpAny_loadPart' hl)
      | (refine wpAny_ite_false (decide_eq_false (by rw [c1]; exact Bool.false_ne_true)) ?_; wp_walk using wpAny_loadPart' hl)
      | (refine wpAny_ite_true (decide_eq_true c2) ?_; wp_walk using wpAny_loadPart' hl))
    exact ⟨_, rfl, h⟩
/-- t * k -/
def rRepA (K : PySem.W.Frag) : R2 := fun x y H Q => ∃ l k xs, x = .ref l ∧ y = .int k ∧ SqT K H l xs ∧ -(2 ^ 62) ≤ k ∧ k < 2 ^ 62 ∧ xs.length * k.toNat ≤ 100000 ∧
  ((xs = [] ∨ k = 1) → Q (.ref l) H) ∧ (¬ (xs = [] ∨ k = 1) → ∀ p, H p = none → Q (.ref p) (upd H p (.tup (List.replicate k.toNat xs).flatten)))
theorem op_repA {X : Cx} : OpR X (binaryOp .Mult) (rRepA X.K) := by
  intro pins s σ H x y v u Q I rx ry h
  obtain ⟨l, k, xs, rfl, rfl, hT, h1, h2, hz, q1, q2⟩ := h
  cases rx
  obtain ⟨t, rfl⟩ := ry
  obtain ⟨its, r, ⟨⟨cls, dd, data, sl⟩, ho, hc, n, hd⟩, hs⟩ := I.tuple hT
  simp only at hc hd
  subst hc hd
  have hle : its.length = xs.length := r.length.symm
  have c0 : (decide (k < -(2 ^ 63)) || decide (k ≥ 2 ^ 63)) = false := by
    rw [decide_eq_false (by omega), decide_eq_false (by omega)] <;> rfl
  have hi : its.toArray.isEmpty = decide (xs = []) := by
    cases its with
    | nil => cases r; rfl
    | cons a b => cases r; rfl
  have run : ∀ {R : Value → Shared → Prop}, (wpAny (model X.prog X.w) X.A.in1 (pure ()) (fun _ _ => True) (fun _ _ => True) s → True) → True := fun _ => trivial
  have road : ∀ {r : Value} {s' : Shared} {P : Around → (Result → Shared → Prop) → Shared → Prop}, Meets (Builtin.«tuple.__mul__» ⟨[.ref l, .int k t], []⟩) P → (∀ A R, R (.ok (.ret r)) s' → P A R s) → EP X pins σ Q r s' → wpAny (model X.prog X.w) X.A (binaryOp .Mult (.ref l) (.int k t)) (EP X pins σ Q) X.xe s := fun {r s' P} M hP hE =>
    wpAny_binaryOp_repeat_ref (T := "tuple") (U := "int") (by decide) ⟨_, ho, rfl⟩ (fun s' => typeIs_int s' k t) noFill_tuple_mul PySem.F.fills_int_mul PySem.F.slot_int_rmul repeat_tuple PySem.F.slot_int_index.lookup
      (call_meets PySem.F.slot_int_rmul (typeIs_int s k t) PySem.F.entry_int_rmul (PySem.F.args_int_rmul_2 _ _) (int_rmul_tuple k t l its.toArray n dd sl)
        ⟨ho, rfl, ⟨_, ho, rfl⟩, call_meets PySem.F.slot_tuple_mul ⟨_, ho, rfl⟩ PySem.F.entry_tuple_mul (PySem.F.args_tuple_mul_2 _ _) M (hP _ _ hE)⟩)
  by_cases hx : xs = [] ∨ k = 1
  · have c1 : (its.toArray.isEmpty || k == 1) = true := by
      rw [hi]
      rcases hx with hx | hx
      · rw [decide_eq_true hx]; rfl
      · rw [hx]; simp
    exact road (tuple_mulS l its.toArray n dd sl k t c0 c1) (fun A R z => ⟨ho, z⟩) ⟨.ref l, H, I, rfl, q1 hx⟩
  · have c1 : (its.toArray.isEmpty || k == 1) = false := by
      rw [hi]
      rw [decide_eq_false (fun z => hx (.inl z)), Bool.false_or]
      exact beq_eq_false_iff_ne.mpr fun z => hx (.inr z)
    have hne : xs ≠ [] := fun z => hx (.inl z)
    by_cases hk : k ≤ 0
    · have c2 : (decide (k ≤ 0) || its.toArray.isEmpty) = true := by rw [decide_eq_true hk]; rfl
      have e0 : k.toNat = 0 := by omega
      rw [e0] at q2
      refine road (tuple_mulZ l its.toArray n dd sl k t c0 c1 c2) (fun A R z => ⟨ho, z⟩) ⟨.ref s.heap.objs.size, _, I.laid (t' := s.toks) (o := .tup []) (fun b ob q => Heap.get?_push_of_some _ q) (Nat.le_refl _) ?_, rfl, q2 hx _ (I.hok.fresh (Nat.le_refl _))⟩
      exact ⟨Nat.zero_le _, [], .nil, IsTup.new _ _⟩
    · have c2 : (decide (k ≤ 0) || its.toArray.isEmpty) = false := by
        rw [decide_eq_false hk, hi, decide_eq_false hne]; rfl
      have flen : (List.replicate k.toNat its).flatten.length ≤ sizeLine := by
        rw [PyProof.Rows.lm_len_rep_flat, hle, sizeLine_eq]
        rw [Nat.mul_comm]; omega
      have hm : ((its.toArray.size : Nat) : Int) * k ≤ 100000 := by
        have e1 : ((xs.length * k.toNat : Nat) : Int) = (xs.length : Int) * k := by
          rw [Int.natCast_mul, Int.toNat_of_nonneg (by omega)]
        rw [List.size_toArray, hle, ← e1]
        omega
      have c4 : Builtin.Tuple.tupleTooMany (((its.toArray.size : Nat) : Int) * k) = false := by
        unfold Builtin.Tuple.tupleTooMany
        rw [sizeLine_eq]
        exact decide_eq_false (by omega)
      refine road (tuple_mulW l its.toArray n dd sl k t c0 c1 c2 (by omega) c4 (by rw [size_rep, List.size_toArray]; exact flen)) (fun A R z => ⟨ho, z⟩) ?_
      rw [size_rep]
      refine ⟨.ref s.heap.objs.size, _, I.laid (t' := s.toks) (o := .tup (List.replicate k.toNat xs).flatten) (fun b ob q => Heap.get?_push_of_some _ q) (Nat.le_refl _) ?_, rfl, q2 hx _ (I.hok.fresh (Nat.le_refl _))⟩
      exact ⟨by rw [PyProof.Rows.lm_len_rep_flat, sizeLine_eq]; rw [Nat.mul_comm]; omega, _, r.rep k.toNat, IsTup.new _ _⟩
end Fw

set_option Elab.async false
set_option linter.all false
set_option maxRecDepth 100000
set_option maxHeartbeats 4000000
namespace Fw
open PySem PySem.Spec L2

def VR2 (Θ : Th) (κ : Kd) (g : D → D → Option D) (r : R2) : Prop :=
  ∀ {G H : Hp} {T : List (Addr × D)} {ŝ : FS} {σ : L2.St} {v w : V} {d e z : D} {Q : VK}, Rep Θ G T ŝ σ H → Rdb Θ G H v d → Rdb Θ G H w e → g d e = some z →
    (∀ u H' G' T', Stp Θ σ ŝ H G ŝ H' G' T' → RK Θ κ G' H T T' ŝ σ u z → Q u H') → r v w H Q
def VR1 (Θ : Th) (κ : Kd) (g : D → Option D) (r : V → Hp → VK → Prop) : Prop :=
  ∀ {G H : Hp} {T : List (Addr × D)} {ŝ : FS} {σ : L2.St} {v : V} {d z : D} {Q : VK}, Rep Θ G T ŝ σ H → Rdb Θ G H v d → g d = some z →
    (∀ u H' G' T', Stp Θ σ ŝ H G ŝ H' G' T' → RK Θ κ G' H T T' ŝ σ u z → Q u H') → r v H Q
section
variable {Θ : Th} {E : XK} {κ κa κb κc : Kd} {fa fb fc : FS → Out (D × FS)} {σ : L2.St} {H : Hp} {Q : VK}
theorem rd_op2 {g : D → D → Option D} {r : R2} (hv : VR2 Θ κ g r)
    (h : RdE Θ E κ (fun s => fa s >>= fun p => fb p.2 >>= fun q => optO (lateK κa q.2 p.1) >>= fun d => optO (g d q.1) >>= fun z => .ok (z, q.2)) σ H Q) : tOp r (RdE Θ E κa fa) (RdE Θ E κb fb) σ H Q := by
  obtain ⟨ŝ, G, T, R, w⟩ := h
  refine ⟨ŝ, G, T, R, (WO.bind.mp w).mono fun p _ k v H1 G1 T1 s1 r1 => ?_⟩
  refine ⟨p.2, G1, T1, s1.rep, (WO.bind.mp (k.step s1)).mono fun q _ k2 w' H2 G2 T2 s2 r2 => ?_⟩
  obtain ⟨d, hd, k3⟩ := WO.optb k2
  obtain ⟨z, hz, k4⟩ := WO.optb k3
  have hT := r1.suffix.trans r2.suffix
  have s12 := s1.trans s2
  exact hv (s2.rep.suffix hT) (r1.later s2 r2.suffix hd) (r2.read s2.rep) hz fun u H' G' T' s3 r3 => k4 u H' G' T' ((s12.suffix hT).trans s3) (r3.back s12.ext)
theorem rd_op1 {g : D → Option D} {r : V → Hp → VK → Prop} (hv : VR1 Θ κ g r)
    (h : RdE Θ E κ (fun s => fa s >>= fun p => optO (g p.1) >>= fun z => .ok (z, p.2)) σ H Q) : tUn r (RdE Θ E κa fa) σ H Q := by
  obtain ⟨ŝ, G, T, R, w⟩ := h
  refine ⟨ŝ, G, T, R, (WO.bind.mp w).mono fun p _ k v H1 G1 T1 s1 r1 => ?_⟩
  obtain ⟨z, hz, k4⟩ := WO.optb k
  exact hv (s1.rep.suffix r1.suffix) (r1.read s1.rep) hz fun u H' G' T' s3 r3 => k4 u H' G' T' ((s1.suffix r1.suffix).trans s3) (r3.back s1.ext)
end

section
variable {Θ : Th} {K : PySem.W.Frag}
theorem guardO_some {b : Bool} {d z : D} (h : guardO b d = some z) : b = true ∧ d = z := by
  unfold guardO at h
  split at h
  · cases h; exact ⟨by assumption, rfl⟩
  · cases h
theorem Stp.val {G H : Hp} {T : List (Addr × D)} {ŝ : FS} {σ : L2.St} {v : V} {d : D} {Q : VK} (R : Rep Θ G T ŝ σ H) (dv : DV Θ G v d)
    (hQ : ∀ u H' G' T', Stp Θ σ ŝ H G ŝ H' G' T' → RK Θ .frozen G' H T T' ŝ σ u d → Q u H') : Q v H := hQ v H G T (Stp.refl R) ⟨rfl, dv⟩
/-! ### arithmetic -/
def rAddD (K : PySem.W.Frag) : R2 := fun x y H Q => (rI0 (fun i j => .int (i + j)) x y H Q ∨ (∃ i j, x = .str i ∧ y = .str j ∧ i.length + j.length ≤ sizeLine ∧ Q (.str (i ++ j)) H)) ∨ rCatA K x y H Q
theorem op_addD {X : Cx} : OpR X (binaryOp .Add) (rAddD X.K) := (op_add.or op_add_str).or op_catA
theorem vr_cat {a b : Addr} {xs ys : List V} {l m : List D} {G H : Hp} {T : List (Addr × D)} {ŝ : FS} {σ : L2.St} {Q : VK} (R : Rep Θ G T ŝ σ H)
    (h1 : SqT Θ.K G a xs) (t1 : DVs Θ G xs l) (h2 : SqT Θ.K G b ys) (t2 : DVs Θ G ys m) (hz : l.length + m.length ≤ sizeLine)
    (hQ : ∀ u H' G' T', Stp Θ σ ŝ H G ŝ H' G' T' → RK Θ .frozen G' H T T' ŝ σ u (.tuple (l ++ m)) → Q u H') : rCatA Θ.K (.ref a) (.ref b) H Q := by
  refine ⟨a, b, xs, ys, rfl, rfl, sqT_same R.sub h1, sqT_same R.sub h2, by rw [t1.len, t2.len]; exact hz, fun e => ?_, fun _ e => ?_, fun _ _ p hp => ?_⟩
  · subst e; cases t1; exact Stp.val R (.tup h2 t2) hQ
  · subst e; cases t2
    rw [List.append_nil] at hQ
    exact Stp.val R (.tup h1 t1) hQ
  · obtain ⟨s, dv⟩ := Stp.tup R hp (t1.append t2)
    exact hQ _ _ _ T s ⟨rfl, dv⟩
theorem vr_add : VR2 Θ .frozen addD (rAddD Θ.K) := by
  intro G H T ŝ σ v w d e z Q R hv hw hz hQ
  unfold addD at hz
  split at hz
  · cases hz
    rw [hv.int, hw.int]
    exact .inl (.inl ⟨_, _, rfl, rfl, Stp.val R (.int _) hQ⟩)
  · obtain ⟨h1, rfl⟩ := guardO_some hz
    unfold fitsL at h1
    rw [decide_eq_true_eq] at h1
    rw [hv.str, hw.str]
    exact .inl (.inr ⟨_, _, rfl, rfl, h1, Stp.val R (.str _) hQ⟩)
  · obtain ⟨h1, rfl⟩ := guardO_some hz
    obtain ⟨a, xs, rfl, q1, _, t1⟩ := hv.tuple R.sub
    obtain ⟨b, ys, rfl, q2, _, t2⟩ := hw.tuple R.sub
    unfold fitsL at h1
    rw [decide_eq_true_eq] at h1
    exact .inr (vr_cat R q1 t1 q2 t2 h1 hQ)
  · cases hz
theorem vr_addL : VR2 Θ .fresh addLD rCat := by
  intro G H T ŝ σ v w d e z Q R hv hw hz hQ
  unfold addLD at hz
  split at hz
  · obtain ⟨h1, rfl⟩ := guardO_some hz
    obtain ⟨a, xs, rfl, q1, t1⟩ := hv.list R.sub
    obtain ⟨b, ys, rfl, q2, t2⟩ := hw.list R.sub
    unfold fitsL at h1
    rw [decide_eq_true_eq] at h1
    refine ⟨a, b, xs, ys, rfl, rfl, q1, q2, by rw [t1.len, t2.len]; exact h1, fun p hp => ?_⟩
    exact hQ _ _ _ _ (Stp.made R hp (t1.append t2)) ⟨p, rfl, rfl, hp⟩
  · cases hz
theorem vr_sub : VR2 Θ .frozen subD (rI0 fun i j => .int (i - j)) := by
  intro G H T ŝ σ v w d e z Q R hv hw hz hQ
  unfold subD at hz
  split at hz
  · cases hz
    rw [hv.int, hw.int]
    exact ⟨_, _, rfl, rfl, Stp.val R (.int _) hQ⟩
  · cases hz
theorem DVs.rep {G : Hp} {xs : List V} {l : List D} (t : DVs Θ G xs l) : ∀ k : Nat, DVs Θ G (List.replicate k xs).flatten (List.replicate k l).flatten
  | 0 => .nil
  | k + 1 => by
    rw [List.replicate_succ, List.replicate_succ, List.flatten_cons, List.flatten_cons]
    exact t.append (DVs.rep t k)
theorem vr_mul : VR2 Θ .frozen mulD (fun x y H Q => rI CMul (fun i j => .int (i * j)) x y H Q ∨ rRepA Θ.K x y H Q) := by
  intro G H T ŝ σ v w d e z Q R hv hw hz hQ
  unfold mulD at hz
  split at hz
  · obtain ⟨h1, rfl⟩ := guardO_some hz
    rw [hv.int, hw.int]
    unfold mulOk at h1
    rw [decide_eq_true_eq] at h1
    exact .inl ⟨_, _, rfl, rfl, h1, Stp.val R (.int _) hQ⟩
  · rename_i l k
    obtain ⟨h1, rfl⟩ := guardO_some hz
    obtain ⟨a, xs, rfl, q1, q1', t1⟩ := hv.tuple R.sub
    rw [hw.int]
    unfold repOk at h1
    rw [decide_eq_true_eq] at h1
    obtain ⟨h1, h2, h3⟩ := h1
    refine .inr ⟨a, k, xs, rfl, rfl, q1', h1, h2, by rw [t1.len]; exact h3, fun e => ?_, fun _ p hp => ?_⟩
    · have e' : Fw.rep k l = l := by
        unfold Fw.rep
        rcases e with e | e
        · subst e; cases t1
          generalize k.toNat = n
          induction n with
          | zero => rfl
          | succ n ih => rw [List.replicate_succ, List.flatten_cons, ih]; rfl
        · subst e
          show (List.replicate 1 l).flatten = l
          simp
      rw [e'] at hQ
      exact Stp.val R (.tup q1 t1) hQ
    · obtain ⟨s, dv⟩ := Stp.tup R hp (t1.rep k.toNat)
      exact hQ _ _ _ T s ⟨rfl, dv⟩
  · cases hz
theorem vr_mulL : VR2 Θ .fresh mulLD rRep := by
  intro G H T ŝ σ v w d e z Q R hv hw hz hQ
  unfold mulLD at hz
  split at hz
  · rename_i l k
    obtain ⟨h1, rfl⟩ := guardO_some hz
    obtain ⟨a, xs, rfl, q1, t1⟩ := hv.list R.sub
    rw [hw.int]
    unfold repOk at h1
    rw [decide_eq_true_eq] at h1
    obtain ⟨h1, h2, h3⟩ := h1
    refine ⟨a, k, xs, rfl, rfl, q1, by omega, by omega, by rw [t1.len, sizeLine_eq]; omega, fun p hp => ?_⟩
    exact hQ _ _ _ _ (Stp.made R hp (t1.rep k.toNat)) ⟨p, rfl, rfl, hp⟩
  · cases hz
theorem vr_fdiv : VR2 Θ .frozen fdivD (rI CDiv fun i j => .int (i / j)) := by
  intro G H T ŝ σ v w d e z Q R hv hw hz hQ
  unfold fdivD at hz
  split at hz
  · obtain ⟨h1, rfl⟩ := guardO_some hz
    unfold divOk at h1
    rw [decide_eq_true_eq] at h1
    rw [hv.int, hw.int]
    exact ⟨_, _, rfl, rfl, h1, Stp.val R (.int _) hQ⟩
  · cases hz
theorem vr_mod : VR2 Θ .frozen modD (rI (fun _ j => 0 < j) fun i j => .int (i % j)) := by
  intro G H T ŝ σ v w d e z Q R hv hw hz hQ
  unfold modD at hz
  split at hz
  · obtain ⟨h1, rfl⟩ := guardO_some hz
    rw [decide_eq_true_eq] at h1
    rw [hv.int, hw.int]
    exact ⟨_, _, rfl, rfl, h1, Stp.val R (.int _) hQ⟩
  · cases hz
theorem vr_pow : VR2 Θ .frozen powD (rI CPow fun i j => .int (i ^ j.toNat)) := by
  intro G H T ŝ σ v w d e z Q R hv hw hz hQ
  unfold powD at hz
  split at hz
  · obtain ⟨h1, rfl⟩ := guardO_some hz
    unfold powOk at h1
    rw [decide_eq_true_eq] at h1
    rw [hv.int, hw.int]
    exact ⟨_, _, rfl, rfl, h1, Stp.val R (.int _) hQ⟩
  · cases hz
/-! ### comparisons -/
theorem lay_cons {d : D} {ds : List D} (c : PyData.canLayAll0 (d :: ds) = true) : d.canLay0 = true ∧ PyData.canLayAll0 ds = true := by
  unfold PyData.canLayAll0 at c
  rw [Bool.and_eq_true] at c
  exact c
theorem lay_tup {ds : List D} (c : PyData.canLay0 (.tuple ds) = true) : PyData.canLayAll0 ds = true := by
  unfold PyData.canLay0 at c
  exact c
theorem lay_lst {ds : List D} (c : PyData.canLay0 (.list ds) = true) : PyData.canLayAll0 ds = true := by
  unfold PyData.canLay0 at c
  exact c
theorem lay_dct {ds : List (D × D)} (c : PyData.canLay0 (.dict ds) = true) : False := by
  unfold PyData.canLay0 at c
  cases c
mutual
theorem DV.dp {G H : Hp} (sub : Same G H) {v : V} {d : D} (h : DV Θ G v d) (c : d.canLay0 = true) : Dp Θ.K H v d :=
  match h with
  | .non => .non
  | .bl b => .bl b
  | .int i => .int i
  | .str x => .str x
  | .tup h t => .tup (sqT_same sub h) (DVs.dp sub t (lay_tup c))
  | .lst h t => .lst (.of (sub _ _ h)) (DVs.dp sub t (lay_lst c))
  | .dct _ _ _ _ => (lay_dct c).elim
  | .fn _ _ => (lay_dct c).elim
  | .scr _ _ => (lay_dct c).elim
theorem DVs.dp {G H : Hp} (sub : Same G H) {vs : List V} {ds : List D} (h : DVs Θ G vs ds) (c : PyData.canLayAll0 ds = true) : DpAll Θ.K H vs ds :=
  match h with
  | .nil => .nil
  | .cons h t => .cons (DV.dp sub h (lay_cons c).1) (DVs.dp sub t (lay_cons c).2)
end
theorem shp_lay {d : D} (h : shp d = true) : d.canLay0 = true := by
  unfold shp SeqAt.shaped at h
  rw [Bool.and_eq_true] at h
  exact h.1
theorem Rdb.dp {G H : Hp} {v : V} {d : D} (sub : Same G H) (h : Rdb Θ G H v d) (c : d.canLay0 = true) : Dp Θ.K H v d := by
  rcases h with h | ⟨a, rfl, h⟩
  · exact h.dp sub c
  · cases h with
    | lst h t => exact .lst (.of h) (t.dp sub c)
    | dct h1 h2 h3 h4 => cases c
theorem vr_eq : VR2 Θ .frozen eqO (rEqD Θ.K) := by
  intro G H T ŝ σ v w d e z Q R hv hw hz hQ
  obtain ⟨h1, rfl⟩ := guardO_some hz
  rw [Bool.and_eq_true] at h1
  exact ⟨d, e, hv.dp R.sub (shp_lay h1.1), hw.dp R.sub (shp_lay h1.2), h1.1, h1.2, Stp.val R (.bl _) hQ⟩
theorem vr_ne : VR2 Θ .frozen neO (rNeD Θ.K) := by
  intro G H T ŝ σ v w d e z Q R hv hw hz hQ
  obtain ⟨h1, rfl⟩ := guardO_some hz
  rw [Bool.and_eq_true] at h1
  exact ⟨d, e, hv.dp R.sub (shp_lay h1.1), hw.dp R.sub (shp_lay h1.2), h1.1, h1.2, Stp.val R (.bl _) hQ⟩
theorem vr_le : VR2 Θ .frozen leO (rI0 fun i j => .bl (decide (i ≤ j))) := by
  intro G H T ŝ σ v w d e z Q R hv hw hz hQ
  unfold leO at hz
  split at hz
  · cases hz
    rw [hv.int, hw.int]
    exact ⟨_, _, rfl, rfl, Stp.val R (.bl _) hQ⟩
  · cases hz
theorem vr_gt : VR2 Θ .frozen gtO (rI0 fun i j => .bl (decide (j < i))) := by
  intro G H T ŝ σ v w d e z Q R hv hw hz hQ
  unfold gtO at hz
  split at hz
  · cases hz
    rw [hv.int, hw.int]
    exact ⟨_, _, rfl, rfl, Stp.val R (.bl _) hQ⟩
  · cases hz
theorem vr_ge : VR2 Θ .frozen geO (rI0 fun i j => .bl (decide (j ≤ i))) := by
  intro G H T ŝ σ v w d e z Q R hv hw hz hQ
  unfold geO at hz
  split at hz
  · cases hz
    rw [hv.int, hw.int]
    exact ⟨_, _, rfl, rfl, Stp.val R (.bl _) hQ⟩
  · cases hz
def rIsD : R2 := fun x y H Q => (y = .non ∧ Q (.bl (decide (x = .non))) H) ∨ rIsB x y H Q
def rNsD : R2 := fun x y H Q => (y = .non ∧ Q (.bl (!decide (x = .non))) H) ∨ rNotB x y H Q
theorem op_isD {X : Cx} : OpR X (compareOp .Is) rIsD := op_isN.or op_isBl
theorem op_nsD {X : Cx} : OpR X (compareOp .IsNot) rNsD := op_notN.or op_notBl
theorem Rdb.isNone {G H : Hp} {v : V} {d : D} (h : Rdb Θ G H v d) : decide (v = .non) = Fw.isNone d := by
  rcases h with h | ⟨a, rfl, h⟩
  · cases h with
    | non => exact decide_eq_true rfl
    | bl => exact decide_eq_false (fun z => by cases z)
    | int => exact decide_eq_false (fun z => by cases z)
    | str => exact decide_eq_false (fun z => by cases z)
    | tup => exact decide_eq_false (fun z => by cases z)
    | lst => exact decide_eq_false (fun z => by cases z)
    | dct => exact decide_eq_false (fun z => by cases z)
    | fn => exact decide_eq_false (fun z => by cases z)
    | scr => exact decide_eq_false (fun z => by cases z)
  · cases h with
    | lst => exact decide_eq_false (fun z => by cases z)
    | dct => exact decide_eq_false (fun z => by cases z)
end
end Fw

set_option Elab.async false
set_option linter.all false
set_option maxRecDepth 100000
set_option maxHeartbeats 4000000
namespace Fw
open PySem PySem.Spec L2
section
open PyProof.Rows
theorem preSum_getD (ns : List Int) : ∀ n, n ≤ ns.length → preSum (fun i => ns.getD i 0) n = (ns.take n).sum
  | 0, _ => rfl
  | n + 1, h => by
    have e : ns.getD n 0 = ns[n] := by rw [List.getD_eq_getElem?_getD, List.getElem?_eq_getElem (by omega)] <;> rfl
    rw [List.take_succ, List.getElem?_eq_getElem (by omega), List.sum_append, ← preSum_getD ns n (by omega)]
    show preSum (fun i => ns.getD i 0) n + ns.getD n 0 = _
    rw [e]; simp
section
variable {prog : Program} {w : World} {A : Around} {E : Value → Shared → Prop} {s : Shared} {l : Addr} {its : List Value} {ns : List Int} {Q : Value → Shared → Prop}
theorem sum_rawT (hh : A.handled = none) (hl : s.heap.IsTuple l its.toArray) (hi : IntsAre its ns)
    (h : ∀ h' tk t', (∀ b o, s.heap.get? b = some o → h'.get? b = some o) → Q (.int ns.sum t') { s with heap := h', toks := tk }) : wpAny (model prog w) A (call (.builtin "sum") [.ref l]) Q E s := by
  refine call_sum_walkAnyS (PySem.W.iter_tupleW (A := A.in1) hh hl fun s₂ e W st hfp hw hk => ?_)
  refine ⟨_, _, _, _, _, _, _, (fun i => ns.getD i 0), rfl, W, st, hfp, fun i v hv => ?_, fun s' t' m => ?_⟩
  · obtain ⟨t, e⟩ := IntsAre.int_at hi i v (by simpa using hv)
    exact ⟨t, e⟩
  · obtain ⟨h', tk, rfl, hk'⟩ := PySem.W.moved_old e rfl m
    have hn : its.toArray.size = ns.length := by rw [List.size_toArray]; exact hi.length
    rw [hn, preSum_getD ns _ (Nat.le_refl _), List.take_length]
    exact h h' tk t' hk'
end
def rSumT (K : PySem.W.Frag) : List V → Hp → VK → Prop := fun vs H Q => ∃ (a : Addr) (ns : List Int), vs = [V.ref a] ∧ SqT K H a (ns.map V.int) ∧ Q (.int ns.sum) H
theorem cr_sumT {X : Cx} (hc : X.calm = true) : CallR X (.builtin "sum") (rSumT X.K) := by
  intro pins s σ H vs us Q I r h
  obtain ⟨a, ns, rfl, hs, q⟩ := h
  obtain ⟨its, rv, hl, _⟩ := I.tuple hs
  rw [Vals.ref1 r]
  exact sum_rawT (I.ok.hd hc) hl rv.ints fun h' tk t' hk => ⟨.int _, H, I.kept hk, ⟨_, rfl⟩, q⟩
end
section
variable {X : Cx}
/-! ### in -/
def rInT (K : PySem.W.Frag) (neg : Bool) : R2 := fun x y H Q => ∃ d ds, Dp K H x d ∧ Dp K H y (.tuple ds) ∧ SeqAt.shaped d = true ∧ SeqAt.shaped (.tuple ds) = true ∧ Q (.bl (if neg then !(ds.any fun z => PyData.eqv z d) else ds.any fun z => PyData.eqv z d)) H
theorem room_inT {A : Around} {ds : List PyData} {d : PyData} (hd : SeqAt.shaped d = true) (hu : A.units + 65 < cLine) : A.units + 1 + min (PyData.depthAll ds) d.depth < cLine := by
  unfold SeqAt.shaped at hd
  rw [Bool.and_eq_true, decide_eq_true_eq] at hd
  have h := hd.2
  omega
theorem op_inT (hu : X.A.units + 65 < cLine) : OpR X (compareOp .In) (rInT X.K false) := by
  intro pins s σ H x y v u Q I rx ry h
  obtain ⟨d, ds, hd, he, sd, se, q⟩ := h
  obtain ⟨as, r1⟩ := Dp.reads I d x v hd rx
  obtain ⟨bs, r2⟩ := Dp.reads I (.tuple ds) y u he ry
  exact SeqAt.in_tuple_reads r2 r1 (SeqAt.canLay_of_shaped se) (SeqAt.canLay_of_shaped sd) (room_inT sd hu) ⟨.bl _, H, I, rfl, q⟩
theorem op_niT (hu : X.A.units + 65 < cLine) : OpR X (compareOp .NotIn) (rInT X.K true) := by
  intro pins s σ H x y v u Q I rx ry h
  obtain ⟨d, ds, hd, he, sd, se, q⟩ := h
  obtain ⟨as, r1⟩ := Dp.reads I d x v hd rx
  obtain ⟨bs, r2⟩ := Dp.reads I (.tuple ds) y u he ry
  exact SeqAt.notIn_tuple_reads r2 r1 (SeqAt.canLay_of_shaped se) (SeqAt.canLay_of_shaped sd) (room_inT sd hu) ⟨.bl _, H, I, rfl, q⟩
def Ky (Θ : Th) (neg : Bool) : R2 := fun x y H Q => ∃ G d kvs, Same G H ∧ DV Θ G x d ∧ Rdb Θ G H y (.dict kvs) ∧ keysOk kvs d = true ∧ Q (.bl (if neg then !(findK d kvs).isSome else (findK d kvs).isSome)) H
def rInAll (Θ : Th) : R2 := fun x y H Q => (rInD Θ.K x y H Q ∨ rInT Θ.K false x y H Q) ∨ Ky Θ false x y H Q
def rNiAll (Θ : Th) : R2 := fun x y H Q => (rNotInD Θ.K x y H Q ∨ rInT Θ.K true x y H Q) ∨ Ky Θ true x y H Q
end
section
variable {Θ : Th}
theorem Rdb.key {G H : Hp} {v : V} {d : D} {kvs : List (D × D)} (h : Rdb Θ G H v d) (k : keysOk kvs d = true) : DV Θ G v d := by
  rcases h with h | ⟨a, rfl, h⟩
  · exact h
  · cases h <;> simp [keysOk, intK, keyT, tupK] at k
theorem boolO_some {o : Option Bool} {z : D} (h : boolO o = some z) : ∃ b, o = some b ∧ z = .bool b := by
  cases o with
  | none => cases h
  | some b => cases h; exact ⟨b, rfl, rfl⟩
theorem vr_in : VR2 Θ .frozen inO (rInAll Θ) := by
  intro G H T ŝ σ v w d e z Q R hv hw hz hQ
  obtain ⟨b, hb, rfl⟩ := boolO_some hz
  unfold inD at hb
  split at hb
  · split at hb
    · rename_i l h1
      cases hb
      rw [Bool.and_eq_true] at h1
      exact .inl (.inr ⟨d, l, hv.dp R.sub (shp_lay h1.1), hw.dp R.sub (shp_lay h1.2), h1.1, h1.2, Stp.val R (.bl _) hQ⟩)
    · cases hb
  · split at hb
    · rename_i l h1
      cases hb
      rw [Bool.and_eq_true] at h1
      exact .inl (.inl ⟨d, l, hv.dp R.sub (shp_lay h1.1), hw.dp R.sub (shp_lay h1.2), h1.1, h1.2, Stp.val R (.bl _) hQ⟩)
    · cases hb
  · split at hb
    · rename_i h1
      cases hb
      exact .inr ⟨G, d, _, R.sub, hv.key h1, hw, h1, Stp.val R (.bl _) hQ⟩
    · cases hb
  · cases hb
theorem vr_ni : VR2 Θ .frozen niO (rNiAll Θ) := by
  intro G H T ŝ σ v w d e z Q R hv hw hz hQ
  obtain ⟨b, hb0, rfl⟩ := boolO_some hz
  obtain ⟨c, hb, e'⟩ := Option.bind_eq_some_iff.mp hb0
  have e2 : (!c) = b := Option.some.inj e'
  subst e2
  clear e' hb0 hz
  unfold inD at hb
  split at hb
  · split at hb
    · rename_i l h1
      cases hb
      rw [Bool.and_eq_true] at h1
      exact .inl (.inr ⟨d, l, hv.dp R.sub (shp_lay h1.1), hw.dp R.sub (shp_lay h1.2), h1.1, h1.2, Stp.val R (.bl _) hQ⟩)
    · cases hb
  · split at hb
    · rename_i l h1
      cases hb
      rw [Bool.and_eq_true] at h1
      exact .inl (.inl ⟨d, l, hv.dp R.sub (shp_lay h1.1), hw.dp R.sub (shp_lay h1.2), h1.1, h1.2, Stp.val R (.bl _) hQ⟩)
    · cases hb
  · split at hb
    · rename_i h1
      cases hb
      exact .inr ⟨G, d, _, R.sub, hv.key h1, hw, h1, Stp.val R (.bl _) hQ⟩
    · cases hb
  · cases hb
/-! ### is -/
theorem vr_is : VR2 Θ .frozen isO rIsD := by
  intro G H T ŝ σ v w d e z Q R hv hw hz hQ
  obtain ⟨b, hb, rfl⟩ := boolO_some hz
  unfold isD at hb
  split at hb
  · cases hb
    refine .inl ⟨hw.none, ?_⟩
    rw [hv.isNone]
    exact Stp.val R (.bl _) hQ
  · rename_i a b
    cases hb
    rw [hv.bool, hw.bool]
    refine .inr ⟨a, b, rfl, rfl, ?_⟩
    have e : decide (a = b) = (a == b) := by cases a <;> cases b <;> rfl
    rw [e]
    exact Stp.val R (.bl _) hQ
  · cases hb
theorem vr_ns : VR2 Θ .frozen nsO rNsD := by
  intro G H T ŝ σ v w d e z Q R hv hw hz hQ
  obtain ⟨b, hb0, rfl⟩ := boolO_some hz
  obtain ⟨c, hb, e'⟩ := Option.bind_eq_some_iff.mp hb0
  have e2 : (!c) = b := Option.some.inj e'
  subst e2
  clear e' hb0 hz
  unfold isD at hb
  split at hb
  · cases hb
    refine .inl ⟨hw.none, ?_⟩
    rw [hv.isNone]
    exact Stp.val R (.bl _) hQ
  · rename_i a b
    cases hb
    rw [hv.bool, hw.bool]
    refine .inr ⟨a, b, rfl, rfl, ?_⟩
    have e : decide (a = b) = (a == b) := by cases a <;> cases b <;> rfl
    rw [e]
    exact Stp.val R (.bl _) hQ
  · cases hb
/-! ### items -/
theorem atI_dvs {G : Hp} {xs : List V} {l : List D} {i : Int} {d : D} (t : DVs Θ G xs l) (h : atI l i = some d) : ∃ v, atI xs i = some v ∧ DV Θ G v d := by
  unfold atI at h ⊢
  rw [t.len]
  cases e : ixN l.length i with
  | none => rw [e] at h; cases h
  | some j =>
    rw [e] at h
    obtain ⟨v, h1, h2⟩ := t.get (show l[j]? = some d from h)
    exact ⟨v, h1, h2⟩
def rIxDct (Θ : Th) : R2 := fun x y H Q => ∃ G d kvs z, Same G H ∧ Rdb Θ G H x (.dict kvs) ∧ DV Θ G y d ∧ keysOk kvs d = true ∧ findK d kvs = some z ∧ ∀ v, DV Θ G v z → Q v H
def rIxAll (Θ : Th) : R2 := fun x y H Q => (rIxL Θ.K x y H Q ∨ rIxT Θ.K x y H Q) ∨ rIxDct Θ x y H Q
theorem vr_ix : VR2 Θ .frozen appIdx (rIxAll Θ) := by
  intro G H T ŝ σ v w d e z Q R hv hw hz hQ
  unfold appIdx at hz
  split at hz
  · obtain ⟨a, xs, rfl, q1, q2, t⟩ := hv.tuple R.sub
    rw [hw.int]
    obtain ⟨u, hu, dv⟩ := atI_dvs t hz
    exact .inl (.inr ⟨a, xs, _, u, rfl, rfl, q2, hu, Stp.val R dv hQ⟩)
  · obtain ⟨a, xs, rfl, q1, t⟩ := hv.list R.sub
    rw [hw.int]
    obtain ⟨u, hu, dv⟩ := atI_dvs t hz
    exact .inl (.inl ⟨a, xs, _, u, rfl, rfl, .of q1, hu, Stp.val R dv hQ⟩)
  · split at hz
    · rename_i h1
      exact .inr ⟨G, _, _, _, R.sub, hv, hw.key h1, h1, hz, fun u dv => Stp.val R dv hQ⟩
    · cases hz
  · cases hz
/-! ### built-in functions of one value -/
def rLenDct (Θ : Th) : V → Hp → VK → Prop := fun x H Q => ∃ G kvs, Same G H ∧ Rdb Θ G H x (.dict kvs) ∧ (kvs.all fun p => keyOk p.1) = true ∧ Q (.int kvs.length) H
def rLenAll (Θ : Th) : List V → Hp → VK → Prop := fun xs H Q => (∃ p ys, xs = [.ref p] ∧ (SqL Θ.K H p ys ∨ SqT Θ.K H p ys) ∧ Q (.int ys.length) H) ∨ ∃ x, xs = [x] ∧ rLenDct Θ x H Q
theorem vr_len : VR1 Θ .frozen lenD (fun v H Q => rLenAll Θ [v] H Q) := by
  intro G H T ŝ σ v d z Q R hv hz hQ
  unfold lenD at hz
  split at hz
  · cases hz
    obtain ⟨a, xs, rfl, q1, q2, t⟩ := hv.tuple R.sub
    refine .inl ⟨a, xs, rfl, .inr q2, ?_⟩
    rw [t.len]
    exact Stp.val R (.int _) hQ
  · cases hz
    obtain ⟨a, xs, rfl, q1, t⟩ := hv.list R.sub
    refine .inl ⟨a, xs, rfl, .inl (.of q1), ?_⟩
    rw [t.len]
    exact Stp.val R (.int _) hQ
  · split at hz
    · rename_i h1
      cases hz
      exact .inr ⟨v, rfl, G, _, R.sub, hv, h1, Stp.val R (.int _) hQ⟩
    · cases hz
  · cases hz
theorem vr_abs : VR1 Θ .frozen absD (fun v H Q => ∃ i, [v] = [V.int i] ∧ Q (.int (if i < 0 then -i else i)) H) := by
  intro G H T ŝ σ v d z Q R hv hz hQ
  unfold absD at hz
  split at hz
  · cases hz
    rw [hv.int]
    exact ⟨_, rfl, Stp.val R (.int _) hQ⟩
  · cases hz
theorem vr_int : VR1 Θ .frozen intD (fun v H Q => (∃ i, [v] = [V.int i] ∧ Q (.int i) H) ∨ ∃ k, [v] = [V.bl k] ∧ Q (.int (if k then 1 else 0)) H) := by
  intro G H T ŝ σ v d z Q R hv hz hQ
  unfold intD at hz
  split at hz
  · cases hz
    rw [hv.int]
    exact .inl ⟨_, rfl, Stp.val R (.int _) hQ⟩
  · cases hz
    rw [hv.bool]
    exact .inr ⟨_, rfl, Stp.val R (.int _) hQ⟩
  · cases hz
theorem intsD_some : ∀ {l : List D} {ns : List Int}, intsD l = some ns → l = ns.map .int
  | [], ns, h => by cases h; rfl
  | .int i :: r, ns, h => by
    unfold intsD at h
    obtain ⟨m, hm, rfl⟩ := Option.map_eq_some_iff.mp h
    rw [intsD_some hm]; rfl
  | .none :: r, ns, h => by cases h
  | .bool _ :: r, ns, h => by cases h
  | .str _ :: r, ns, h => by cases h
  | .list _ :: r, ns, h => by cases h
  | .tuple _ :: r, ns, h => by cases h
  | .dict _ :: r, ns, h => by cases h
theorem boolsD_some : ∀ {l : List D} {ns : List Bool}, boolsD l = some ns → l = ns.map .bool
  | [], ns, h => by cases h; rfl
  | .bool i :: r, ns, h => by
    unfold boolsD at h
    obtain ⟨m, hm, rfl⟩ := Option.map_eq_some_iff.mp h
    rw [boolsD_some hm]; rfl
  | .none :: r, ns, h => by cases h
  | .int _ :: r, ns, h => by cases h
  | .str _ :: r, ns, h => by cases h
  | .list _ :: r, ns, h => by cases h
  | .tuple _ :: r, ns, h => by cases h
  | .dict _ :: r, ns, h => by cases h
theorem DVs.intsV {G : Hp} : ∀ {ns : List Int} {xs : List V}, DVs Θ G xs (ns.map PyData.int) → xs = ns.map V.int
  | [], _, h => by cases h; rfl
  | n :: ns, _, h => by
    cases h with
    | cons h t => cases h; rw [DVs.intsV t]; rfl
theorem DVs.boolsV {G : Hp} : ∀ {ns : List Bool} {xs : List V}, DVs Θ G xs (ns.map PyData.bool) → xs = ns.map V.bl
  | [], _, h => by cases h; rfl
  | n :: ns, _, h => by
    cases h with
    | cons h t => cases h; rw [DVs.boolsV t]; rfl
theorem vr_sum : VR1 Θ .frozen sumD (fun v H Q => rSum Θ.K [v] H Q ∨ rSumT Θ.K [v] H Q) := by
  intro G H T ŝ σ v d z Q R hv hz hQ
  unfold sumD at hz
  split at hz
  · obtain ⟨ns, hn, rfl⟩ := Option.map_eq_some_iff.mp hz
    rw [intsD_some hn] at hv
    obtain ⟨a, xs, rfl, q1, t⟩ := hv.list R.sub
    rw [t.intsV] at q1
    exact .inl ⟨a, ns, rfl, .of q1, Stp.val R (.int _) hQ⟩
  · obtain ⟨ns, hn, rfl⟩ := Option.map_eq_some_iff.mp hz
    rw [intsD_some hn] at hv
    obtain ⟨a, xs, rfl, _, q1, t⟩ := hv.tuple R.sub
    rw [t.intsV] at q1
    exact .inr ⟨a, ns, rfl, q1, Stp.val R (.int _) hQ⟩
  · cases hz
theorem vr_all : VR1 Θ .frozen allD (fun v H Q => rAll Θ.K [v] H Q) := by
  intro G H T ŝ σ v d z Q R hv hz hQ
  unfold allD at hz
  split at hz
  · obtain ⟨ns, hn, rfl⟩ := Option.map_eq_some_iff.mp hz
    rw [boolsD_some hn] at hv
    obtain ⟨a, xs, rfl, q1, t⟩ := hv.list R.sub
    rw [t.boolsV] at q1
    exact ⟨a, ns, rfl, .of q1, Stp.val R (.bl _) hQ⟩
  · cases hz
theorem vr_any : VR1 Θ .frozen anyD (fun v H Q => rAny Θ.K [v] H Q) := by
  intro G H T ŝ σ v d z Q R hv hz hQ
  unfold anyD at hz
  split at hz
  · obtain ⟨ns, hn, rfl⟩ := Option.map_eq_some_iff.mp hz
    rw [boolsD_some hn] at hv
    obtain ⟨a, xs, rfl, q1, t⟩ := hv.list R.sub
    rw [t.boolsV] at q1
    exact ⟨a, ns, rfl, .of q1, Stp.val R (.bl _) hQ⟩
  · cases hz
/-! ### isinstance -/
def tyN : Ty → String
  | .int => "int"
  | .bool => "bool"
  | .tuple => "tuple"
  | .list => "list"
  | .str => "str"
theorem sqT_ty {G : Hp} {a : Addr} {xs : List V} (h : SqT Θ.K G a xs) : TyX Θ.K G (.ref a) (.type "tuple") := by
  rcases h with (h | ⟨o, h⟩) | ⟨o, its, n, h, c, _⟩
  · exact .base (.tup h)
  · exact .fTuple h
  · exact .kTuple h c
def tyB (a b : String) : Bool := decide (kitB a b = some true)
theorem vr_isi (t : Ty) : VR1 Θ .frozen (fun d => (isTy t d).map .bool) (fun v H Q => rIsi Θ.K [v, .ty (tyN t)] H Q) := by
  intro G H T ŝ σ v d z Q R hv hz hQ
  obtain ⟨b, hb, rfl⟩ := Option.map_eq_some_iff.mp hz
  have fin : ∀ (a : String), TyX Θ.K H v (.type a) → kitB a (tyN t) = some b → rIsi Θ.K [v, .ty (tyN t)] H Q := fun a h1 h2 => ⟨v, .ty (tyN t), .type a, .type (tyN t), b, rfl, .ty _, h1, kit_ty h2, Stp.val R (.bl _) hQ⟩
  cases d with
  | none =>
    have e := hv.none
    subst e
    refine fin "NoneType" (.base .non) ?_
    cases t <;> (cases hb; decide +kernel)
  | bool k =>
    have e := hv.bool
    subst e
    refine fin "bool" (.base (.bl _)) ?_
    cases t <;> (cases hb; decide +kernel)
  | int k =>
    have e := hv.int
    subst e
    refine fin "int" (.base (.int _)) ?_
    cases t <;> (cases hb; decide +kernel)
  | str k =>
    have e := hv.str
    subst e
    refine fin "str" (.base (.str _)) ?_
    cases t <;> (cases hb; decide +kernel)
  | tuple l =>
    obtain ⟨a, xs, rfl, _, q1, _⟩ := hv.tuple R.sub
    refine fin "tuple" (sqT_ty q1) ?_
    cases t <;> (cases hb; decide +kernel)
  | list l =>
    obtain ⟨a, xs, rfl, q1, _⟩ := hv.list R.sub
    refine fin "list" (.base (.lst q1)) ?_
    cases t <;> (cases hb; decide +kernel)
  | dict l => cases t <;> cases hb
/-! ### slices -/
theorem cutA_dvs {G : Hp} {xs : List V} {l : List D} (t : DVs Θ G xs l) (lo hi : Option Int) : DVs Θ G (cutV xs lo hi) (cutA l lo hi) := by
  unfold cutV cutA
  rw [t.len]
  exact (t.drop _).take _
theorem cutA_whole {α : Type} {l : List α} {lo hi : Option Int} (h : HT.sIx l.length 0 lo = 0 ∧ HT.sIx l.length l.length hi = l.length) : cutA l lo hi = l := by
  unfold cutA
  rw [h.1, h.2]
  simp
theorem vr_sliT {G H : Hp} {T : List (Addr × D)} {ŝ : FS} {σ : L2.St} {v : V} {l : List D} {lo hi : Option Int} {Q : VK} (R : Rep Θ G T ŝ σ H) (hv : Rdb Θ G H v (.tuple l))
    (hQ : ∀ u H' G' T', Stp Θ σ ŝ H G ŝ H' G' T' → RK Θ .frozen G' H T T' ŝ σ u (.tuple (cutA l lo hi)) → Q u H') : rSlA Θ.K v lo hi H Q := by
  obtain ⟨a, xs, rfl, q1, q2, t⟩ := hv.tuple R.sub
  refine ⟨a, xs, rfl, q2, fun h => ?_, fun _ p hp => ?_⟩
  · rw [t.len] at h
    rw [cutA_whole h] at hQ
    exact Stp.val R (.tup q1 t) hQ
  · obtain ⟨s, dv⟩ := Stp.tup R hp (cutA_dvs t lo hi)
    exact hQ _ _ _ T s ⟨rfl, dv⟩
theorem vr_sliL {G H : Hp} {T : List (Addr × D)} {ŝ : FS} {σ : L2.St} {v : V} {l : List D} {lo hi : Option Int} {Q : VK} (R : Rep Θ G T ŝ σ H) (hv : Rdb Θ G H v (.list l))
    (hQ : ∀ u H' G' T', Stp Θ σ ŝ H G ŝ H' G' T' → RK Θ .fresh G' H T T' ŝ σ u (.list (cutA l lo hi)) → Q u H') : rSlL Θ.K v lo hi H Q := by
  obtain ⟨a, xs, rfl, q1, t⟩ := hv.list R.sub
  refine ⟨a, xs, rfl, .of q1, fun p hp => ?_⟩
  exact hQ _ _ _ _ (Stp.made R hp (cutA_dvs t lo hi)) ⟨p, rfl, rfl, hp⟩
end
end Fw

set_option Elab.async false
set_option linter.all false
set_option maxRecDepth 100000
set_option maxHeartbeats 4000000
namespace Fw
open PySem PySem.Spec L2

/-! ### dicts -/
section
variable {Θ : Th} {G H : Hp} {a : Addr} {o : Obj} {kxs xs : List V} {ks : List D}
theorem EntT.empty {o : Obj} (h : EntI Θ o []) : EntT Θ o [] := by
  obtain ⟨ex, ⟨es, ep, hd, hk, hp⟩, nd⟩ := h
  refine ⟨ex, ⟨es, ep, hd, ?_⟩, List.nodup_nil⟩
  generalize es.toList = l at hp
  cases hp
  rfl
theorem EntI.empty {o : Obj} (h : EntT Θ o []) : EntI Θ o [] := by
  obtain ⟨ex, ⟨es, ep, hd, hl⟩, nd⟩ := h
  have he : es = #[] := by
    have : es.toList = [] := hl
    simpa using this
  subst he
  exact ⟨ex, ⟨#[], ep, hd, fun e he => by simp at he, .nil⟩, List.nodup_nil⟩
/-- all keys ints -/
theorem EntOk.toI (h : EntOk Θ a o kxs xs ks) (hk : (ks.all intK) = true) : (a == sysModules) = false ∧ ∃ (kvs : List (Int × V)) (vs : List (Int × Value)), kvs.length ≤ sizeLine ∧ EntI Θ o vs ∧ KV kvs vs ∧ kxs = kvs.map (fun p => V.int p.1) ∧ xs = kvs.map (·.2) ∧ ks = kvs.map fun p => PyData.int p.1 := by
  cases h with
  | int h1 h2 h3 h4 => exact ⟨h1, _, _, h2, h3, h4, rfl, rfl, rfl⟩
  | @tup zs _ _ h1 h2 h3 h4 h5 h6 =>
    cases ks with
    | nil =>
      cases zs with
      | nil => cases h4; exact ⟨h1, [], [], Nat.zero_le _, EntI.empty h3, .nil, rfl, rfl, rfl⟩
      | cons z zs => cases h5
    | cons k ks =>
      simp only [List.all_cons, Bool.and_eq_true] at hk h6
      cases k <;> simp [intK, keyT, tupK] at hk h6
theorem EntOk.toT (h : EntOk Θ a o kxs xs ks) (hk : (ks.all keyT) = true) : (a == sysModules) = false ∧ ∃ (zs : List (NestedKey × Addr × Value)), zs.length ≤ sizeLine ∧ EntT Θ o zs ∧ kxs = zs.map (fun z => V.ref z.2.1) ∧ Vals xs (zs.map (·.2.2)) ∧ ks.map nk = zs.map (·.1) := by
  cases h with
  | @int kvs vs h1 h2 h3 h4 =>
    cases kvs with
    | nil => cases h4; exact ⟨h1, [], Nat.zero_le _, EntT.empty h3, rfl, .nil, rfl⟩
    | cons p r => simp [keyT, tupK] at hk
  | tup h1 h2 h3 h4 h5 h6 => exact ⟨h1, _, h2, h3, rfl, h4, h5⟩
theorem eqD_int (i j : Int) : eqD (.int i) (.int j) = decide (i = j) := by
  unfold eqD
  simp only [PyData.eqv]
  by_cases h : i = j <;> simp [h]
mutual
theorem eqD_tup : ∀ a b : D, tupK0 a = true → tupK0 b = true → (eqD a b = decide (nk a = nk b)) := by
  intro a b ha hb
  match a, b, ha, hb with
  | .int i, .int j, _, _ => rw [eqD_int]; simp [nk]
  | .int i, .tuple l, _, _ => simp [eqD, PyData.eqv, nk]
  | .tuple l, .int i, _, _ => simp [eqD, PyData.eqv, nk]
  | .tuple l, .tuple m, ha, hb =>
    have h := eqD_tups l m (by simpa [tupK0] using ha) (by simpa [tupK0] using hb)
    unfold eqD
    simp only [PyData.eqv, nk]
    rw [h]
    simp
theorem eqD_tups : ∀ a b : List D, tupKs a = true → tupKs b = true → (PyData.eqvAll a b = decide (nks a = nks b)) := by
  intro a b ha hb
  match a, b, ha, hb with
  | [], [], _, _ => simp [PyData.eqvAll]
  | [], _ :: _, _, _ => simp [PyData.eqvAll, nks]
  | _ :: _, [], _, _ => simp [PyData.eqvAll, nks]
  | x :: l, y :: m, ha, hb =>
    simp only [tupKs, Bool.and_eq_true] at ha hb
    have h1 := eqD_tup x y ha.1 hb.1
    have h2 := eqD_tups l m ha.2 hb.2
    unfold eqD at h1
    simp only [PyData.eqvAll, nks]
    rw [h1, h2]
    by_cases e1 : nk x = nk y <;> by_cases e2 : nks l = nks m <;> simp [e1, e2]
end
theorem keyT_0 {d : D} (h : keyT d = true) : tupK0 d = true ∧ (nk d).depth ≤ 8 ∧ ∃ l, d = .tuple l := by
  unfold keyT at h
  rw [Bool.and_eq_true, decide_eq_true_eq] at h
  obtain ⟨h1, h2⟩ := h
  cases d <;> simp [tupK] at h1
  exact ⟨by simpa [tupK0] using h1, h2, _, rfl⟩
theorem find_int {i : Int} : ∀ {kvsD : List (D × D)} {kvs : List (Int × V)}, kvsD.map (·.1) = kvs.map (fun p => PyData.int p.1) → DVs Θ G (kvs.map (·.2)) (kvsD.map (·.2)) →
    match findK (.int i) kvsD with
    | none => valV kvs i = none
    | some z => ∃ v, valV kvs i = some v ∧ DV Θ G v z
  | [], [], _, _ => rfl
  | [], _ :: _, h, _ => by cases h
  | _ :: _, [], h, _ => by cases h
  | (k, z) :: r, (j, v) :: q, h, t => by
    simp only [List.map_cons, List.cons.injEq] at h
    obtain ⟨rfl, h⟩ := h
    simp only [List.map_cons] at t
    cases t with
    | cons t1 t2 =>
      have ih := find_int (i := i) h t2
      unfold findK
      rw [eqD_int]
      by_cases e : j = i
      · rw [if_pos (decide_eq_true e)]
        exact ⟨v, valV_pos e, t1⟩
      · rw [if_neg (by simpa using e), valV_neg (p := (j, v)) e]
        exact ih
theorem find_tup {d : D} (hd : keyT d = true) : ∀ {kvsD : List (D × D)} {zs : List (NestedKey × Addr × Value)} {xs : List V}, (kvsD.map (·.1)).map nk = zs.map (·.1) → (kvsD.all fun p => keyT p.1) = true → Vals xs (zs.map (·.2.2)) → DVs Θ G xs (kvsD.map (·.2)) →
    match findK d kvsD with
    | none => atKey zs (nk d) = none
    | some z => ∃ p v, atKey zs (nk d) = some p ∧ RelV v p.2 ∧ DV Θ G v z
  | [], [], _, _, _, _, _ => rfl
  | [], _ :: _, _, h, _, _, _ => by cases h
  | _ :: _, [], _, h, _, _, _ => by cases h
  | (k, z) :: r, (j, b, u) :: q, xs, h, hk, rv, t => by
    simp only [List.map_cons, List.cons.injEq] at h
    obtain ⟨rfl, h⟩ := h
    simp only [List.map_cons] at t rv
    simp only [List.all_cons, Bool.and_eq_true] at hk
    cases t with
    | cons t1 t2 =>
      cases rv with
      | cons r1 r2 =>
        have ih := find_tup hd h hk.2 r2 t2
        unfold findK
        rw [eqD_tup k d (keyT_0 hk.1).1 (keyT_0 hd).1]
        by_cases e : nk k = nk d
        · rw [if_pos (decide_eq_true e)]
          exact ⟨(b, u), _, by simp [atKey, List.find?_cons, e], r1, t1⟩
        · rw [if_neg (by simpa using e)]
          have e2 : atKey ((nk k, b, u) :: q) (nk d) = atKey q (nk d) := by simp [atKey, List.find?_cons, e]
          rw [e2]
          exact ih
end

section
variable {X : Cx} {pins : List (Addr × Obj)} {σ : L2.St} {G H : Hp} {s : Shared} {a : Addr} {o : Obj}
theorem dO_get (I : L2.Inv X pins σ H s) (h : H a = some (dO a o)) : s.heap.get? a = some o := (I.hok a _ h).1
mutual
theorem DV.nested (I : L2.Inv X pins σ H s) (sub : Same G H) : ∀ (d : D) {v : V} {u : Value}, DV (thOf X) G v d → tupK0 d = true → RelV v u → NestedIs s.heap (nk d) u
  | .int i, v, u, h, _, r => by
    cases h
    obtain ⟨t, rfl⟩ := r
    exact .int i t
  | .tuple l, v, u, h, hk, r => by
    cases h with
    | tup hq t =>
      cases r
      obtain ⟨its, rv, ⟨ob, ho, hc, n, hd⟩, _⟩ := I.tuple (sqT_same sub hq)
      exact .tup ho hc hd (DVs.nested I sub l t (by simpa [tupK0] using hk) (by simpa using rv))
  | .none, _, _, _, hk, _ => by simp [tupK0] at hk
  | .bool _, _, _, _, hk, _ => by simp [tupK0] at hk
  | .str _, _, _, _, hk, _ => by simp [tupK0] at hk
  | .list _, _, _, _, hk, _ => by simp [tupK0] at hk
  | .dict _, _, _, _, hk, _ => by simp [tupK0] at hk
theorem DVs.nested (I : L2.Inv X pins σ H s) (sub : Same G H) : ∀ (ds : List D) {vs : List V} {us : List Value}, DVs (thOf X) G vs ds → tupKs ds = true → Vals vs us → NestedAll s.heap (nks ds) us
  | [], _, _, h, _, r => by cases h; cases r; exact .nil
  | d :: ds, _, _, h, hk, r => by
    simp only [tupKs, Bool.and_eq_true] at hk
    cases h with
    | cons h1 h2 =>
      cases r with
      | cons r1 r2 => exact .cons (DV.nested I sub d h1 hk.1 r1) (DVs.nested I sub ds h2 hk.2 r2)
end
/-- the keys' tuples as they stand -/
theorem keys_is (I : L2.Inv X pins σ H s) (sub : Same G H) : ∀ {ks : List D} {zs : List (NestedKey × Addr × Value)}, DVs (thOf X) G (zs.map fun z => V.ref z.2.1) ks → ks.map nk = zs.map (·.1) → (ks.all keyT) = true → ∀ x ∈ zs, (nestedKind X.prog X.w).is s.heap x.1 x.2.1
  | [], [], _, _, _ => fun x hx => by cases hx
  | [], _ :: _, h, _, _ => by cases h
  | _ :: _, [], h, _, _ => by cases h
  | k :: ks, z :: zs, h, e, hk => by
    simp only [List.map_cons, List.cons.injEq] at e
    simp only [List.map_cons] at h
    simp only [List.all_cons, Bool.and_eq_true] at hk
    cases h with
    | cons h1 h2 =>
      intro x hx
      rcases List.mem_cons.mp hx with rfl | hx
      · obtain ⟨k0, kd, _⟩ := keyT_0 hk.1
        rw [← e.1]
        exact ⟨DV.nested I sub k h1 k0 rfl, kd⟩
      · exact keys_is I sub h2 e.2 hk.2 x hx
theorem EntI.at {vs : List (Int × Value)} (I : L2.Inv X pins σ H s) (h : H a = some (dO a o)) (e : EntI (thOf X) o vs) : s.heap.DictOf (intKind X.prog X.w) a vs := by
  obtain ⟨ex, ⟨es, ep, hd, hk, hp⟩, nd⟩ := e
  exact ⟨o, es, ep, dO_get I h, ex, hd, hk, hp, nd⟩
theorem EntT.at {zs : List (NestedKey × Addr × Value)} (I : L2.Inv X pins σ H s) (h : H a = some (dO a o)) (e : EntT (thOf X) o zs) (his : ∀ x ∈ zs, (nestedKind X.prog X.w).is s.heap x.1 x.2.1) : s.heap.DictOfH (nestedKind X.prog X.w) a zs := by
  obtain ⟨ex, ⟨es, ep, hd, hl⟩, nd⟩ := e
  exact ⟨o, es, ep, dO_get I h, ex, hd, hl, his, nd⟩
theorem keysOk_or {kvs : List (D × D)} {k : D} (h : keysOk kvs k = true) : (intK k = true ∧ ((kvs.map (·.1)).all intK) = true) ∨ (keyT k = true ∧ ((kvs.map (·.1)).all keyT) = true) := by
  unfold keysOk at h
  rw [Bool.or_eq_true, Bool.and_eq_true, Bool.and_eq_true] at h
  rw [List.all_map, List.all_map]
  exact h
theorem keysOk_ne {kvs : List (D × D)} {k : D} (h : keysOk kvs k = true) : ∀ p ∈ kvs, p.1 ≠ .none := by
  intro p hp e
  rcases keysOk_or h with ⟨_, h⟩ | ⟨_, h⟩
  · have q := List.all_eq_true.mp h p.1 (List.mem_map.mpr ⟨p, hp, rfl⟩)
    rw [e] at q; cases q
  · have q := List.all_eq_true.mp h p.1 (List.mem_map.mpr ⟨p, hp, rfl⟩)
    rw [e] at q; cases q
theorem intK_int {d : D} (h : intK d = true) : ∃ i, d = .int i := by
  cases d <;> simp [intK] at h
  exact ⟨_, rfl⟩
theorem room_in1 {A : Around} (hu : A.units + 65 < cLine) : (nestedKind X.prog X.w).room A.in1 := by
  show A.units + 1 + 8 < cLine
  omega
/-- a dict, and a key: what the library asks, and what is found -/
theorem dct_in (hu : X.A.units + 65 < cLine) (neg : Bool) : OpR X (compareOp (if neg then .NotIn else .In)) (Ky (thOf X) neg) := by
  intro pins s σ H x y v u Q I rx ry h
  obtain ⟨G, d, kvs, sub, dv, rd, hk, q⟩ := h
  obtain ⟨a, o, kxs, xs, rfl, ho, ent, tk, tx⟩ := rd.dict sub (keysOk_ne hk)
  cases ry
  rcases keysOk_or hk with ⟨h1, h2⟩ | ⟨h1, h2⟩
  · obtain ⟨i, rfl⟩ := intK_int h1
    obtain ⟨hs, kv, vs, hz, eI, rel, rfl, rfl, ek⟩ := ent.toI h2
    cases dv
    obtain ⟨t, rfl⟩ := rx
    have dd := eI.at I ho
    have f := find_int (i := i) ek tx
    have e : (findK (.int i) kvs).isSome = (valueAt vs i).isSome := by
      rw [← (rel.val i).isSome_eq]
      cases z : findK (.int i) kvs with
      | none => rw [z] at f; rw [show _ = none from f]; rfl
      | some z' => rw [z] at f; obtain ⟨v, f, _⟩ := f; rw [f]; rfl
    have hkey : (intKind X.prog X.w).is i (.int i t) = true := by simp [intKind, Value.isInt]
    cases neg
    · refine wpAny_in_of hkey hs dd.mapOf ?_
      rw [← e]
      exact ⟨.bl _, H, I.tok _, rfl, q⟩
    · refine wpAny_notIn_of hkey hs dd.mapOf ?_
      rw [← e]
      exact ⟨.bl _, H, I.tok _, rfl, q⟩
  · obtain ⟨hs, zs, hz, eT, rfl, rv, ek⟩ := ent.toT h2
    obtain ⟨k0, kd, l, rfl⟩ := keyT_0 h1
    have dd := eT.at I ho (keys_is I sub tk ek h2)
    have f := find_tup h1 ek (by rw [List.all_map] at h2; exact h2) rv tx
    have e : (findK (.tuple l) kvs).isSome = (atKey zs (nk (.tuple l))).isSome := by
      cases z : findK (.tuple l) kvs with
      | none => rw [z] at f; rw [show _ = none from f]; rfl
      | some z' => rw [z] at f; obtain ⟨p, v, f, _⟩ := f; rw [f]; rfl
    cases id dv with
    | tup hq t =>
      rename_i b _
      have hkey : (nestedKind X.prog X.w).is s.heap (nk (.tuple l)) b := ⟨DV.nested I sub _ dv k0 rfl, kd⟩
      cases rx
      cases neg
      · refine wpAny_in_heap (room_in1 hu) hkey hs dd ?_
        rw [← e]
        exact ⟨.bl _, H, I.tok _, rfl, q⟩
      · refine PyProof.Rows.wpAny_notIn_heap (room_in1 hu) hkey hs dd ?_
        rw [← e]
        exact ⟨.bl _, H, I.tok _, rfl, q⟩
/-- d[k] -/
theorem dct_get (hu : X.A.units + 65 < cLine) {G H : Hp} {x y : V} {v u : Value} {d z : D} {kvs : List (D × D)} {Q : Value → Shared → Prop} (I : L2.Inv X pins σ H s) (rx : RelV x v) (ry : RelV y u) (sub : Same G H)
    (rd : Rdb (thOf X) G H x (.dict kvs)) (dv : DV (thOf X) G y d) (hk : keysOk kvs d = true) (hf : findK d kvs = some z) (hQ : ∀ w v' s', L2.Inv X pins σ H s' → RelV v' w → DV (thOf X) G v' z → Q w s') :
    s.TypeIs v "dict" ∧ wpAny (model X.prog X.w) X.A (getItem v u) Q X.xe s := by
  obtain ⟨a, o, kxs, xs, rfl, ho, ent, tk, tx⟩ := rd.dict sub (keysOk_ne hk)
  cases rx
  rcases keysOk_or hk with ⟨h1, h2⟩ | ⟨h1, h2⟩
  · obtain ⟨i, rfl⟩ := intK_int h1
    obtain ⟨hs, kv, vs, hz, eI, rel, rfl, rfl, ek⟩ := ent.toI h2
    cases dv
    obtain ⟨t, rfl⟩ := ry
    have dd := eI.at I ho
    have f := find_int (i := i) ek tx
    rw [hf] at f
    obtain ⟨v', fv, dz⟩ := f
    have hkey : (intKind X.prog X.w).is i (.int i t) = true := by simp [intKind, Value.isInt]
    obtain ⟨w', hw, rw'⟩ := RelO.some_of (v := v') (o := valueAt vs i) (by rw [← fv]; exact rel.val i)
    exact ⟨dd.typeIs, wpAny_getItem_of hkey dd.mapOf hw (hQ _ _ _ (I.tok _) rw' dz)⟩
  · obtain ⟨hs, zs, hz, eT, rfl, rv, ek⟩ := ent.toT h2
    obtain ⟨k0, kd, l, rfl⟩ := keyT_0 h1
    have dd := eT.at I ho (keys_is I sub tk ek h2)
    have f := find_tup h1 ek (by rw [List.all_map] at h2; exact h2) rv tx
    rw [hf] at f
    obtain ⟨p, v', fp, rp, dz⟩ := f
    cases id dv with
    | tup hq t =>
      rename_i b _
      have hkey : (nestedKind X.prog X.w).is s.heap (nk (.tuple l)) b := ⟨DV.nested I sub _ dv k0 rfl, kd⟩
      cases ry
      exact ⟨dd.typeIs, wpAny_getItem_heap (room_in1 hu) hkey dd fp (hQ _ _ _ (I.tok _) rp dz)⟩
theorem ix_dct (hu : X.A.units + 65 < cLine) : IxR X (rIxDct (thOf X)) := by
  intro value slice pins s σ H x y v u Q I rx ry h hs
  obtain ⟨G, d, kvs, z, sub, rd, dv, hk, hf, q⟩ := h
  obtain ⟨hT, hw⟩ := dct_get hu (Q := EP X pins σ Q) I rx ry sub rd dv hk hf fun w v' s' I' r dz => ⟨v', H, I', r, q v' dz⟩
  unfold PyProof.Rows.subscriptTail
  refine wpAny_bind ?_
  rw [getitemInPython_of_ne hT.not_modules]
  refine wpAny_bind (wpAny_specialOf hT PySem.F.slot_dict_getitem.lookup ?_)
  have fin : wpAny (model X.prog X.w) X.A (subscripted slice false v u) (fun r s₃ => wpAny (model X.prog X.w) X.A (letTemporaryGo value v r >>= fun _ => pure r) (EP X pins σ Q) X.xe s₃) X.xe s := by
    rw [hs]
    exact wpAny_operating (wpAny_mono hw (fun r s₃ h₃ => wpAny_bind (wpAny_letTemporaryGo (wpAny_pure h₃))) fun _ _ x => x)
  first
    | exact wpAny_pure (wpAny_bind fin)
    | exact wpAny_bind (wpAny_pure (wpAny_bind fin))
    | exact wpAny_bind fin
/-- len(d) -/
theorem len_dct : CallR X (.builtin "len") (fun xs H Q => ∃ x, xs = [x] ∧ rLenDct (thOf X) x H Q) := by
  intro pins s σ H xs us Q I r h
  obtain ⟨x, rfl, G, kvs, sub, rd, hk, q⟩ := h
  obtain ⟨u, rfl, rx⟩ := vals1 r
  have hne : ∀ p ∈ kvs, p.1 ≠ .none := fun p hp e => by
    have z := List.all_eq_true.mp hk p hp
    rw [e] at z; cases z
  obtain ⟨a, o, kxs, xs, rfl, ho, ent, tk, tx⟩ := rd.dict sub hne
  cases rx
  have line := line63
  generalize eks : kvs.map (·.1) = ks at ent tk
  have hl : kvs.length = ks.length := by rw [← eks, List.length_map]
  cases ent with
  | @int kv vs h1 h2 h3 h4 =>
    have dd := EntI.at I ho h3
    rw [List.length_map] at hl
    have hl2 := h4.length
    refine call_len_dict h1 dd (by omega) ?_
    rw [← hl2, ← hl]
    exact ⟨.int _, H, I.tok _, ⟨_, rfl⟩, q⟩
  | @tup zs _ _ h1 h2 h3 h4 h5 h6 =>
    have dd := EntT.at I ho h3 (keys_is I sub tk h5 h6)
    have hl2 : ks.length = zs.length := by
      have := congrArg List.length h5
      simpa using this
    have hm : s.heap.DictKeyed (nestedKind X.prog X.w) a (pairsH zs) := ⟨zs, dd, rfl⟩
    refine PyProof.Rows.call_len_slot (n := (pairsH zs).length) hm.typeIs PySem.F.slot_dict_len (fun Q' hq => len_keyed h1 hm hq) (by omega) (by rw [pairsH_length]; omega) ?_
    rw [pairsH_length, ← hl2, ← hl]
    exact ⟨.int _, H, I.tok _, ⟨_, rfl⟩, q⟩
/-- {} -/
theorem pe_emp {pos : Pos} : PE X (.Dict [] [] pos) (fun _ H Q => ∀ p o, H p = none → EntOk (thOf X) p o [] [] [] → Q (.ref p) (upd H p (dO p o))) := ⟨fun pins s σ H Q I h => by
  refine wpAny_Dict_empty ⟨.ref s.heap.objs.size, _, I.laid (a := s.heap.objs.size) (o := dO s.heap.objs.size { cls := .type "dict", data := .dict #[] }) (t' := s.toks) (fun _ _ q => Heap.get?_push_of_some _ q) (Nat.le_refl _) ?_, rfl, h _ _ (I.hok.fresh (Nat.le_refl _)) ?_⟩
  · exact ⟨Heap.get?_push_size _ rfl, ⟨_, Heap.get?_push_size _ rfl⟩, fun h1 h2 e k => k _ e⟩
  · exact EntOk.int (kvs := []) (vs := []) (beq_eq_false_iff_ne.mpr (Ne.symm (Nat.ne_of_lt I.big))) (Nat.zero_le _) ⟨⟨rfl, rfl, rfl⟩, ⟨#[], 0, rfl, fun e he => by simp at he, .nil⟩, List.nodup_nil⟩ .nil⟩
/-- d[k] = v -/
def rSetDct (Θ : Th) : TSet := fun ov i v H Q => ∃ (G : Hp) (a : Addr) (ob : Obj) (kxs xs : List V) (kvs : List (D × D)) (d z : D), ov = .ref a ∧ H a = some (dO a ob) ∧ G a = none ∧ Same G H ∧ EntOk Θ a ob kxs xs (kvs.map (·.1)) ∧ DVs Θ G kxs (kvs.map (·.1)) ∧ DVs Θ G xs (kvs.map (·.2)) ∧
  DV Θ G i d ∧ DV Θ G v z ∧ keysOk kvs d = true ∧ kvs.length < sizeLine ∧ ∀ ob' kxs' xs', EntOk Θ a ob' kxs' xs' ((putK d z kvs).map (·.1)) → DVs Θ G kxs' ((putK d z kvs).map (·.1)) → DVs Θ G xs' ((putK d z kvs).map (·.2)) → Q (upd H a (dO a ob'))
theorem putK_keys {d z : D} {kvs : List (D × D)} : (putK d z kvs).map (·.1) = if (findK d kvs).isSome = true then kvs.map (·.1) else kvs.map (·.1) ++ [d] := by
  unfold putK
  split
  · rw [List.map_map]
    refine List.map_congr_left fun p _ => ?_
    show (if eqD p.1 d = true then (p.1, z) else p).1 = p.1
    split <;> rfl
  · rw [List.map_append]; rfl
theorem putK_len {d z : D} {kvs : List (D × D)} : (putK d z kvs).length ≤ kvs.length + 1 := by
  unfold putK
  split
  · rw [List.length_map]; omega
  · rw [List.length_append]; exact Nat.le_refl _
theorem dvs_put_int {Θ : Th} {G : Hp} {i : Int} {z : D} {v : V} (dz : DV Θ G v z) : ∀ {kvsD : List (D × D)} {kvs : List (Int × V)}, kvsD.map (·.1) = kvs.map (fun p => PyData.int p.1) → DVs Θ G (kvs.map (·.2)) (kvsD.map (·.2)) →
    DVs Θ G ((kvs.map fun p => if p.1 = i then (p.1, v) else p).map (·.2)) ((kvsD.map fun p => if eqD p.1 (.int i) = true then (p.1, z) else p).map (·.2))
  | [], [], _, _ => .nil
  | [], _ :: _, h, _ => by cases h
  | _ :: _, [], h, _ => by cases h
  | (k, w) :: r, (j, u) :: q, h, t => by
    simp only [List.map_cons, List.cons.injEq] at h t ⊢
    obtain ⟨rfl, h⟩ := h
    cases t with
    | cons t1 t2 =>
      refine .cons ?_ (dvs_put_int dz h t2)
      rw [eqD_int]
      by_cases e : j = i
      · rw [if_pos e, if_pos (decide_eq_true e)]; exact dz
      · rw [if_neg e, if_neg (by simpa using e)]; exact t1
theorem dvs_put_tup {Θ : Th} {G : Hp} {d z : D} {v : V} {w : Value} (hd : keyT d = true) (dz : DV Θ G v z) (rv : RelV v w) : ∀ {kvsD : List (D × D)} {zs : List (NestedKey × Addr × Value)} {xs : List V}, (kvsD.map (·.1)).map nk = zs.map (·.1) → (kvsD.all fun p => keyT p.1) = true → Vals xs (zs.map (·.2.2)) → DVs Θ G xs (kvsD.map (·.2)) →
    ∃ xs', Vals xs' ((zs.map (putAt (nk d) w)).map (·.2.2)) ∧ DVs Θ G xs' ((kvsD.map fun p => if eqD p.1 d = true then (p.1, z) else p).map (·.2))
  | [], [], _, _, _, _, _ => ⟨[], .nil, .nil⟩
  | [], _ :: _, _, h, _, _, _ => by cases h
  | _ :: _, [], _, h, _, _, _ => by cases h
  | (k, y) :: r, (j, b, u) :: q, xs, h, hk, rv', t => by
    simp only [List.map_cons, List.cons.injEq] at h t rv' ⊢
    obtain ⟨rfl, h⟩ := h
    simp only [List.all_cons, Bool.and_eq_true] at hk
    cases t with
    | cons t1 t2 =>
      cases rv' with
      | cons r1 r2 =>
        obtain ⟨xs', q1, q2⟩ := dvs_put_tup hd dz rv h hk.2 r2 t2
        rw [eqD_tup k d (keyT_0 hk.1).1 (keyT_0 hd).1]
        by_cases e : nk k = nk d
        · refine ⟨v :: xs', .cons ?_ q1, .cons ?_ q2⟩
          · simp only [putAt, e, if_true]; exact rv
          · rw [if_pos (decide_eq_true e)]; exact dz
        · rename_i x0 xs0
          refine ⟨x0 :: xs', .cons ?_ q1, .cons ?_ q2⟩
          · simp only [putAt, e, if_false]; exact r1
          · rw [if_neg (by simpa using e)]; exact t1
theorem set_dct (hu : X.A.units + 65 < cLine) : PSet X (rSetDct (thOf X)) := by
  intro pins s σ H ov i v ovv iv u Q I ro ri rv h
  obtain ⟨G, a, ob, kxs, xs, kvs, d, z, rfl, ho, gn, sub, ent, tk, tx, dv, dz, hk, hl, q⟩ := h
  cases ro
  have obj : ∀ {h' : Heap} {ob' : Obj}, h'.get? a = some ob' → ObjOk X.prog X.w (upd H a (dO a ob')) h' a (dO a ob') := fun e => ⟨e, ⟨_, e⟩, fun h1 h2 e1 k => k _ e1⟩
  have mu : Mut (H a) := by rw [ho]; exact True.intro
  rcases keysOk_or hk with ⟨h1, h2⟩ | ⟨h1, h2⟩
  · obtain ⟨j, rfl⟩ := intK_int h1
    obtain ⟨hs, kv, vs, hz, eI, rel, rfl, rfl, ek⟩ := ent.toI h2
    cases dv
    obtain ⟨t, rfl⟩ := ri
    have dd := eI.at I ho
    have hkey : (intKind X.prog X.w).is j (.int j t) = true := by simp [intKind, Value.isInt]
    have hlen : kvs.length = kv.length := by
      have := congrArg List.length ek
      simpa using this
    refine wpAny_setItem_pairs (hsz := by rw [← rel.length]; exact hz) hkey dd fun h' dd' hsb => ?_
    obtain ⟨ob', es, ep, e1, e2, e3, e4, e5, e6⟩ := dd'
    have rel' := rel.put j rv
    have f := find_int (i := j) ek tx
    have fe : (findK (.int j) kvs).isSome = (kv.any fun p => decide (p.1 = j)) := by
      rw [valV_any]
      cases zz : findK (.int j) kvs with
      | none => rw [zz] at f; rw [show _ = none from f]; rfl
      | some z' => rw [zz] at f; obtain ⟨v, f, _⟩ := f; rw [f]; rfl
    have hl' : (L2.putK kv j v).length ≤ sizeLine := by have := length_putK kv j v; omega
    have kk : (Fw.putK (.int j) z kvs).map (·.1) = (L2.putK kv j v).map fun p => PyData.int p.1 := by
      rw [putK_keys, fe]
      unfold L2.putK
      split
      · rw [ek, List.map_map]
        refine List.map_congr_left fun p _ => ?_
        show PyData.int p.1 = PyData.int (if p.1 = j then (p.1, v) else p).1
        split <;> rfl
      · rw [ek, List.map_append]; rfl
    have tv : DVs (thOf X) G ((L2.putK kv j v).map (·.2)) ((Fw.putK (.int j) z kvs).map (·.2)) := by
      unfold L2.putK Fw.putK
      rw [fe]
      split
      · exact dvs_put_int dz ek tx
      · rw [List.map_append, List.map_append]
        exact tx.append (.cons dz .nil)
    refine ⟨_, d_write (t' := s.toks + 1) I mu hsb ⟨_, e1⟩ (obj e1), q ob' _ _ (by rw [kk]; exact EntOk.int hs hl' ⟨e2, ⟨es, ep, e3, e4, e5⟩, e6⟩ rel') ?_ tv⟩
    rw [kk]
    have := DVs.ints (Θ := thOf X) (G := G) ((L2.putK kv j v).map (·.1))
    simpa [List.map_map, Function.comp_def] using this
  · obtain ⟨hs, zs, hz, eT, rfl, rvs, ek⟩ := ent.toT h2
    obtain ⟨k0, kd, l, rfl⟩ := keyT_0 h1
    have h2' : (kvs.all fun p => keyT p.1) = true := by rw [List.all_map] at h2; exact h2
    have dd := eT.at I ho (keys_is I sub tk ek h2)
    have hlen : kvs.length = zs.length := by
      have := congrArg List.length ek
      simpa using this
    cases id dv with
    | tup hq t =>
      rename_i b _
      have hkey : (nestedKind X.prog X.w).is s.heap (nk (.tuple l)) b := ⟨DV.nested I sub _ dv k0 rfl, kd⟩
      cases ri
      refine wpAny_setItem_heap (hsz := hz) (room_in1 hu) hkey dd fun h' dd' hsb => ?_
      obtain ⟨ob', es, ep, e1, e2, e3, e4, e5, e6⟩ := dd'
      have f := find_tup h1 ek h2' rvs tx
      have fe : (findK (.tuple l) kvs).isSome = (atKey zs (nk (.tuple l))).isSome := by
        cases zz : findK (.tuple l) kvs with
        | none => rw [zz] at f; rw [show _ = none from f]; rfl
        | some z' => rw [zz] at f; obtain ⟨p, v, f, _⟩ := f; rw [f]; rfl
      have hl' : (storedH zs (nk (.tuple l)) b u).length ≤ sizeLine := by
        unfold storedH
        split
        · rw [List.length_map]; exact hz
        · rw [List.length_append]; show zs.length + 1 ≤ sizeLine; omega
      have kk : ((Fw.putK (.tuple l) z kvs).map (·.1)).map nk = (storedH zs (nk (.tuple l)) b u).map (·.1) := by
        rw [putK_keys, fe]
        unfold storedH
        split
        · rw [ek, List.map_map]
          refine List.map_congr_left fun p _ => ?_
          show p.1 = (putAt _ u p).1
          unfold putAt
          split <;> rfl
        · rw [List.map_append, List.map_append, ek]; rfl
      have ka : (((Fw.putK (.tuple l) z kvs).map (·.1)).all keyT) = true := by
        rw [putK_keys]
        split
        · exact h2
        · rw [List.all_append, h2, Bool.true_and]
          simp [h1]
      have ks' : DVs (thOf X) G ((storedH zs (nk (.tuple l)) b u).map fun z => V.ref z.2.1) ((Fw.putK (.tuple l) z kvs).map (·.1)) := by
        rw [putK_keys, fe]
        unfold storedH
        split
        · rw [List.map_map]
          have e : ((fun z : NestedKey × Addr × Value => V.ref z.2.1) ∘ putAt (nk (.tuple l)) u) = fun z => V.ref z.2.1 := by
            funext p
            show V.ref (putAt _ u p).2.1 = V.ref p.2.1
            unfold putAt
            split <;> rfl
          rw [e]
          exact tk
        · rw [List.map_append]
          exact tk.append (.cons dv .nil)
      have tv : ∃ xs', Vals xs' ((storedH zs (nk (.tuple l)) b u).map (·.2.2)) ∧ DVs (thOf X) G xs' ((Fw.putK (.tuple l) z kvs).map (·.2)) := by
        unfold storedH Fw.putK
        rw [fe]
        split
        · exact dvs_put_tup h1 dz rv ek h2' rvs tx
        · refine ⟨xs ++ [v], ?_, ?_⟩
          · rw [List.map_append]; exact rvs.append (.cons rv .nil)
          · rw [List.map_append]; exact tx.append (.cons dz .nil)
      obtain ⟨xs', tv1, tv2⟩ := tv
      exact ⟨_, d_write (t' := _) I mu hsb ⟨_, e1⟩ (obj e1), q ob' _ _ (EntOk.tup hs hl' ⟨e2, ⟨es, ep, e3, e4⟩, e6⟩ tv1 kk ka) ks' tv2⟩
end
end Fw

set_option Elab.async false
set_option linter.all false
set_option maxRecDepth 100000
set_option maxHeartbeats 4000000
namespace Fw
open PySem PySem.Spec L2

def kd : IR → Kd
  | .bor i => .bor i
  | .lst _ => .fresh
  | .emp => .fresh
  | .bin .addL _ _ => .fresh
  | .bin .mulL _ _ => .fresh
  | .sliL _ _ _ => .fresh
  | .revL _ => .fresh
  | .call _ true _ => .fresh
  | .callc _ true _ _ => .fresh
  | .toL _ => .fresh
  | .rngL _ => .fresh
  | .sort _ => .fresh
  | .dct _ => .fresh
  | .lc _ _ _ _ _ => .fresh
  | .lc2 _ _ _ _ _ _ _ _ _ => .fresh
  | _ => .frozen
def isBor : IR → Bool
  | .bor _ => true
  | _ => false
def isNoneC : IR → Bool
  | .cst .none => true
  | _ => false
theorem kd_nb {a : IR} (h : isBor a = false) : ∀ i, kd a ≠ .bor i := by
  intro i
  unfold kd
  split <;> first | (intro z; cases z; done) | (cases h)
theorem late_kd (a : IR) (s : FS) (d : D) : late a s d = lateK (kd a) s d := by
  unfold late kd lateK
  cases a <;> first | rfl | skip
  · rename_i k _ _; cases k <;> rfl
  · rename_i x fr _; cases fr <;> rfl
  · rename_i x fr _ _; cases fr <;> rfl
theorem lateK_nb {κ : Kd} (h : ∀ i, κ ≠ .bor i) (s : FS) (d : D) : lateK κ s d = some d := by
  cases κ with
  | bor i => exact absurd rfl (h i)
  | frozen => rfl
  | fresh => rfl

/-! ### contracts -/
def spF (Θ : Th) (fd : Fd) : Sp := fun vs H Q E => vs.length = fd.ps.length ∧ ∃ G d0 ds, Same G H ∧
  (match fd.lent with
   | false => d0 = .none ∧ DVs Θ G vs ds ∧ WO Θ E H (fun _ => False) (fd.F .none ds) fun r =>
       ∀ v H' G', Ext (fun _ => False) H G H' G' → Same G' H' → (match fd.fresh with
         | false => DV Θ G' v r.1
         | true => ∃ p, v = .ref p ∧ H p = none ∧ G' p = none ∧ OV Θ G' H' p r.1) → Q v H'
   | true => ∃ a vs', vs = .ref a :: vs' ∧ G a = none ∧ OV Θ G H a d0 ∧ DVs Θ G vs' ds ∧ WO Θ E H (fun b => b = a) (fd.F d0 ds) fun r =>
       ∀ v H' G', Ext (fun b => b = a) H G H' G' → Same G' H' → G' a = none → OV Θ G' H' a r.2 → (match fd.fresh with
         | false => DV Θ G' v r.1
         | true => ∃ p, v = .ref p ∧ p ≠ a ∧ H p = none ∧ G' p = none ∧ OV Θ G' H' p r.1) → Q v H')
theorem spF_len {Θ : Th} {fd : Fd} : ∀ vs H Q E, spF Θ fd vs H Q E → vs.length = fd.ps.length := fun _ _ _ _ h => h.1

def bltNames : List Str := ["len", "abs", "int", "str", "sum", "all", "any", "min", "max", "repr", "set", "isinstance", "bool", "tuple", "list", "range", "enumerate", "zip", "sorted", "dict", "reversed"]
structure Glb (Λ : Env) (n : Nat) (Θ : Th) (base : Heap) : Prop where
  tab : ∀ x fd, Λ.Φ.find x = some fd → ∃ f fdata, Θ.M x = some (.ref f) ∧ PySem.W.keepIn Θ.K (.ref f) = true ∧ Binds Θ.K fdata fd.ps [] ∧ FnOk Θ.P Θ.w Θ.K Θ.M base (L2.CX Θ.P Θ.w) n f fdata fd.ps (spF Θ fd)
  con : ∀ x d, Λ.Γ x = some d → ∃ v u, Θ.M x = some u ∧ RelV v u ∧ ∀ G, DV Θ G v d
  blt : ∀ x ∈ bltNames, Θ.M x = none
/-- names by slot, the scope, which names' cells are the block's own -/
structure Ck where
  N : List Str
  sc : Scope
  fn : Str → Bool
  fns : List Str
  exs : List Str
  fix : Bool
/-- an exception class of the module, its objects made of a message -/
def ExcG (Θ : Th) (c : Str) : Prop := ∃ (C : Addr) (bmB : List Value) (B newId initId : String), ExcBaseFacts B newId initId bmB ∧ PySem.W.excIn Θ.K C bmB newId = true ∧ Θ.M c = some (.ref C) ∧ PySem.W.keepIn Θ.K (.ref C) = true ∧
  PySem.W.subIn Θ.K (.ref C) (.type "BaseException") = some true ∧ PySem.W.typeIn Θ.K (.ref C) = some (.type "type")
structure XC (Λ : Env) (n : Nat) (C : Ck) (E : XK) (X : Cx) : Prop where
  glb : Glb Λ n (thOf X) X.base
  hN : X.N = C.N
  nd : X.N.Nodup
  hsc : X.env.scope = C.sc
  hfn : X.fn = C.fn
  hfns : ∀ x ∈ C.fns, (Λ.Φ.find x).isSome = true
  hexs : ∀ x ∈ C.exs, ExcG (thOf X) x
  calm : X.calm = true
  room : Room n X.A
  pass : Passes (L2.CX X.prog X.w) X E

/-! ### which syntax an IR stands for -/
def nmOk (x : Str) : Bool := !(x == ("__debug__" : Str)) && !(x == ("__classdict__" : Str)) && decide (x ≠ "__name__")
def visOk (C : Ck) (i : Nat) (x : Str) : Bool := decide (C.N[i]? = some x) && nmOk x && (match C.sc.names.lookup x with
  | some .local => true
  | some .cell => true
  | some .free => true
  | _ => false)
def locOk (C : Ck) (i : Nat) (x : Str) : Bool := decide (C.N[i]? = some x) && !(C.fix && i == 0) && (match C.sc.names.lookup x with
  | some .local => true
  | some .cell => C.fn x
  | _ => false)
def gloOk (C : Ck) (x : Str) : Bool := nmOk x && (match C.sc.names.lookup x with
  | some .globalImplicit => true
  | _ => false)
def bltOk (C : Ck) (x : Str) (y : Str) : Bool := decide (x = y) && gloOk C x && decide (y ∈ bltNames)
def notStar : Expr → Bool
  | .Starred _ _ => false
  | _ => true
def notSetE : Expr → Bool
  | .Set _ _ _ => false
  | _ => true
def plainIx : Expr → Bool
  | .Slice _ _ _ _ => false
  | _ => true
def bop : BOp → Operator
  | .add => .Add
  | .addL => .Add
  | .sub => .Sub
  | .mul => .Mult
  | .mulL => .Mult
  | .fdiv => .FloorDiv
  | .mod => .Mod
  | .pow => .Pow
def cop : COp → CmpOp
  | .eq => .Eq
  | .ne => .NotEq
  | .lt => .Lt
  | .le => .LtE
  | .gt => .Gt
  | .ge => .GtE
  | .isin => .In
  | .notin => .NotIn
  | .is => .Is
  | .isnot => .IsNot
def bopE : Operator → Operator → Bool
  | .Add, .Add | .Sub, .Sub | .Mult, .Mult | .FloorDiv, .FloorDiv | .Mod, .Mod | .Pow, .Pow => true
  | _, _ => false
theorem bopE_eq {a b : Operator} (h : bopE a b = true) : a = b := by
  unfold bopE at h
  split at h <;> first | rfl | cases h
def copE : CmpOp → CmpOp → Bool
  | .Eq, .Eq | .NotEq, .NotEq | .Lt, .Lt | .LtE, .LtE | .Gt, .Gt | .GtE, .GtE | .In, .In | .NotIn, .NotIn | .Is, .Is | .IsNot, .IsNot => true
  | _, _ => false
theorem copE_eq {a b : CmpOp} (h : copE a b = true) : a = b := by
  unfold copE at h
  split at h <;> first | rfl | cases h
def b1N : B1 → Str
  | .len => "len"
  | .abs => "abs"
  | .int => "int"
  | .str => "str"
  | .sum => "sum"
  | .all => "all"
  | .any => "any"
  | .min => "min"
  | .max => "max"
  | .repr => "repr"
  | .lenset => "len"
def b1Ok : B1 → Bool
  | .len | .abs | .int | .sum | .all | .any | .min | .max => true
  | _ => false
def b2N : B2 → Str
  | .min => "min"
  | .max => "max"
def tyS : Ty → Str
  | .int => "int"
  | .bool => "bool"
  | .tuple => "tuple"
  | .list => "list"
  | .str => "str"
def cstOk : D → Const → Bool
  | .int i, .int j => decide (i = j)
  | .bool i, .bool j => i == j
  | .str x, .str y => decide (x = y)
  | .none, .none => true
  | _, _ => false
def patSlots : Pat → List Nat
  | .nm i => [i]
  | .tp p => patSlots p
  | .nil => []
  | .cons p q => patSlots p ++ patSlots q
mutual
def chkP (C : Ck) : Pat → Expr → Bool
  | .nm i, .Name x _ => locOk C i x
  | .tp p, .Tuple es _ _ => chkPs C p es
  | _, _ => false
def chkPs (C : Ck) : Pat → List Expr → Bool
  | .nil, [] => true
  | .cons p q, e :: es => notStar e && chkP C p e && chkPs C q es
  | _, _ => false
end
def tupT : Expr → Bool
  | .Tuple _ _ _ => true
  | _ => false
def blkCk (C : Ck) (scope : Scope) : Ck := ⟨C.N, relS scope C.sc, fun x => scope.names.lookup x == some .cell, C.fns, C.exs, false⟩
mutual
def chk (C : Ck) : IR → Expr → Bool
  | .nev, _ => true
  | .cst d, .Constant k _ _ => cstOk d k
  | .var i, .Name x _ => visOk C i x
  | .bor i, .Name x _ => visOk C i x
  | .glo x, .Name y _ => decide (x = y) && gloOk C x
  | .tup a, .Tuple es _ _ => chkA C a es
  | .lst a, .List es _ => chkA C a es
  | .emp, .Dict [] [] _ => true
  | .bin k a b, .BinOp x op y _ => bopE (bop k) op && chk C a x && chk C b y
  | .cmp k a b, .Compare x [op] [y] _ => copE (cop k) op && notSetE y && chk C a x && chk C b y
  | .chain k k' a b c, .Compare x [op, op'] [y, z] _ => copE (cop k) op && copE (cop k') op' && !isBor a && !isBor b && notSetE y && notSetE z && chk C a x && chk C b y && chk C c z
  | .not a, .UnaryOp .Not x _ => chk C a x
  | .neg a, .UnaryOp .USub x _ => chk C a x
  | .and a b, .BoolOp .And [x, y] _ => chk C a x && chk C b y
  | .and a b, .BoolOp .And (x :: y :: z :: r) pos => chk C a x && chk C b (.BoolOp .And (y :: z :: r) pos)
  | .or a b, .BoolOp .Or [x, y] _ => chk C a x && chk C b y
  | .or a b, .BoolOp .Or (x :: y :: z :: r) pos => chk C a x && chk C b (.BoolOp .Or (y :: z :: r) pos)
  | .ite c a b, .IfExp t x y _ => !isBor a && !isBor b && chk C c t && chk C a x && chk C b y
  | .b1 k a, .Call (.Name f _) [x] [] _ => b1Ok k && bltOk C f (b1N k) && notStar x && chk C a x
  | .b2 k a b, .Call (.Name f _) [x, y] [] _ => bltOk C f (b2N k) && notStar x && notStar y && !isBor a && chk C a x && chk C b y
  | .isi t a, .Call (.Name f _) [x, .Name g _] [] _ => bltOk C f "isinstance" && bltOk C g (tyS t) && notStar x && chk C a x
  | .idx a b, .Subscript x y _ => plainIx y && chk C a x && chk C b y
  | .sli a lo hi, .Subscript x (.Slice l h none _) _ => chk C a x && (match l with
      | some e => !isBor lo && !isNoneC lo && chk C lo e
      | none => isNoneC lo) && (match h with
      | some e => !isBor hi && !isNoneC hi && chk C hi e
      | none => isNoneC hi)
  | .sliL a lo hi, .Subscript x (.Slice l h none _) _ => chk C a x && (match l with
      | some e => !isBor lo && !isNoneC lo && chk C lo e
      | none => isNoneC lo) && (match h with
      | some e => !isBor hi && !isNoneC hi && chk C hi e
      | none => isNoneC hi)
  | .revL a, .Subscript x (.Slice none none (some (.UnaryOp .USub (.Constant (.int 1) _ _) _)) _) _ => chk C a x
  | .toL a, .Call (.Name f _) [x] [] _ => bltOk C f "list" && notStar x && chk C a x
  | .toT a, .Call (.Name f _) [x] [] _ => bltOk C f "tuple" && notStar x && chk C a x
  | .rngL a, .Call (.Name f _) [.Call (.Name g _) [x] [] _] [] _ => bltOk C f "list" && bltOk C g "range" && notStar x && !isBor a && chk C a x
  | .rngT a, .Call (.Name f _) [.Call (.Name g _) [x] [] _] [] _ => bltOk C f "tuple" && bltOk C g "range" && notStar x && !isBor a && chk C a x
  | .app i a, .Call (.Attribute (.Name y _) m ap) [x] [] cp => decide (m = "append") && visOk C i y && notStar x && !isBor a && ap.endLine == cp.line && chk C a x
  | .pop i, .Call (.Attribute (.Name y _) m ap) [] [] cp => decide (m = "pop") && visOk C i y && ap.endLine == cp.line
  | .popi i a, .Call (.Attribute (.Name y _) m ap) [x] [] cp => decide (m = "pop") && visOk C i y && notStar x && !isBor a && ap.endLine == cp.line && chk C a x
  | .call f _ a, .Call (.Name g _) (e :: es) [] _ => decide (f = g) && gloOk C f && decide (f ∈ C.fns) && chkA C a (e :: es)
  | .callc f _ i a, .Call (.Name g _) (.Name c _ :: es) [] _ => decide (f = g) && gloOk C f && decide (f ∈ C.fns) && visOk C i c && chkA C a es
  | .lc own p src cond elt, .ListComp e [⟨tg, it, ifs, asy⟩] scope _ => decide (asy = 0) && blkC C.N C.sc scope own && ((patSlots p).all fun i => decide (i ∈ own.map (·.2))) && notSetE it && chkP (blkCk C scope) p tg && chkI C tg src it &&
      (match ifs with
       | [] => chk (blkCk C scope) cond (.Constant (.bool true) 0 ⟨0, 0, 0, 0⟩)
       | [c] => chk (blkCk C scope) cond c
       | _ => false) && !isBor elt && chk (blkCk C scope) elt e
  | .lc2 own own1 p src cond p1 src1 cond1 elt, .ListComp e [⟨tg, it, ifs, asy⟩, ⟨tg1, it1, ifs1, asy1⟩] scope _ => decide (asy = 0) && decide (asy1 = 0) && blkC C.N C.sc scope own && (own1.all fun i => decide (i ∈ own.map (·.2))) && ((patSlots p).all fun i => decide (i ∈ own.map (·.2))) &&
      ((patSlots p1).all fun i => decide (i ∈ own1)) && notSetE it && notSetE it1 && chkP (blkCk C scope) p tg && chkP (blkCk C scope) p1 tg1 && chkI C tg src it && chkI (blkCk C scope) tg1 src1 it1 &&
      (match ifs with
       | [] => chk (blkCk C scope) cond (.Constant (.bool true) 0 ⟨0, 0, 0, 0⟩)
       | [c] => chk (blkCk C scope) cond c
       | _ => false) && (match ifs1 with
       | [] => chk (blkCk C scope) cond1 (.Constant (.bool true) 0 ⟨0, 0, 0, 0⟩)
       | [c] => chk (blkCk C scope) cond1 c
       | _ => false) && !isBor elt && chk (blkCk C scope) elt e
  | .set a, .Call (.Name f _) [.Call (.Name g _) [x] [] _] [] _ => bltOk C f "len" && bltOk C g "set" && notStar x && chk C a x
  | _, _ => false
termination_by structural ir _ => ir
def chkA (C : Ck) : IR → List Expr → Bool
  | .nil, [] => true
  | .cons a b, e :: es => notStar e && !isBor a && chk C a e && chkA C b es
  | _, _ => false
termination_by structural ir _ => ir
def chkI (C : Ck) (tg : Expr) : IR → Expr → Bool
  | .nev, _ => true
  | .iseq a, e => !isBor a && chk C a e
  | .irng a, .Call (.Name f _) [x] [] _ => bltOk C f "range" && notStar x && !isBor a && chk C a x
  | .irng2 a b, .Call (.Name f _) [x, y] [] _ => bltOk C f "range" && notStar x && notStar y && !isBor a && !isBor b && chk C a x && chk C b y
  | .izip a b, .Call (.Name f _) [x, y] [] _ => tupT tg && bltOk C f "zip" && notStar x && notStar y && !isBor a && !isBor b && chk C a x && chk C b y
  | .ienz a b, .Call (.Name f _) [.Call (.Name g _) [x, y] [] _] [] _ => tupT tg && bltOk C f "enumerate" && bltOk C g "zip" && notStar x && notStar y && !isBor a && !isBor b && chk C a x && chk C b y
  | .ienum a, .Call (.Name f _) [x] [] _ => tupT tg && bltOk C f "enumerate" && notStar x && !isBor a && chk C a x
  | _, _ => false
termination_by structural ir _ => ir
end
end Fw

set_option Elab.async false
set_option linter.all false
set_option maxRecDepth 100000
set_option maxHeartbeats 4000000
namespace Fw
open PySem PySem.Spec L2

structure Snd (Λ : Env) (E : XK) (X : Cx) (ir : IR) (e : Expr) : Prop where
  pe : PE X e (RdE (thOf X) E (kd ir) (sem Λ ir))
  pt : PT X e (RdT (thOf X) E (sem Λ ir))
  pw : (∃ op vs pos, e = .BoolOp op vs pos) → PW X e (RdT (thOf X) E (sem Λ ir))
theorem tstD_some {d : D} {b : Bool} (h : tstD d = some b) : d = .bool b := by
  unfold tstD at h
  split at h
  · cases h; rfl
  · cases h
theorem tupD_some {d : D} {l : List D} (h : tupD d = some l) : d = .tuple l := by
  unfold tupD at h
  split at h
  · cases h; rfl
  · cases h
theorem lstD_some {d : D} {l : List D} (h : lstD d = some l) : d = .list l := by
  unfold lstD at h
  split at h
  · cases h; rfl
  · cases h
/-- a test that is no and, or, not, comparison, conditional -/
def plainT : Expr → Bool
  | .UnaryOp .Not _ _ => false
  | .BoolOp _ _ _ => false
  | .IfExp _ _ _ _ => false
  | .Compare _ _ _ _ => false
  | _ => true
theorem plainT_eq {e : Expr} (h : plainT e = true) (env : PySem.Env) (whole : Sem Value) : isTrue e env whole = (do let v ← whole; standAt e.pos; holding [v] (truthy v)) := by
  cases e <;> first | rfl | skip
  all_goals first | (cases h; done) | (rename_i op _ _; cases op <;> first | rfl | cases h)
section
variable {Λ : Env} {n : Nat} {C : Ck} {E : XK} {X : Cx} {e a b c : Expr} {pos : Pos} {ia ib ic ir : IR}
theorem Snd.plain (h : PE X e (RdE (thOf X) E (kd ir) (sem Λ ir))) (hp : plainT e = true) : Snd Λ E X ir e :=
  ⟨h, PT.imp (pt_val h (fun whole => plainT_eq hp X.env whole)) fun σ H Q q => RdT.to q, fun ⟨op, vs, pos, z⟩ => by subst z; cases hp⟩
theorem Snd.frozen (h : Snd Λ E X ir e) (hb : isBor ir = false) : PE X e (RdE (thOf X) E .frozen (sem Λ ir)) := Kd.notBor_frozen h.pe (kd_nb hb)
theorem visOk_vis {i : Nat} {x : Str} (c : XC Λ n C E X) (h : visOk C i x = true) : X.N[i]? = some x ∧ Vis X.env.scope x ∧ (x == ("__debug__" : Str)) = false ∧ (x == ("__classdict__" : Str)) = false := by
  unfold visOk nmOk at h
  simp only [Bool.and_eq_true, decide_eq_true_eq, Bool.not_eq_true'] at h
  obtain ⟨⟨h1, ⟨h2, h3⟩, h4⟩, h5⟩ := h
  refine ⟨by rw [c.hN]; exact h1, ?_, h2, h3⟩
  rw [c.hsc]
  split at h5 <;> rename_i z
  · exact .inl z
  · exact .inr (.inl z)
  · exact .inr (.inr z)
  · cases h5
theorem gloOk_gl {x : Str} (c : XC Λ n C E X) (h : gloOk C x = true) : Gl X x ∧ (x == ("__debug__" : Str)) = false ∧ x ≠ "__name__" := by
  unfold gloOk nmOk at h
  simp only [Bool.and_eq_true, decide_eq_true_eq, Bool.not_eq_true'] at h
  obtain ⟨⟨⟨h2, h3⟩, h4⟩, h5⟩ := h
  refine ⟨?_, h2, h4⟩
  show X.env.scope.names.lookup x = some .globalImplicit
  rw [c.hsc]
  split at h5
  · assumption
  · cases h5
theorem bltOk_gl {x y : Str} (c : XC Λ n C E X) (h : bltOk C x y = true) : x = y ∧ Gl X x ∧ (x == ("__debug__" : Str)) = false ∧ x ≠ "__name__" ∧ X.mg x = none := by
  unfold bltOk at h
  simp only [Bool.and_eq_true, decide_eq_true_eq] at h
  obtain ⟨⟨rfl, h1⟩, h2⟩ := h
  obtain ⟨g1, g2, g3⟩ := gloOk_gl c h1
  exact ⟨rfl, g1, g2, g3, c.glb.blt _ h2⟩
theorem star_of {e : Expr} (h : notStar e = true) (es : List Expr) (env : PySem.Env) : starEach (e :: es) env = (false, eval e env) :: starEach es env := by
  cases e <;> first | rfl | cases h
/-! ### names and constants -/
theorem snd_cst {d : D} {k : Const} {j : Nat} (c : XC Λ n C E X) (h : cstOk d k = true) : Snd Λ E X (.cst d) (.Constant k j pos) := by
  refine Snd.plain ?_ rfl
  have key : ∀ {v : V}, PE X (.Constant k j pos) (tC v) → (∀ G, DV (thOf X) G v d) → PE X (.Constant k j pos) (RdE (thOf X) E (kd (.cst d)) (sem Λ (.cst d))) := fun hp dv => PE.imp hp fun σ H Q ⟨ŝ, G, T, R, w⟩ => w _ H G T (Stp.refl R) ⟨rfl, dv G⟩
  unfold cstOk at h
  split at h
  · rw [decide_eq_true_eq] at h; subst h; exact key pe_int fun G => .int _
  · rw [beq_iff_eq] at h; subst h; exact key pe_bl fun G => .bl _
  · rw [decide_eq_true_eq] at h; subst h; exact key pe_str fun G => .str _
  · exact key pe_non fun G => .non
  · cases h
theorem rd_var {i : Nat} {σ : L2.St} {H : Hp} {Q : VK} {Θ : Th} (h : RdE Θ E .frozen (sem Λ (.var i)) σ H Q) : tVar i σ H Q := by
  obtain ⟨ŝ, G, T, R, w⟩ := h
  obtain ⟨p, hp, k⟩ := WO.opt w
  unfold escS at hp
  split at hp
  · rename_i d hd
    cases hp
    obtain ⟨x, ex, dv⟩ := R.val hd
    exact ⟨x, ex, k _ H G T (Stp.refl R) ⟨rfl, dv⟩⟩
  · rename_i d hd
    cases hp
    obtain ⟨a, o, es, ha, gn, R', dv⟩ := R.demote hd
    exact ⟨_, es, k _ H _ T ⟨Ext.demote ⟨i, d, hd, es⟩ gn, fun b z => Own.of_set_v z, R'⟩ ⟨rfl, dv⟩⟩
  · cases hp
theorem rd_bor {i : Nat} {σ : L2.St} {H : Hp} {Q : VK} {Θ : Th} (h : RdE Θ E (.bor i) (sem Λ (.bor i)) σ H Q) : tVar i σ H Q := by
  obtain ⟨ŝ, G, T, R, w⟩ := h
  obtain ⟨d, hd, k⟩ := WO.optb w
  have hx : ∃ x, σ[i]? = some (some x) := by
    unfold readS at hd
    split at hd
    · rename_i hc; obtain ⟨x, ex, _⟩ := R.val hc; exact ⟨x, ex⟩
    · rename_i hc; obtain ⟨x, ex, _⟩ := R.own hc; exact ⟨_, ex⟩
    · cases hd
  obtain ⟨x, ex⟩ := hx
  exact ⟨x, ex, k _ H G T (Stp.refl R) ⟨rfl, ex, hd⟩⟩
theorem snd_var {i : Nat} {x : Str} (c : XC Λ n C E X) (h : visOk C i x = true) : Snd Λ E X (.var i) (.Name x pos) := by
  obtain ⟨h1, h2, h3, h4⟩ := visOk_vis c h
  exact Snd.plain (PE.imp (pe_var h1 h2 h3 h4) fun σ H Q => rd_var) rfl
theorem snd_bor {i : Nat} {x : Str} (c : XC Λ n C E X) (h : visOk C i x = true) : Snd Λ E X (.bor i) (.Name x pos) := by
  obtain ⟨h1, h2, h3, h4⟩ := visOk_vis c h
  exact Snd.plain (PE.imp (pe_var h1 h2 h3 h4) fun σ H Q => rd_bor) rfl
theorem snd_glo {x : Str} (c : XC Λ n C E X) (h : gloOk C x = true) : Snd Λ E X (.glo x) (.Name x pos) := by
  obtain ⟨h1, h2, h3⟩ := gloOk_gl c h
  refine Snd.plain ?_ rfl
  cases hx : Λ.Γ x with
  | none =>
    refine ⟨fun pins s σ H Q I ⟨ŝ, G, T, R, w⟩ => ?_⟩
    obtain ⟨d, hd, _⟩ := WO.optb w
    rw [hx] at hd; cases hd
  | some d =>
    obtain ⟨v, u, hm, r, dv⟩ := c.glb.con x d hx
    refine PE.imp (pe_glob h1 hm r h2) fun σ H Q ⟨ŝ, G, T, R, w⟩ => ?_
    obtain ⟨d', hd, k⟩ := WO.optb w
    rw [hx] at hd; cases hd
    exact k _ H G T (Stp.refl R) ⟨rfl, dv G⟩
/-! ### operators -/
theorem sem_op2 {g : D → D → Option D} (hs : ∀ ŝ, sem Λ ir ŝ = (sem Λ ia ŝ >>= fun p => sem Λ ib p.2 >>= fun q => optO (late ia q.2 p.1) >>= fun d => optO (g d q.1) >>= fun r => .ok (r, q.2))) :
    sem Λ ir = fun s => sem Λ ia s >>= fun p => sem Λ ib p.2 >>= fun q => optO (lateK (kd ia) q.2 p.1) >>= fun d => optO (g d q.1) >>= fun z => .ok (z, q.2) := by
  funext s
  rw [hs]
  simp only [late_kd]
theorem snd_bin {k : BOp} {op : Operator} (c : XC Λ n C E X) (ho : bopE (bop k) op = true) (ha : Snd Λ E X ia a) (hb : Snd Λ E X ib b) : Snd Λ E X (.bin k ia ib) (.BinOp a op b pos) := by
  have e := bopE_eq ho
  subst e
  refine Snd.plain ?_ rfl
  have es := sem_op2 (Λ := Λ) (ir := .bin k ia ib) (ia := ia) (ib := ib) (g := appBin k) fun _ => rfl
  have key : ∀ {r : R2} {κ : Kd}, OpR X (binaryOp (bop k)) r → VR2 (thOf X) κ (appBin k) r → kd (.bin k ia ib) = κ → PE X (.BinOp a (bop k) b pos) (RdE (thOf X) E (kd (.bin k ia ib)) (sem Λ (.bin k ia ib))) := fun {r κ} h1 h2 h3 => by
    rw [h3, es]
    exact PE.imp (pe_op h1 ha.pe hb.pe) fun σ H Q q => rd_op2 h2 q
  cases k with
  | add => exact key op_addD vr_add rfl
  | sub => exact key op_sub vr_sub rfl
  | mul => exact key (op_mul.or op_repA) vr_mul rfl
  | fdiv => exact key op_fdiv vr_fdiv rfl
  | mod => exact key op_mod vr_mod rfl
  | pow => exact key op_pow vr_pow rfl
  | addL => exact key op_cat vr_addL rfl
  | mulL => exact key op_rep vr_mulL rfl
/-! ### comparisons -/
theorem vr_lt {Θ : Th} : VR2 Θ .frozen ltO (rI0 fun i j => .bl (decide (i < j))) := by
  intro G H T ŝ σ v w d e z Q R hv hw hz hQ
  unfold ltO at hz
  split at hz
  · cases hz
    rw [hv.int, hw.int]
    exact ⟨_, _, rfl, rfl, Stp.val R (.bl _) hQ⟩
  · cases hz
theorem mark_of {op : CmpOp} {b : Expr} (h : notSetE b = true) : behindInMarks op b = false := by
  cases b <;> first | rfl | cases h
theorem room65 (c : XC Λ n C E X) : X.A.units + 65 < cLine := by have := c.room.un; omega
theorem cmp_rule (c : XC Λ n C E X) (k : COp) : ∃ r, OpR X (compareOp (cop k)) r ∧ VR2 (thOf X) .frozen (appCmp k) r := by
  have hu := room65 c
  cases k with
  | eq => exact ⟨_, op_eqD (by omega), vr_eq⟩
  | ne => exact ⟨_, op_neD (by omega), vr_ne⟩
  | lt => exact ⟨_, op_lt, vr_lt⟩
  | le => exact ⟨_, op_le, vr_le⟩
  | gt => exact ⟨_, op_gt, vr_gt⟩
  | ge => exact ⟨_, op_ge, vr_ge⟩
  | isin => exact ⟨_, ((op_inD hu).or (op_inT hu)).or (dct_in hu false), vr_in⟩
  | notin => exact ⟨_, ((op_notInD hu).or (op_niT hu)).or (dct_in hu true), vr_ni⟩
  | is => exact ⟨_, op_isD, vr_is⟩
  | isnot => exact ⟨_, op_nsD, vr_ns⟩
theorem noBoolOp {e : Expr} (h : ∀ op vs pos, e ≠ .BoolOp op vs pos) {P : Prop} : (∃ op vs pos, e = .BoolOp op vs pos) → P := fun ⟨op, vs, pos, z⟩ => absurd z (h op vs pos)
theorem snd_cmp {k : COp} {op : CmpOp} (c : XC Λ n C E X) (ho : copE (cop k) op = true) (hs : notSetE b = true) (ha : Snd Λ E X ia a) (hb : Snd Λ E X ib b) : Snd Λ E X (.cmp k ia ib) (.Compare a [op] [b] pos) := by
  have e := copE_eq ho
  subst e
  obtain ⟨r, h1, h2⟩ := cmp_rule c k
  have es := sem_op2 (Λ := Λ) (ir := .cmp k ia ib) (ia := ia) (ib := ib) (g := appCmp k) fun _ => rfl
  have rd : ∀ σ H Q, RdE (thOf X) E .frozen (sem Λ (.cmp k ia ib)) σ H Q → tOp r (RdE (thOf X) E (kd ia) (sem Λ ia)) (RdE (thOf X) E (kd ib) (sem Λ ib)) σ H Q := fun σ H Q q => by
    rw [es] at q
    exact rd_op2 h2 q
  refine ⟨PE.imp (pe_cmpR h1 ha.pe hb.pe (mark_of hs)) rd, PT.imp (pt_cmpR h1 ha.pe hb.pe (mark_of hs)) fun σ H Q q => ?_, noBoolOp fun _ _ _ z => by cases z⟩
  exact rd σ H _ (RdT.to q)
/-! ### not, and, or, if -/
theorem snd_not (ha : Snd Λ E X ia a) : Snd Λ E X (.not ia) (.UnaryOp .Not a pos) := by
  refine ⟨PE.imp (pe_not ha.pe) fun σ H Q ⟨ŝ, G, T, R, w⟩ => ?_, PT.imp (pt_not ha.pt) fun σ H Q ⟨ŝ, G, T, R, w⟩ => ?_, noBoolOp fun _ _ _ z => by cases z⟩
  · refine ⟨ŝ, G, T, R, (WO.bind.mp w).mono fun p _ k v H1 G1 T1 s1 r1 => ?_⟩
    obtain ⟨t, ht, k⟩ := WO.optb k
    have q := r1.read s1.rep
    rw [tstD_some ht] at q
    exact ⟨t, q.bool, k _ H1 G1 T (s1.suffix r1.suffix) ⟨rfl, .bl _⟩⟩
  · refine ⟨ŝ, G, T, R, (WO.bind.mp w).mono fun p _ k => ?_⟩
    obtain ⟨t, ht, k⟩ := WO.optb k
    obtain ⟨b, e, k⟩ := k
    refine ⟨t, tstD_some ht, fun H1 G1 s1 => ?_⟩
    have e' : (!t) = b := by
      have := e
      simpa using this
    show Q (!t) H1
    rw [e']
    exact k H1 G1 s1
theorem rd_and {σ : L2.St} {H : Hp} {Q : VK} {Θ : Th} {κa κb : Kd} (h : RdE Θ E .frozen (sem Λ (.and ia ib)) σ H Q) : tAndV (RdE Θ E κa (sem Λ ia)) (RdE Θ E κb (sem Λ ib)) σ H Q := by
  obtain ⟨ŝ, G, T, R, w⟩ := h
  refine ⟨ŝ, G, T, R, (WO.bind.mp w).mono fun p _ k v H1 G1 T1 s1 r1 => ?_⟩
  obtain ⟨t, ht, k⟩ := WO.optb k
  have q := r1.read s1.rep
  rw [tstD_some ht] at q
  refine ⟨t, q.bool, ?_⟩
  have s1' := s1.suffix r1.suffix
  cases t with
  | true =>
    refine iteT ⟨p.2, G1, T, s1'.rep, (WO.bind.mp ((show WO Θ E H (Own ŝ σ) (sem Λ ib p.2 >>= _) _ from k).step s1')).mono fun q' _ k2 w' H2 G2 T2 s2 r2 => ?_⟩
    obtain ⟨u, hu, k3⟩ := WO.optb k2
    have q2 := r2.read s2.rep
    rw [tstD_some hu] at q2
    rw [q2.bool]
    exact k3 _ H2 G2 T (s1'.trans (s2.suffix r2.suffix)) ⟨rfl, .bl _⟩
  | false => exact iteF ((show ∀ v H' G' T', _ → _ → Q v H' from k) _ H1 G1 T s1' ⟨rfl, .bl _⟩)
theorem rd_or {σ : L2.St} {H : Hp} {Q : VK} {Θ : Th} {κa κb : Kd} (h : RdE Θ E .frozen (sem Λ (.or ia ib)) σ H Q) : tOrV (RdE Θ E κa (sem Λ ia)) (RdE Θ E κb (sem Λ ib)) σ H Q := by
  obtain ⟨ŝ, G, T, R, w⟩ := h
  refine ⟨ŝ, G, T, R, (WO.bind.mp w).mono fun p _ k v H1 G1 T1 s1 r1 => ?_⟩
  obtain ⟨t, ht, k⟩ := WO.optb k
  have q := r1.read s1.rep
  rw [tstD_some ht] at q
  refine ⟨t, q.bool, ?_⟩
  have s1' := s1.suffix r1.suffix
  cases t with
  | false =>
    refine iteF ⟨p.2, G1, T, s1'.rep, (WO.bind.mp ((show WO Θ E H (Own ŝ σ) (sem Λ ib p.2 >>= _) _ from k).step s1')).mono fun q' _ k2 w' H2 G2 T2 s2 r2 => ?_⟩
    obtain ⟨u, hu, k3⟩ := WO.optb k2
    have q2 := r2.read s2.rep
    rw [tstD_some hu] at q2
    rw [q2.bool]
    exact k3 _ H2 G2 T (s1'.trans (s2.suffix r2.suffix)) ⟨rfl, .bl _⟩
  | true => exact iteT ((show ∀ v H' G' T', _ → _ → Q v H' from k) _ H1 G1 T s1' ⟨rfl, .bl _⟩)
theorem rt_and {σ : L2.St} {H : Hp} {Q : Bool → Hp → Prop} {Θ : Th} (h : RdT Θ E (sem Λ (.and ia ib)) σ H Q) : tAnd (RdT Θ E (sem Λ ia)) (RdT Θ E (sem Λ ib)) σ H Q := by
  obtain ⟨ŝ, G, T, R, w⟩ := h
  refine ⟨ŝ, G, T, R, (WO.bind.mp w).mono fun p _ k => ?_⟩
  obtain ⟨t, ht, k⟩ := WO.optb k
  refine ⟨t, tstD_some ht, fun H1 G1 s1 => ?_⟩
  cases t with
  | true =>
    refine iteT ⟨p.2, G1, T, s1.rep, (WO.bind.mp ((show WO Θ E H (Own ŝ σ) (sem Λ ib p.2 >>= _) _ from k).step s1)).mono fun q' _ k2 => ?_⟩
    obtain ⟨u, hu, b, e, k3⟩ := WO.optb k2
    cases e
    exact ⟨u, tstD_some hu, fun H2 G2 s2 => k3 H2 G2 (s1.trans s2)⟩
  | false =>
    obtain ⟨b, e, k⟩ := k
    cases e
    exact iteF (k H1 G1 s1)
theorem rt_or {σ : L2.St} {H : Hp} {Q : Bool → Hp → Prop} {Θ : Th} (h : RdT Θ E (sem Λ (.or ia ib)) σ H Q) : tOr (RdT Θ E (sem Λ ia)) (RdT Θ E (sem Λ ib)) σ H Q := by
  obtain ⟨ŝ, G, T, R, w⟩ := h
  refine ⟨ŝ, G, T, R, (WO.bind.mp w).mono fun p _ k => ?_⟩
  obtain ⟨t, ht, k⟩ := WO.optb k
  refine ⟨t, tstD_some ht, fun H1 G1 s1 => ?_⟩
  cases t with
  | false =>
    refine iteF ⟨p.2, G1, T, s1.rep, (WO.bind.mp ((show WO Θ E H (Own ŝ σ) (sem Λ ib p.2 >>= _) _ from k).step s1)).mono fun q' _ k2 => ?_⟩
    obtain ⟨u, hu, b, e, k3⟩ := WO.optb k2
    cases e
    exact ⟨u, tstD_some hu, fun H2 G2 s2 => k3 H2 G2 (s1.trans s2)⟩
  | true =>
    obtain ⟨b, e, k⟩ := k
    cases e
    exact iteT (k H1 G1 s1)
theorem snd_and2 (ha : Snd Λ E X ia a) (hb : Snd Λ E X ib b) : Snd Λ E X (.and ia ib) (.BoolOp .And [a, b] pos) :=
  have w : PW X (.BoolOp .And [a, b] pos) (RdT (thOf X) E (sem Λ (.and ia ib))) := PW.imp (pw_and ha.pt (pw_and1 hb.pt)) fun _ _ _ => rt_and
  ⟨PE.imp (pe_and ha.pe (pe_one hb.pe)) fun _ _ _ => rd_and, w.pt, fun _ => w⟩
theorem snd_and {r : List Expr} (ha : Snd Λ E X ia a) (hb : Snd Λ E X ib (.BoolOp .And (b :: r) pos)) : Snd Λ E X (.and ia ib) (.BoolOp .And (a :: b :: r) pos) :=
  have w : PW X (.BoolOp .And (a :: b :: r) pos) (RdT (thOf X) E (sem Λ (.and ia ib))) := PW.imp (pw_and ha.pt (hb.pw ⟨_, _, _, rfl⟩)) fun _ _ _ => rt_and
  ⟨PE.imp (pe_and ha.pe hb.pe) fun _ _ _ => rd_and, w.pt, fun _ => w⟩
theorem snd_or2 (ha : Snd Λ E X ia a) (hb : Snd Λ E X ib b) : Snd Λ E X (.or ia ib) (.BoolOp .Or [a, b] pos) :=
  have w : PW X (.BoolOp .Or [a, b] pos) (RdT (thOf X) E (sem Λ (.or ia ib))) := PW.imp (pw_or ha.pt (pw_or1 hb.pt)) fun _ _ _ => rt_or
  ⟨PE.imp (pe_or ha.pe (pe_one hb.pe)) fun _ _ _ => rd_or, w.pt, fun _ => w⟩
theorem snd_or {r : List Expr} (ha : Snd Λ E X ia a) (hb : Snd Λ E X ib (.BoolOp .Or (b :: r) pos)) : Snd Λ E X (.or ia ib) (.BoolOp .Or (a :: b :: r) pos) :=
  have w : PW X (.BoolOp .Or (a :: b :: r) pos) (RdT (thOf X) E (sem Λ (.or ia ib))) := PW.imp (pw_or ha.pt (hb.pw ⟨_, _, _, rfl⟩)) fun _ _ _ => rt_or
  ⟨PE.imp (pe_or ha.pe hb.pe) fun _ _ _ => rd_or, w.pt, fun _ => w⟩
theorem pt_ifE {t : Expr} {tc ta tb : TT} (hc : PT X t tc) (ha : PT X a ta) (hb : PT X b tb) : PT X (.IfExp t a b pos) (fun σ H Q => tc σ H fun k H1 => if k = true then ta σ H1 Q else tb σ H1 Q) := by
  refine ⟨fun pins s σ H Q I h => ?_⟩
  show wpAny _ _ (do if ← isTrue t X.env (eval t X.env) then isTrue a X.env (eval a X.env) else isTrue b X.env (eval b X.env)) _ _ _
  refine wpAny_bind (thn (hc.run pins s σ H _ I h) fun k s1 ⟨H1, I1, q⟩ => ?_)
  cases k with
  | true => exact ha.run pins s1 σ H1 Q I1 q
  | false => exact hb.run pins s1 σ H1 Q I1 q
theorem snd_ite {t : Expr} {it : IR} (na : isBor ia = false) (nb : isBor ib = false) (hc : Snd Λ E X it t) (ha : Snd Λ E X ia a) (hb : Snd Λ E X ib b) : Snd Λ E X (.ite it ia ib) (.IfExp t a b pos) := by
  refine ⟨PE.imp (pe_ifExp hc.pt (ha.frozen na) (hb.frozen nb)) fun σ H Q ⟨ŝ, G, T, R, w⟩ => ?_, PT.imp (pt_ifE hc.pt ha.pt hb.pt) fun σ H Q ⟨ŝ, G, T, R, w⟩ => ?_, noBoolOp fun _ _ _ z => by cases z⟩
  · refine ⟨ŝ, G, T, R, (WO.bind.mp w).mono fun p _ k => ?_⟩
    obtain ⟨t, ht, k⟩ := WO.optb k
    refine ⟨t, tstD_some ht, fun H1 G1 s1 => ?_⟩
    cases t with
    | true => exact iteT ⟨p.2, G1, T, s1.rep, ((show WO (thOf X) E H (Own ŝ σ) (sem Λ ia p.2) _ from k).step s1).mono fun q' _ k2 v H2 G2 T2 s2 r2 => k2 v H2 G2 T2 (s1.trans s2) r2⟩
    | false => exact iteF ⟨p.2, G1, T, s1.rep, ((show WO (thOf X) E H (Own ŝ σ) (sem Λ ib p.2) _ from k).step s1).mono fun q' _ k2 v H2 G2 T2 s2 r2 => k2 v H2 G2 T2 (s1.trans s2) r2⟩
  · refine ⟨ŝ, G, T, R, (WO.bind.mp w).mono fun p _ k => ?_⟩
    obtain ⟨t, ht, k⟩ := WO.optb k
    refine ⟨t, tstD_some ht, fun H1 G1 s1 => ?_⟩
    cases t with
    | true => exact iteT ⟨p.2, G1, T, s1.rep, ((show WO (thOf X) E H (Own ŝ σ) (sem Λ ia p.2) _ from k).step s1).mono fun q' _ ⟨b, e, k2⟩ => ⟨b, e, fun H2 G2 s2 => k2 H2 G2 (s1.trans s2)⟩⟩
    | false => exact iteF ⟨p.2, G1, T, s1.rep, ((show WO (thOf X) E H (Own ŝ σ) (sem Λ ib p.2) _ from k).step s1).mono fun q' _ ⟨b, e, k2⟩ => ⟨b, e, fun H2 G2 s2 => k2 H2 G2 (s1.trans s2)⟩⟩
end
end Fw

set_option Elab.async false
set_option linter.all false
set_option maxRecDepth 100000
set_option maxHeartbeats 4000000
namespace Fw
open PySem PySem.Spec L2
theorem ordX_ok {l : List D} (h : ordX l = true) : PySem.W.AlikeAll l ∧ PyData.depthAll l < 64 ∧ PyData.canLayAll0 l = true := by
  unfold ordX at h
  rw [Bool.and_eq_true, Bool.and_eq_true] at h
  obtain ⟨⟨h1, h2⟩, h3⟩ := h
  refine ⟨⟨fun x hx y hy => ?_, fun x hx e => ?_⟩, ?_, lay_lst (shp_lay h3)⟩
  · exact List.all_eq_true.mp (List.all_eq_true.mp h1 x hx) y hy
  · have := List.all_eq_true.mp h2 x hx
    rw [e] at this
    cases this
  · have := SeqAt.depth_of_shaped h3
    have e : (PyData.list l).depth = PyData.depthAll l + 1 := by first | rfl | (rw [PyData.depth]; omega)
    omega
def rBest (K : PySem.W.Frag) (g : D → List D → D) : List V → Hp → VK → Prop := fun vs H Q => ∃ (a : Addr) (xs : List V) (d : D) (r : List D), vs = [V.ref a] ∧ SqL K H a xs ∧ DpAll K H xs (d :: r) ∧ PySem.W.AlikeAll (d :: r) ∧ PyData.depthAll (d :: r) < 64 ∧
  ∀ (i : Nat) v, xs[i]? = some v → (d :: r)[i]? = some (g d r) → Q v H
theorem readsAll_get {h : Heap} : ∀ {us : List Value} {ds : List PyData} {as : List Addr} {i : Nat} {u : Value}, ReadsAll h us ds as → us[i]? = some u → ∃ d bs, ds[i]? = some d ∧ Reads h u d bs
  | _, _, _, _, _, .nil, e => by cases e
  | _, _, _, 0, _, .cons r _, e => by cases e; exact ⟨_, _, rfl, r⟩
  | _, _, _, i + 1, _, .cons _ t, e => readsAll_get (i := i) t e
theorem vals_getV {xs : List V} {us : List Value} {i : Nat} {u : Value} (r : Vals xs us) (e : us[i]? = some u) : ∃ x, xs[i]? = some x ∧ RelV x u := by
  cases h : xs[i]? with
  | none => rw [Vals.none_of r h] at e; cases e
  | some x => obtain ⟨u', e', q⟩ := Vals.get r h; rw [e] at e'; cases e'; exact ⟨x, rfl, q⟩
section
variable {X : Cx}
theorem cr_minX (hc : X.calm = true) (hu : X.A.units + 65 < cLine) : CallR X (.builtin "min") (rBest X.K PySem.W.minD) := by
  intro pins s σ H vs us Q I r h
  obtain ⟨a, xs, d, l, rfl, hs, hd, ha, hdep, q⟩ := h
  obtain ⟨its, rv, hl, _⟩ := I.list hs
  rw [Vals.ref1 r]
  obtain ⟨as, hr⟩ := Dp.readsAll I _ _ _ hd rv
  refine PySem.W.min_list_data (I.ok.hd hc) hl.isList hr ha (by omega) fun i v h' tk bs hv hread hk => ?_
  have hv' : its[i]? = some v := by simpa using hv
  obtain ⟨x, hx, rx⟩ := vals_getV rv hv'
  obtain ⟨e, bs', he, re⟩ := readsAll_get hr hv'
  have := (Reads.unique (PySem.W.reads_keeps hk re) _ _ hread).1
  subst this
  exact ⟨x, H, I.kept hk, rx, q i x hx he⟩
theorem cr_maxX (hc : X.calm = true) (hu : X.A.units + 65 < cLine) : CallR X (.builtin "max") (rBest X.K PySem.W.maxD) := by
  intro pins s σ H vs us Q I r h
  obtain ⟨a, xs, d, l, rfl, hs, hd, ha, hdep, q⟩ := h
  obtain ⟨its, rv, hl, _⟩ := I.list hs
  rw [Vals.ref1 r]
  obtain ⟨as, hr⟩ := Dp.readsAll I _ _ _ hd rv
  refine PySem.W.max_list_data (I.ok.hd hc) hl.isList hr ha (by omega) fun i v h' tk bs hv hread hk => ?_
  have hv' : its[i]? = some v := by simpa using hv
  obtain ⟨x, hx, rx⟩ := vals_getV rv hv'
  obtain ⟨e, bs', he, re⟩ := readsAll_get hr hv'
  have := (Reads.unique (PySem.W.reads_keeps hk re) _ _ hread).1
  subst this
  exact ⟨x, H, I.kept hk, rx, q i x hx he⟩
end
section
variable {Θ : Th}
theorem vr_minX : VR1 Θ .frozen minX (fun v H Q => rBest Θ.K PySem.W.minD [v] H Q) := by
  intro G H T ŝ σ v d z Q R hv hz hQ
  unfold minX at hz
  split at hz
  · obtain ⟨h1, rfl⟩ := guardO_some hz
    obtain ⟨o1, o2, o3⟩ := ordX_ok h1
    obtain ⟨a, xs, rfl, q1, t⟩ := hv.list R.sub
    refine ⟨a, xs, _, _, rfl, .of q1, t.dp R.sub o3, o1, o2, fun i v e1 e2 => ?_⟩
    obtain ⟨d', e3, dv⟩ := t.getV e1
    rw [e2] at e3
    cases e3
    exact Stp.val R dv hQ
  · cases hz
theorem vr_maxX : VR1 Θ .frozen maxX (fun v H Q => rBest Θ.K PySem.W.maxD [v] H Q) := by
  intro G H T ŝ σ v d z Q R hv hz hQ
  unfold maxX at hz
  split at hz
  · obtain ⟨h1, rfl⟩ := guardO_some hz
    obtain ⟨o1, o2, o3⟩ := ordX_ok h1
    obtain ⟨a, xs, rfl, q1, t⟩ := hv.list R.sub
    refine ⟨a, xs, _, _, rfl, .of q1, t.dp R.sub o3, o1, o2, fun i v e1 e2 => ?_⟩
    obtain ⟨d', e3, dv⟩ := t.getV e1
    rw [e2] at e3
    cases e3
    exact Stp.val R dv hQ
  · cases hz
end
section
variable {Λ : Env} {n : Nat} {C : Ck} {E : XK} {X : Cx} {e a b d : Expr} {pos : Pos} {ia ib ic ir : IR}
theorem snd_neg (ha : Snd Λ E X ia a) : Snd Λ E X (.neg ia) (.UnaryOp .USub a pos) := by
  refine Snd.plain (PE.imp (pe_un un_neg ha.pe) fun σ H Q ⟨ŝ, G, T, R, w⟩ => ?_) rfl
  refine ⟨ŝ, G, T, R, (WO.bind.mp w).mono fun p _ k v H1 G1 T1 s1 r1 => ?_⟩
  obtain ⟨d, s⟩ := p
  cases d with
  | int i =>
    have q := (r1.read s1.rep).int
    exact ⟨i, q, k _ H1 G1 T (s1.suffix r1.suffix) ⟨rfl, .int _⟩⟩
  | _ => exact k.elim
theorem Stp.toT {Θ : Th} {σ : L2.St} {ŝ ŝ' : FS} {H G H' G' : Hp} {T T' : List (Addr × D)} {κ : Kd} {v : V} {z : D} (s : Stp Θ σ ŝ H G ŝ' H' G' T') (r : RK Θ κ G' H T T' ŝ' σ v z) : Stp Θ σ ŝ H G ŝ' H' G' T := s.suffix r.suffix
theorem chain_rd {k k' : COp} {r r' : R2} (na : isBor ia = false) (nb : isBor ib = false) (h2 : VR2 (thOf X) .frozen (appCmp k) r) (h2' : VR2 (thOf X) .frozen (appCmp k') r') {κc : Kd} (σ : L2.St) (H : Hp) (Q : VK)
    (h : RdE (thOf X) E .frozen (sem Λ (.chain k k' ia ib ic)) σ H Q) : tChain r r' (RdE (thOf X) E (kd ia) (sem Λ ia)) (RdE (thOf X) E (kd ib) (sem Λ ib)) (RdE (thOf X) E κc (sem Λ ic)) σ H Q := by
  obtain ⟨ŝ, G, T, R, w⟩ := h
  refine ⟨ŝ, G, T, R, (WO.bind.mp w).mono fun p _ kk v H1 G1 T1 s1 r1 => ?_⟩
  refine ⟨p.2, G1, T1, s1.rep, (WO.bind.mp (kk.step s1)).mono fun q _ k2 w' H2 G2 T2 s2 r2 => ?_⟩
  obtain ⟨z, hz, k3⟩ := WO.optb k2
  obtain ⟨t, ht, k4⟩ := WO.optb k3
  have hT := r1.suffix.trans r2.suffix
  have s12 := s1.trans s2
  have la : lateK (kd ia) q.2 p.1 = some p.1 := lateK_nb (kd_nb na) _ _
  have lb : lateK (kd ib) q.2 q.1 = some q.1 := lateK_nb (kd_nb nb) _ _
  refine h2 (s2.rep.suffix hT) (r1.later s2 r2.suffix la) (r2.read s2.rep) hz fun u H3 G3 T3 s3 r3 => ?_
  have e3 := tstD_some ht
  subst e3
  have q3 := (r3.read s3.rep).bool
  refine ⟨t, q3, ?_⟩
  have s13 := (s12.suffix hT).trans (s3.toT r3)
  cases t with
  | false => exact iteF (k4 _ H3 G3 T s13 ⟨rfl, .bl _⟩)
  | true =>
    -- the middle value is read once more, behind the first comparison
    have mid : Rdb (thOf X) G3 H3 w' q.1 := by
      cases hκ : kd ib with
      | frozen => rw [hκ] at r2; exact .inl (r2.2.same s3.ext.gg)
      | bor i => exact absurd hκ (kd_nb nb i)
      | fresh =>
        rw [hκ] at r2
        obtain ⟨a, rfl, rfl, _⟩ := r2
        obtain ⟨gn, ov⟩ := s2.rep.tmp List.mem_cons_self
        obtain ⟨o, ho⟩ := ov.there
        have na' : ¬ Own q.2 σ a := s2.rep.tne List.mem_cons_self
        exact .inr ⟨a, rfl, ov.same s3.ext.gg ((s3.ext.fr a o ho na').trans ho.symm)⟩
    refine iteT ⟨q.2, G3, T, s3.rep.suffix r3.suffix, (WO.bind.mp ((show WO (thOf X) E H1 (Own p.2 σ) (sem Λ ic q.2 >>= _) _ from k4).step (s2.trans s3))).mono fun z' _ k5 w3 H4 G4 T4 s4 r4 => ?_⟩
    obtain ⟨zz, hzz, k6⟩ := WO.optb k5
    have mid' : Rdb (thOf X) G4 H4 w' q.1 := by
      rcases mid with m | ⟨a, rfl, ov⟩
      · exact .inl (m.same s4.ext.gg)
      · cases hκ : kd ib with
        | frozen =>
          rw [hκ] at r2
          exact .inl ((r2.2.same s3.ext.gg).same s4.ext.gg)
        | bor i => exact absurd hκ (kd_nb nb i)
        | fresh =>
          rw [hκ] at r2
          obtain ⟨a', e1, rfl, _⟩ := r2
          cases e1
          obtain ⟨o, ho⟩ := ov.there
          have na' : ¬ Own q.2 σ a := s2.rep.tne List.mem_cons_self
          exact .inr ⟨a, rfl, ov.same s4.ext.gg ((s4.ext.fr a o ho na').trans ho.symm)⟩
    refine h2' (s4.rep.suffix r4.suffix) mid' (r4.read s4.rep) hzz fun u' H5 G5 T5 s5 r5 => ?_
    exact k6 u' H5 G5 T5 ((s13.trans (s4.toT r4)).trans s5) ((r5.back s4.ext).back (s13.ext))
theorem snd_chain {k k' : COp} {op op' : CmpOp} (c : XC Λ n C E X) (ho : copE (cop k) op = true) (ho' : copE (cop k') op' = true) (na : isBor ia = false) (nb : isBor ib = false) (ha : Snd Λ E X ia a) (hb : Snd Λ E X ib b) (hd : Snd Λ E X ic d)
    (m1 : notSetE b = true) (m2 : notSetE d = true) : Snd Λ E X (.chain k k' ia ib ic) (.Compare a [op, op'] [b, d] pos) := by
  have e := copE_eq ho
  subst e
  have e := copE_eq ho'
  subst e
  obtain ⟨r, h1, h2⟩ := cmp_rule c k
  obtain ⟨r', h1', h2'⟩ := cmp_rule c k'
  have hm : lastMarks [cop k, cop k'] [b, d] = false := by
    show behindInMarks (cop k') d = false
    exact mark_of m2
  refine ⟨PE.imp (pe_chain h1 h1' ha.pe hb.pe hd.pe hm) (chain_rd na nb h2 h2'), PT.imp (pt_chain h1 h1' ha.pe hb.pe hd.pe hm) fun σ H Q q => ?_, noBoolOp fun _ _ _ z => by cases z⟩
  exact chain_rd na nb h2 h2' σ H _ (RdT.to q)
/-! ### built-in functions -/
theorem pa_1 (hs : notStar a = true) {t : TE} (ha : PE X a t) : PA X [a] (tCons t tNil) := pa_cons ha pa_nil (star_of hs _ _)
theorem backTo_nil {env : PySem.Env} {pos : Pos} : ((backTo pos (starEach [] env)).any (·.1)) = false := rfl
theorem blt1 {f : Str} {id : String} {r : List V → Hp → VK → Prop} {κ : Kd} {g : D → Option D} {p : Pos} (hg : Gl X f) (hd : (f == ("__debug__" : Str)) = false) (hn : f ≠ "__name__") (hm : X.mg f = none) (hv : bootBuiltins f = some (.builtin id)) (hc : CallR X (.builtin id) r)
    (hr : VR1 (thOf X) κ g (fun v H Q => r [v] H Q)) (hs : notStar a = true) (ha : Snd Λ E X ia a) (hk : kd ir = κ) (hsem : ∀ ŝ, sem Λ ir ŝ = (sem Λ ia ŝ >>= fun p => optO (g p.1) >>= fun r => .ok (r, p.2))) :
    Snd Λ E X ir (.Call (.Name f p) [a] [] pos) := by
  refine Snd.plain ?_ rfl
  have es : sem Λ ir = fun ŝ => sem Λ ia ŝ >>= fun p => optO (g p.1) >>= fun r => .ok (r, p.2) := funext hsem
  rw [hk, es]
  exact PE.imp (pe_callB hc hg hm hv (pa_1 hs ha.pe) hn hd (star_of hs _ _) backTo_nil) fun σ H Q q => rd_op1 hr q
theorem blt1T {f : Str} {id : String} {r : List V → Hp → VK → Prop} {κ : Kd} {g : D → Option D} {p : Pos} (hg : Gl X f) (hd : (f == ("__debug__" : Str)) = false) (hn : f ≠ "__name__") (hm : X.mg f = none) (hv : bootBuiltins f = some (.type id)) (hc : CallR X (.type id) r)
    (hr : VR1 (thOf X) κ g (fun v H Q => r [v] H Q)) (hs : notStar a = true) (ha : Snd Λ E X ia a) (hk : kd ir = κ) (hsem : ∀ ŝ, sem Λ ir ŝ = (sem Λ ia ŝ >>= fun p => optO (g p.1) >>= fun r => .ok (r, p.2))) :
    Snd Λ E X ir (.Call (.Name f p) [a] [] pos) := by
  refine Snd.plain ?_ rfl
  have es : sem Λ ir = fun ŝ => sem Λ ia ŝ >>= fun p => optO (g p.1) >>= fun r => .ok (r, p.2) := funext hsem
  rw [hk, es]
  exact PE.imp (pe_callTy hc hg hm hv (pa_1 hs ha.pe) hn hd (star_of hs _ _) backTo_nil) fun σ H Q q => rd_op1 hr q
theorem snd_b1 {k : B1} {f : Str} {p : Pos} (c : XC Λ n C E X) (hk : b1Ok k = true) (hf : bltOk C f (b1N k) = true) (hs : notStar a = true) (ha : Snd Λ E X ia a) : Snd Λ E X (.b1 k ia) (.Call (.Name f p) [a] [] pos) := by
  obtain ⟨rfl, hg, hd, hn, hm⟩ := bltOk_gl c hf
  have hu := room65 c
  cases k with
  | len => exact blt1 (κ := .frozen) (g := lenD) hg hd hn hm (show bootBuiltins "len" = _ by decide +kernel) (call_len_seq.or len_dct) vr_len hs ha rfl fun _ => rfl
  | abs => exact blt1 (κ := .frozen) (g := absD) hg hd hn hm (show bootBuiltins "abs" = _ by decide +kernel) call_abs vr_abs hs ha rfl fun _ => rfl
  | int => exact blt1T (κ := .frozen) (g := intD) hg hd hn hm (show bootBuiltins "int" = _ by decide +kernel) call_int1 vr_int hs ha rfl fun _ => rfl
  | sum => exact blt1 (κ := .frozen) (g := sumD) hg hd hn hm (show bootBuiltins "sum" = _ by decide +kernel) ((cr_sum c.calm).or (cr_sumT c.calm)) vr_sum hs ha rfl fun _ => rfl
  | all => exact blt1 (κ := .frozen) (g := allD) hg hd hn hm (show bootBuiltins "all" = _ by decide +kernel) (cr_all c.calm) vr_all hs ha rfl fun _ => rfl
  | any => exact blt1 (κ := .frozen) (g := anyD) hg hd hn hm (show bootBuiltins "any" = _ by decide +kernel) (cr_any c.calm) vr_any hs ha rfl fun _ => rfl
  | min => exact blt1 (κ := .frozen) (g := minX) hg hd hn hm (show bootBuiltins "min" = _ by decide +kernel) (cr_minX c.calm hu) vr_minX hs ha rfl fun _ => rfl
  | max => exact blt1 (κ := .frozen) (g := maxX) hg hd hn hm (show bootBuiltins "max" = _ by decide +kernel) (cr_maxX c.calm hu) vr_maxX hs ha rfl fun _ => rfl
  | _ => cases hk
/-- two values -/
theorem rd_pair {κ κa κb : Kd} {g : D → D → Option D} {r : R2} {fa fb : FS → Out (D × FS)} {Θ : Th} {σ : L2.St} {H : Hp} {Q : VK} (hv : VR2 Θ κ g r) (na : ∀ i, κa ≠ .bor i)
    (h : RdE Θ E κ (fun s => fa s >>= fun p => fb p.2 >>= fun q => optO (g p.1 q.1) >>= fun z => .ok (z, q.2)) σ H Q) : tOp r (RdE Θ E κa fa) (RdE Θ E κb fb) σ H Q := by
  refine rd_op2 (κ := κ) hv ?_
  have e : (fun s => fa s >>= fun p => fb p.2 >>= fun q => optO (lateK κa q.2 p.1) >>= fun d => optO (g d q.1) >>= fun z => .ok (z, q.2)) = fun s => fa s >>= fun p => fb p.2 >>= fun q => optO (g p.1 q.1) >>= fun z => (.ok (z, q.2) : Out (D × FS)) := by
    funext s
    simp only [lateK_nb na]
    rfl
  rw [e]
  exact h
theorem snd_b2 {k : B2} {f : Str} {p : Pos} (c : XC Λ n C E X) (hf : bltOk C f (b2N k) = true) (hs : notStar a = true) (hs2 : notStar b = true) (na : isBor ia = false) (ha : Snd Λ E X ia a) (hb : Snd Λ E X ib b) : Snd Λ E X (.b2 k ia ib) (.Call (.Name f p) [a, b] [] pos) := by
  obtain ⟨rfl, hg, hd, hn, hm⟩ := bltOk_gl c hf
  refine Snd.plain ?_ rfl
  have key : ∀ {id : String} {r : List V → Hp → VK → Prop}, bootBuiltins (b2N k) = some (.builtin id) → CallR X (.builtin id) r → VR2 (thOf X) .frozen (app2 k) (fun v w H Q => r [v, w] H Q) → PE X (.Call (.Name (b2N k) p) [a, b] [] pos) (RdE (thOf X) E (kd (.b2 k ia ib)) (sem Λ (.b2 k ia ib))) := fun hv hc hr =>
    PE.imp (pe_callB hc hg hm hv (pa_cons ha.pe (pa_1 hs2 hb.pe) (star_of hs _ _)) hn hd (star_of hs _ _) (by rw [star_of hs2]; rfl)) fun σ H Q q => rd_pair (κa := kd ia) (κb := kd ib) (fa := sem Λ ia) (fb := sem Λ ib) (g := app2 k) hr (kd_nb na) q
  cases k with
  | min =>
    refine key (show bootBuiltins "min" = _ by decide +kernel) (call_min2 c.calm) ?_
    intro G H T ŝ σ v w d e z Q R hv hw hz hQ
    have hz : min2D d e = some z := hz
    unfold min2D at hz
    split at hz
    · cases hz
      rw [hv.int, hw.int]
      exact ⟨_, _, rfl, Stp.val R (.int _) hQ⟩
    · cases hz
  | max =>
    refine key (show bootBuiltins "max" = _ by decide +kernel) (call_max2 c.calm) ?_
    intro G H T ŝ σ v w d e z Q R hv hw hz hQ
    have hz : max2D d e = some z := hz
    unfold max2D at hz
    split at hz
    · cases hz
      rw [hv.int, hw.int]
      exact ⟨_, _, rfl, Stp.val R (.int _) hQ⟩
    · cases hz
theorem snd_isi {t : Ty} {f g : Str} {p p2 : Pos} (c : XC Λ n C E X) (hf : bltOk C f "isinstance" = true) (hf2 : bltOk C g (tyS t) = true) (hs : notStar a = true) (ha : Snd Λ E X ia a) : Snd Λ E X (.isi t ia) (.Call (.Name f p) [a, .Name g p2] [] pos) := by
  obtain ⟨rfl, hg, hd, hn, hm⟩ := bltOk_gl c hf
  obtain ⟨rfl, hg2, hd2, hn2, hm2⟩ := bltOk_gl c hf2
  have hv2 : bootBuiltins (tyS t) = some (.type (tyN t)) := by cases t <;> decide +kernel
  refine Snd.plain (PE.imp (pe_callB call_isi hg hm (show bootBuiltins "isinstance" = _ by decide +kernel) (pa_cons ha.pe (pa_cons (pe_bltn (v := .ty (tyN t)) hg2 hm2 hv2 rfl hn2 hd2) pa_nil) (star_of hs _ _)) hn hd (star_of hs _ _) rfl) fun σ H Q q => ?_) rfl
  refine rd_op1 (κ := .frozen) (κa := kd ia) (g := fun d => (isTy t d).map .bool) (r := fun v H Q => rIsi X.K [v, .ty (tyN t)] H Q) (vr_isi t) ?_
  have e : sem Λ (.isi t ia) = fun s => sem Λ ia s >>= fun p => optO ((isTy t p.1).map .bool) >>= fun z => .ok (z, p.2) := by
    funext s
    show (sem Λ ia s >>= fun p => optO (isTy t p.1) >>= fun r => (.ok (.bool r, p.2) : Out (D × FS))) = _
    congr 1
    funext p
    cases isTy t p.1 <;> rfl
  rw [← e]
  exact q
/-! ### items -/
theorem plainIx_of {b : Expr} (h : plainIx b = true) : PlainIx b := by
  intro o i
  cases b <;> first | rfl | cases h
theorem snd_idx (c : XC Λ n C E X) (hp : plainIx b = true) (ha : Snd Λ E X ia a) (hb : Snd Λ E X ib b) : Snd Λ E X (.idx ia ib) (.Subscript a b pos) := by
  refine Snd.plain (PE.imp (pe_ix ((ix_list.or ix_tup).or (ix_dct (room65 c))) ha.pe hb.pe (plainIx_of hp)) fun σ H Q q => ?_) rfl
  rw [show kd (.idx ia ib) = .frozen from rfl, sem_op2 (Λ := Λ) (ir := .idx ia ib) (ia := ia) (ib := ib) (g := appIdx) fun _ => rfl] at q
  exact rd_op2 vr_ix q
/-! ### displays, arguments -/
structure SndA (Λ : Env) (E : XK) (X : Cx) (ir : IR) (es : List Expr) : Prop where
  pa : PA X es (RdA (thOf X) E (sem Λ ir))
  star : ∀ e ∈ es, notStar e = true
theorem snd_nil : SndA Λ E X .nil [] := ⟨PA.imp pa_nil fun σ H Q ⟨ŝ, G, T, R, w⟩ => w [] H G [] rfl (Stp.refl R) .nil, fun e he => by cases he⟩
theorem snd_cons {es : List Expr} (hs : notStar a = true) (na : isBor ia = false) (ha : Snd Λ E X ia a) (hb : SndA Λ E X ib es) : SndA Λ E X (.cons ia ib) (a :: es) := by
  refine ⟨PA.imp (pa_cons (ha.frozen na) hb.pa (star_of hs _ _)) fun σ H Q ⟨ŝ, G, T, R, w⟩ => ?_, fun e he => ?_⟩
  · refine ⟨ŝ, G, T, R, (WO.bind.mp w).mono fun p _ k v H1 G1 T1 s1 r1 => ?_⟩
    obtain ⟨rfl, dv⟩ := r1
    refine ⟨p.2, G1, _, s1.rep, (WO.bind.mp (k.step s1)).mono fun q _ k2 vs H2 G2 ds e2 s2 t2 => ?_⟩
    obtain ⟨l, hl, k3⟩ := WO.optb k2
    have e3 := tupD_some hl
    rw [e2] at e3
    cases e3
    exact k3 _ H2 G2 _ rfl (s1.trans s2) (.cons (dv.same s2.ext.gg) t2)
  · rcases List.mem_cons.mp he with rfl | he
    · exact hs
    · exact hb.star e he
theorem snd_tup {es : List Expr} {j : Nat} (ha : SndA Λ E X ia es) : Snd Λ E X (.tup ia) (.Tuple es j pos) := by
  refine Snd.plain (PE.imp (pe_tup ha.pa) fun σ H Q ⟨ŝ, G, T, R, w⟩ => ?_) rfl
  refine ⟨ŝ, G, T, R, (WO.bind.mp w).mono fun p _ k vs H1 G1 ds e1 s1 t1 => ?_⟩
  obtain ⟨l, hl, k1⟩ := WO.optb k
  obtain ⟨hz, k2⟩ := WO.ite k1
  have e2 := tupD_some hl
  rw [e1] at e2
  cases e2
  unfold fitsL at hz
  rw [decide_eq_true_eq] at hz
  refine ⟨by rw [t1.len]; exact hz, fun q hq => ?_⟩
  obtain ⟨s2, dv⟩ := Stp.tup s1.rep hq t1
  refine k2 _ _ _ T (s1.trans s2) ⟨rfl, ?_⟩
  show DV _ _ _ p.1
  rw [e1]
  exact dv
theorem snd_lst {es : List Expr} (ha : SndA Λ E X ia es) : Snd Λ E X (.lst ia) (.List es pos) := by
  refine Snd.plain (PE.imp (pe_lst ha.pa) fun σ H Q ⟨ŝ, G, T, R, w⟩ => ?_) rfl
  refine ⟨ŝ, G, T, R, (WO.bind.mp w).mono fun p _ k vs H1 G1 ds e1 s1 t1 => ?_⟩
  obtain ⟨l, hl, k1⟩ := WO.optb k
  obtain ⟨hz, k2⟩ := WO.ite k1
  have e2 := tupD_some hl
  rw [e1] at e2
  cases e2
  unfold fitsL at hz
  rw [decide_eq_true_eq] at hz
  refine ⟨by rw [t1.len]; exact hz, fun q hq => ?_⟩
  have hq0 : H q = none := by
    cases z : H q with
    | none => rfl
    | some o => obtain ⟨o', z'⟩ := s1.ext.th q o z; rw [hq] at z'; cases z'
  exact k2 _ _ _ _ (s1.trans (Stp.made s1.rep hq t1)) ⟨q, rfl, rfl, hq0⟩
theorem snd_emp : Snd Λ E X .emp (.Dict [] [] pos) := by
  refine Snd.plain (PE.imp pe_emp fun σ H Q ⟨ŝ, G, T, R, w⟩ => ?_) rfl
  intro p o hp ent
  exact w _ _ G _ ⟨Ext.made hp, fun _ h => h, R.made (d := .dict []) hp (.dct upd_same ent .nil .nil)⟩ ⟨p, rfl, rfl, hp⟩
end
end Fw

set_option Elab.async false
set_option linter.all false
set_option maxRecDepth 100000
set_option maxHeartbeats 4000000
namespace Fw
open PySem PySem.Spec L2
section
variable {Θ : Th} {G G' H H' : Hp} {T : List (Addr × D)} {ŝ : FS} {σ : L2.St} {O : Addr → Prop}
/-- behind a call that was lent nothing -/
theorem Rep.called (R : Rep Θ G T ŝ σ H) (x : Ext (fun _ => False) H G H' G') (sub : Same G' H') : Rep Θ G' T ŝ σ H' where
  sub := sub
  len := R.len
  val := fun h => by obtain ⟨v, e, dv⟩ := R.val h; exact ⟨v, e, dv.same x.gg⟩
  own := fun h => by
    obtain ⟨a, e, n, ov⟩ := R.own h
    obtain ⟨o, q⟩ := ov.there
    refine ⟨a, e, ?_, ov.same x.gg ((x.fr a o q fun z => z).trans q.symm)⟩
    cases z : G' a with
    | none => rfl
    | some u =>
      rcases x.nw a u z with z | z | z
      · rw [n] at z; cases z
      · rw [q] at z; cases z
      · exact z.elim
  tmp := fun {a d} h => by
    obtain ⟨n, ov⟩ := R.tmp h
    obtain ⟨o, q⟩ := ov.there
    refine ⟨?_, ov.same x.gg ((x.fr a o q fun z => z).trans q.symm)⟩
    cases z : G' a with
    | none => rfl
    | some u =>
      rcases x.nw a u z with z | z | z
      · rw [n] at z; cases z
      · rw [q] at z; cases z
      · exact z.elim
  inj := R.inj
  tnd := R.tnd
  tne := R.tne
/-- .. that was lent the object of the slot i -/
theorem Rep.lent {i : Nat} {a : Addr} {d d' : D} (R : Rep Θ G T ŝ σ H) (h : ŝ[i]? = some (some (.o d))) (es : σ[i]? = some (some (.ref a))) (x : Ext (fun b => b = a) H G H' G') (sub : Same G' H') (ga : G' a = none) (ov' : OV Θ G' H' a d') :
    Rep Θ G' T (ŝ.set i (some (.o d'))) σ H' := by
  have hi := lt_get h
  have own' : ∀ {j : Nat} {e : D}, (ŝ.set i (some (.o d')))[j]? = some (some (.o e)) → ∃ e0, ŝ[j]? = some (some (.o e0)) := fun {j e} hj => by
    rcases set_get hj with ⟨rfl, e1, _⟩ | ⟨hne, e1⟩
    · exact ⟨_, h⟩
    · exact ⟨_, e1⟩
  have stay : ∀ {b : Addr} {e : D}, b ≠ a → G b = none → OV Θ G H b e → G' b = none ∧ OV Θ G' H' b e := fun {b e} hb n ov => by
    obtain ⟨o, q⟩ := ov.there
    refine ⟨?_, ov.same x.gg ((x.fr b o q hb).trans q.symm)⟩
    cases z : G' b with
    | none => rfl
    | some u =>
      rcases x.nw b u z with z | z | z
      · rw [n] at z; cases z
      · rw [q] at z; cases z
      · exact absurd z hb
  refine ⟨sub, by rw [List.length_set]; exact R.len, fun {j e} hj => ?_, fun {j e} hj => ?_, fun {b e} hb => ?_, fun {j k e e' b} h1 h2 h3 h4 => ?_, R.tnd, fun {b e} hb z => ?_⟩
  · rcases set_get hj with ⟨rfl, e1, _⟩ | ⟨hne, e1⟩
    · cases e1
    · obtain ⟨v, e2, dv⟩ := R.val e1; exact ⟨v, e2, dv.same x.gg⟩
  · rcases set_get hj with ⟨rfl, e1, _⟩ | ⟨hne, e1⟩
    · cases e1; exact ⟨a, es, ga, ov'⟩
    · obtain ⟨b, e2, n2, v2⟩ := R.own e1
      have hb : b ≠ a := fun z => hne (R.inj h e1 es (z ▸ e2))
      obtain ⟨q1, q2⟩ := stay hb n2 v2
      exact ⟨b, e2, q1, q2⟩
  · obtain ⟨n1, v1⟩ := R.tmp hb
    have hb' : b ≠ a := fun z => R.tne hb ⟨i, d, h, z ▸ es⟩
    exact stay hb' n1 v1
  · obtain ⟨_, q1⟩ := own' h1
    obtain ⟨_, q2⟩ := own' h2
    exact R.inj q1 q2 h3 h4
  · obtain ⟨j, e', z1, z2⟩ := z
    obtain ⟨_, q1⟩ := own' z1
    exact R.tne hb ⟨j, _, q1, z2⟩
/-- a new object that a call handed back -/
theorem Rep.given {p : Addr} {d : D} (R : Rep Θ G' T ŝ σ H') (R0 : ∀ a, Own ŝ σ a ∨ (∃ e, (a, e) ∈ T) → ∃ o, H a = some o) (hp : H p = none) (gp : G' p = none) (ov : OV Θ G' H' p d) : Rep Θ G' ((p, d) :: T) ŝ σ H' := by
  refine ⟨R.sub, R.len, R.val, R.own, fun {a e} h => ?_, R.inj, ?_, fun {a e} h => ?_⟩
  · rcases List.mem_cons.mp h with e | h
    · cases e; exact ⟨gp, ov⟩
    · exact R.tmp h
  · refine List.nodup_cons.mpr ⟨fun h => ?_, R.tnd⟩
    obtain ⟨⟨b, e⟩, hm, rfl⟩ := List.mem_map.mp h
    obtain ⟨u, q⟩ := R0 b (.inr ⟨e, hm⟩)
    rw [show H b = none from hp] at q; cases q
  · rcases List.mem_cons.mp h with e | h
    · cases e
      intro z
      obtain ⟨u, q⟩ := R0 _ (.inl z)
      rw [hp] at q; cases q
    · exact R.tne h
theorem Rep.theres (R : Rep Θ G T ŝ σ H) : ∀ a, Own ŝ σ a ∨ (∃ e, (a, e) ∈ T) → ∃ o, H a = some o := fun a h => by
  rcases h with h | ⟨e, h⟩
  · exact R.ownH h
  · exact (R.tmp h).2.there
theorem readO_some {i : Nat} {d : D} (h : readO ŝ i = some d) : ŝ[i]? = some (some (.o d)) := by
  unfold readO at h
  split at h
  · cases h; assumption
  · cases h
end
section
variable {Λ : Env} {n : Nat} {C : Ck} {E : XK} {X : Cx} {e a b d : Expr} {pos : Pos} {ia ib ic ir : IR}
theorem star_all {env : PySem.Env} {pos : Pos} : ∀ {es : List Expr}, (∀ e ∈ es, notStar e = true) → ((backTo pos (starEach es env)).any (·.1)) = false
  | [], _ => rfl
  | e :: es, h => by
    rw [star_of (h e List.mem_cons_self)]
    have ih := star_all (env := env) (pos := pos) (es := es) fun x hx => h x (List.mem_cons_of_mem _ hx)
    simpa [backTo] using ih
theorem kd_call {x : Str} {fr : Bool} : kd (.call x fr ia) = if fr = true then .fresh else .frozen := by cases fr <;> rfl
theorem kd_callc {x : Str} {fr : Bool} {i : Nat} : kd (.callc x fr i ia) = if fr = true then .fresh else .frozen := by cases fr <;> rfl
theorem snd_call {x : Str} {fr : Bool} {p : Pos} {es : List Expr} (c : XC Λ n C E X) (hg : gloOk C x = true) (hf : x ∈ C.fns) (ha : SndA Λ E X ia (e :: es)) : Snd Λ E X (.call x fr ia) (.Call (.Name x p) (e :: es) [] pos) := by
  obtain ⟨h1, h2, h3⟩ := gloOk_gl c hg
  refine Snd.plain ?_ rfl
  have es1 := star_of (ha.star e List.mem_cons_self) es X.env
  have es2 := star_all (env := X.env) (pos := pos) fun z hz => ha.star z (List.mem_cons_of_mem _ hz)
  obtain ⟨fd, hx⟩ := Option.isSome_iff_exists.mp (c.hfns x hf)
  obtain ⟨f, fdata, hm, hk, hb, F⟩ := c.glb.tab x fd hx
  refine PE.imp (pe_call F c.room h1 hm hk hb .nil c.pass ha.pa h2 es1 es2) fun σ H Q ⟨ŝ, G, T, R, w⟩ => ?_
  refine ⟨ŝ, G, T, R, (WO.bind.mp w).mono fun q _ k vs H1 G1 ds e1 s1 t1 => ?_⟩
  obtain ⟨l, hl, k1⟩ := WO.optb k
  obtain ⟨fd', hx', k2⟩ := WO.optb k1
  rw [hx] at hx'
  cases hx'
  obtain ⟨⟨l1, l2, l3⟩, k3⟩ := WO.ite k2
  have e2 := tupD_some hl
  rw [e1] at e2
  cases e2
  rw [List.append_nil]
  unfold spF
  refine ⟨by rw [t1.len, l3], G1, .none, ds, s1.rep.sub, ?_⟩
  simp only [l1]
  refine ⟨trivial, t1, ((WO.bind.mp (k3.step s1)).move (fun b o q _ => q) (fun b o z _ => z.elim)).mono fun r _ k4 v H' G' x' sub' res => ?_⟩
  have R' := s1.rep.called x' sub'
  have st : Stp (thOf X) σ q.2 H1 G1 q.2 H' G' T := ⟨x'.mono (fun b o z _ => z.elim), fun _ z => z, R'⟩
  have s2 := s1.trans st
  have k4 : ∀ v H' G' T', Stp (thOf X) σ ŝ H G q.2 H' G' T' → RK (thOf X) (kd (.call x fr ia)) G' H T T' q.2 σ v r.1 → Q v H' := k4
  rw [kd_call] at k4
  cases hfr : fr with
  | false =>
    rw [hfr] at l2 k4
    simp only [l2] at res
    exact k4 v H' G' T s2 ⟨rfl, res⟩
  | true =>
    rw [hfr] at l2 k4
    simp only [l2] at res
    obtain ⟨p, rfl, hp, gp, ov⟩ := res
    have R2 := R'.given s1.rep.theres hp gp ov
    have hp0 : H p = none := by
      cases z : H p with
      | none => rfl
      | some o => obtain ⟨o', z'⟩ := s1.ext.th p o z; rw [hp] at z'; cases z'
    exact k4 _ H' G' _ ⟨s2.ext, s2.own, R2⟩ ⟨p, rfl, rfl, hp0⟩
theorem snd_callc {x y : Str} {fr : Bool} {p p2 : Pos} {i : Nat} {es : List Expr} (c : XC Λ n C E X) (hg : gloOk C x = true) (hf : x ∈ C.fns) (hv : visOk C i y = true) (ha : SndA Λ E X ia es) : Snd Λ E X (.callc x fr i ia) (.Call (.Name x p) (.Name y p2 :: es) [] pos) := by
  obtain ⟨h1, h2, h3⟩ := gloOk_gl c hg
  obtain ⟨v1, v2, v3, v4⟩ := visOk_vis c hv
  refine Snd.plain ?_ rfl
  have es2 := star_all (env := X.env) (pos := pos) ha.star
  obtain ⟨fd, hx⟩ := Option.isSome_iff_exists.mp (c.hfns x hf)
  obtain ⟨f, fdata, hm, hk, hb, F⟩ := c.glb.tab x fd hx
  refine PE.imp (pe_call F c.room h1 hm hk hb .nil c.pass (pa_cons (pe_var v1 v2 v3 v4) ha.pa rfl) h2 rfl es2) fun σ H Q ⟨ŝ, G, T, R, w⟩ => ?_
  obtain ⟨c0, hc0, w⟩ := WO.optb w
  obtain ⟨a, ea, _, _⟩ := R.own (readO_some hc0)
  refine ⟨.ref a, ea, ŝ, G, T, R, (WO.bind.mp w).mono fun q _ k vs H1 G1 ds e1 s1 t1 => ?_⟩
  obtain ⟨l, hl, k1⟩ := WO.optb k
  obtain ⟨fd', hx', k2⟩ := WO.optb k1
  rw [hx] at hx'
  cases hx'
  obtain ⟨cc, hcc, k2⟩ := WO.optb k2
  obtain ⟨⟨l1, l2, l3⟩, k3⟩ := WO.ite k2
  have e2 := tupD_some hl
  rw [e1] at e2
  cases e2
  have hcs := readO_some hcc
  obtain ⟨a', ea', gn, ov⟩ := s1.rep.own hcs
  rw [ea] at ea'
  cases ea'
  rw [List.append_nil]
  unfold spF
  refine ⟨by rw [List.length_cons, t1.len, l3], G1, cc, ds, s1.rep.sub, ?_⟩
  simp only [l1]
  have owna0 : Own q.2 σ a := ⟨i, cc, hcs, ea⟩
  refine ⟨a, vs, rfl, gn, ov, t1, ((WO.bind.mp (k3.step s1)).move (fun b o q _ => q) (fun b o z _ => (show b = a from z) ▸ owna0)).mono fun r _ k4 v H' G' x' sub' ga ov' res => ?_⟩
  have R' := s1.rep.lent hcs ea x' sub' ga ov'
  have owna : Own q.2 σ a := ⟨i, cc, hcs, ea⟩
  have st : Stp (thOf X) σ q.2 H1 G1 (q.2.set i (some (.o r.2))) H' G' T := ⟨x'.mono (fun b o z _ => z ▸ owna), fun _ z => Own.of_set_o hcs z, R'⟩
  have s2 := s1.trans st
  have k4 : ∀ v H' G' T', Stp (thOf X) σ ŝ H G (q.2.set i (some (.o r.2))) H' G' T' → RK (thOf X) (kd (.callc x fr i ia)) G' H T T' (q.2.set i (some (.o r.2))) σ v r.1 → Q v H' := k4
  rw [kd_callc] at k4
  cases hfr : fr with
  | false =>
    rw [hfr] at l2 k4
    simp only [l2] at res
    exact k4 v H' G' T s2 ⟨rfl, res⟩
  | true =>
    rw [hfr] at l2 k4
    simp only [l2] at res
    obtain ⟨p, rfl, _, hp, gp, ov2⟩ := res
    have R2 := R'.given (fun b z => s1.rep.theres b (z.elim (fun z => .inl (Own.of_set_o hcs z)) .inr)) hp gp ov2
    have hp0 : H p = none := by
      cases z : H p with
      | none => rfl
      | some o => obtain ⟨o', z'⟩ := s1.ext.th p o z; rw [hp] at z'; cases z'
    exact k4 _ H' G' _ ⟨s2.ext, s2.own, R2⟩ ⟨p, rfl, rfl, hp0⟩
end
end Fw

set_option Elab.async false
set_option linter.all false
set_option maxRecDepth 100000
set_option maxHeartbeats 4000000
namespace Fw
open PySem PySem.Spec L2

/-! ### targets -/
def patLen : Pat → Nat
  | .cons _ q => patLen q + 1
  | _ => 0
mutual
def gPat (K : PySem.W.Frag) : Pat → TG
  | .nm i => gName i
  | .tp p => gTup K (patLen p) (gPats K p)
  | _ => fun _ _ _ _ => False
def gPats (K : PySem.W.Frag) : Pat → TGs
  | .cons p q => gCons (gPat K p) (gPats K q)
  | _ => gNil
end
section
variable {Λ : Env} {n : Nat} {C : Ck} {E : XK} {X : Cx}
theorem asg_star {e : Expr} (h : notStar e = true) (es : List Expr) (env : PySem.Env) : assignEach (e :: es) env = (false, assign e env) :: assignEach es env := by
  cases e <;> first | rfl | cases h
mutual
theorem pg_of (hN : X.N = C.N) (nd : X.N.Nodup) (hsc : X.env.scope = C.sc) (hfn : X.fn = C.fn) (calm : X.calm = true) : ∀ (p : Pat) (e : Expr), chkP C p e = true → PG X e (gPat X.K p)
  | .nm i, e, h => by
    cases e with
    | Name x pos =>
      have h : locOk C i x = true := by simpa [chkP] using h
      unfold locOk at h
      simp only [Bool.and_eq_true, decide_eq_true_eq] at h
      obtain ⟨⟨h1, _⟩, h2⟩ := h
      have hl : Loc X.env.scope x ∧ (X.fn x = true ∨ X.env.scope.names.lookup x = some .local) := by
        rw [hsc]
        split at h2
        · rename_i z; exact ⟨.inl z, .inr z⟩
        · rename_i z; exact ⟨.inr z, .inl (by rw [hfn]; exact h2)⟩
        · cases h2
      exact pg_name nd (by rw [hN]; exact h1) hl.1 hl.2
    | _ => simp [chkP] at h
  | .tp p, e, h => by
    cases e with
    | Tuple es k pos =>
      have h : chkPs C p es = true := by simpa [chkP] using h
      obtain ⟨h1, h2, h3⟩ := pgs_of hN nd hsc hfn calm p es h
      exact pg_tup calm h1 h2 h3
    | _ => simp [chkP] at h
  | .nil, e, h => by simp [chkP] at h
  | .cons _ _, e, h => by simp [chkP] at h
theorem pgs_of (hN : X.N = C.N) (nd : X.N.Nodup) (hsc : X.env.scope = C.sc) (hfn : X.fn = C.fn) (calm : X.calm = true) : ∀ (p : Pat) (es : List Expr), chkPs C p es = true → PGs X es (gPats X.K p) ∧ (assignEach es X.env).length = patLen p ∧ (assignEach es X.env).findIdx? (·.1) = none
  | .nil, es, h => by
    cases es with
    | nil => exact ⟨pgs_nil, rfl, rfl⟩
    | cons => simp [chkPs] at h
  | .cons p q, es, h => by
    cases es with
    | nil => simp [chkPs] at h
    | cons e es =>
      simp only [chkPs, Bool.and_eq_true] at h
      obtain ⟨⟨h1, h2⟩, h3⟩ := h
      have a := pg_of hN nd hsc hfn calm p e h2
      obtain ⟨b1, b2, b3⟩ := pgs_of hN nd hsc hfn calm q es h3
      have es1 := asg_star h1 es X.env
      refine ⟨pgs_cons a b1 (by rw [es1]; rfl), ?_, ?_⟩
      · rw [es1, List.length_cons, b2]; rfl
      · rw [es1, List.findIdx?_cons, b3]; rfl
  | .nm _, es, h => by simp [chkPs] at h
  | .tp _, es, h => by simp [chkPs] at h
end
end
section
variable {Θ : Th} {T : List (Addr × D)}
mutual
theorem bind_ok' : ∀ (p : Pat) {d : D} {ŝ ŝ' : FS} {σ : L2.St} {G H : Hp} {x : V} {Q : L2.St → Hp → Prop}, bindP p d ŝ = some ŝ' → Rep Θ G T ŝ σ H → DV Θ G x d →
    (∀ σ', Rep Θ G T ŝ' σ' H → (∀ b, Own ŝ' σ' b → Own ŝ σ b) → σ'.length = σ.length → (∀ j, j ∉ patSlots p → σ'[j]? = σ[j]?) → Q σ' H) → gPat Θ.K p x σ H Q
  | .nm i, d, ŝ, ŝ', σ, G, H, x, Q, h, R, dv, k => by
    simp only [bindP, Option.some.injEq] at h
    subst h
    refine k _ (R.setv dv) (fun b => Own.of_setv) (by rw [List.length_set]) fun j hj => ?_
    rw [get_set_ne]
    intro z
    subst z
    exact hj (by simp [patSlots])
  | .tp p, d, ŝ, ŝ', σ, G, H, x, Q, h, R, dv, k => by
    cases d with
    | tuple ds =>
      have h : bindPs p ds ŝ = some ŝ' := by simpa [bindP] using h
      cases dv with
      | tup hq t => exact ⟨_, _, rfl, sqT_same R.sub hq, by rw [t.len]; exact bind_len p h, binds_ok p h R t k⟩
    | _ => simp [bindP] at h
  | .nil, _, _, _, _, _, _, _, _, h, _, _, _ => by simp [bindP] at h
  | .cons _ _, _, _, _, _, _, _, _, _, h, _, _, _ => by simp [bindP] at h
theorem binds_ok : ∀ (p : Pat) {ds : List D} {ŝ ŝ' : FS} {σ : L2.St} {G H : Hp} {xs : List V} {Q : L2.St → Hp → Prop}, bindPs p ds ŝ = some ŝ' → Rep Θ G T ŝ σ H → DVs Θ G xs ds →
    (∀ σ', Rep Θ G T ŝ' σ' H → (∀ b, Own ŝ' σ' b → Own ŝ σ b) → σ'.length = σ.length → (∀ j, j ∉ patSlots p → σ'[j]? = σ[j]?) → Q σ' H) → gPats Θ.K p xs σ H Q
  | .nil, ds, ŝ, ŝ', σ, G, H, xs, Q, h, R, t, k => by
    cases ds with
    | nil =>
      simp only [bindPs, Option.some.injEq] at h
      subst h
      cases t
      exact ⟨rfl, k _ R (fun _ z => z) rfl fun _ _ => rfl⟩
    | cons => simp [bindPs] at h
  | .cons p q, ds, ŝ, ŝ', σ, G, H, xs, Q, h, R, t, k => by
    cases ds with
    | nil => simp [bindPs] at h
    | cons d ds =>
      simp only [bindPs] at h
      obtain ⟨s1, h1, h2⟩ := Option.bind_eq_some_iff.mp h
      cases t with
      | cons t1 t2 =>
        refine ⟨_, _, rfl, bind_ok' p h1 R t1 fun σ1 R1 o1 l1 e1 => binds_ok q h2 R1 t2 fun σ2 R2 o2 l2 e2 => ?_⟩
        refine k σ2 R2 (fun b z => o1 b (o2 b z)) (l2.trans l1) fun j hj => ?_
        simp only [patSlots, List.mem_append, not_or] at hj
        exact (e2 j hj.2).trans (e1 j hj.1)
  | .nm _, _, _, _, _, _, _, _, _, h, _, _, _ => by simp [bindPs] at h
  | .tp _, _, _, _, _, _, _, _, _, h, _, _, _ => by simp [bindPs] at h
theorem bind_len : ∀ (p : Pat) {ds : List D} {ŝ ŝ' : FS}, bindPs p ds ŝ = some ŝ' → ds.length = patLen p
  | .nil, ds, ŝ, ŝ', h => by
    cases ds with
    | nil => rfl
    | cons => simp [bindPs] at h
  | .cons p q, ds, ŝ, ŝ', h => by
    cases ds with
    | nil => simp [bindPs] at h
    | cons d ds =>
      simp only [bindPs] at h
      obtain ⟨s1, h1, h2⟩ := Option.bind_eq_some_iff.mp h
      rw [List.length_cons, bind_len q h2]
      rfl
  | .nm _, _, _, _, h => by simp [bindPs] at h
  | .tp _, _, _, _, h => by simp [bindPs] at h
end
end

/-! ### what is walked -/
/-- an item: as it lies, in a new tuple, in a new tuple behind others -/
def YI (Θ : Th) (G0 : Hp) (x : V) (d : D) (H H' : Hp) : Prop := (H' = H ∧ DV Θ G0 x d) ∨ (∃ p xs ds, H p = none ∧ H' = upd H p (.tup xs) ∧ x = .ref p ∧ d = .tuple ds ∧ DVs Θ G0 xs ds) ∨
  ∃ p q xs ds ys es, H p = none ∧ H q = none ∧ p ≠ q ∧ H' = upd (upd H p (.tup xs)) q (.tup (ys ++ [.ref p])) ∧ x = .ref q ∧ d = .tuple (es ++ [.tuple ds]) ∧ DVs Θ G0 xs ds ∧ DVs Θ G0 ys es
theorem YI.item {Θ : Th} {G0 G H H' : Hp} {T : List (Addr × D)} {ŝ : FS} {σ : L2.St} {x : V} {d : D} (h : YI Θ G0 x d H H') (R : Rep Θ G T ŝ σ H) (gg : Same G0 G) : ∃ G2, Stp Θ σ ŝ H G ŝ H' G2 T ∧ DV Θ G2 x d := by
  rcases h with ⟨rfl, dv⟩ | ⟨p, xs, ds, hp, rfl, rfl, rfl, t⟩ | ⟨p, q, xs, ds, ys, es, hp, hq, hne, rfl, rfl, rfl, t, t2⟩
  · exact ⟨G, Stp.refl R, dv.same gg⟩
  · obtain ⟨s, dv⟩ := Stp.tup R hp (t.same gg)
    exact ⟨_, s, dv⟩
  · obtain ⟨s, dv⟩ := Stp.tup R hp (t.same gg)
    have hq' : upd H p (.tup xs) q = none := by rw [upd_ne hne.symm]; exact hq
    obtain ⟨s2, dv2⟩ := Stp.tup s.rep hq' (((t2.same gg).same s.ext.gg).append (.cons dv .nil))
    exact ⟨_, s.trans s2, dv2⟩
def YD (Θ : Th) (G0 : Hp) (l : List D) : Nat → Hp → V → Hp → Prop := fun i H x H' => ∃ d, l[i]? = some d ∧ YI Θ G0 x d H H'
def RdI (Θ : Th) (E : XK) (f : FS → Out (D × FS)) : TI := fun σ H R => ∃ ŝ G T, Rep Θ G T ŝ σ H ∧ WO Θ E H (Own ŝ σ) (f ŝ) fun p =>
  ∃ l, p.1 = .list l ∧ ∀ J H' G', Stp Θ σ ŝ H G p.2 H' G' T → Walk J l.length (fun Hx => Same G' Hx) (YD Θ G' l) → R J H'
theorem PI.imp {X : Cx} {tg e : Expr} {t t' : TI} (h : PI X tg e t) (k : ∀ σ H R, t' σ H R → t σ H R) : PI X tg e t' := ⟨fun pins s σ H R I q => h.run pins s σ H R I (k σ H R q)⟩
section
variable {Λ : Env} {n : Nat} {C : Ck} {E : XK} {X : Cx} {tg a b e : Expr} {pos : Pos} {ia ib ir : IR}
theorem pi_seq {tl : TE} (hl : PE X e tl) : PI X tg e (fun σ H R => tl σ H fun x H1 => ∃ a, x = .ref a ∧ (((∃ xs, SqL X.K H1 a xs) ∧ R (Itl X.K a) H1) ∨ ((∃ xs, SqT X.K H1 a xs) ∧ R (Itt X.K a) H1))) := by
  refine ⟨fun pins s σ H R I h => ?_⟩
  refine thn (hl.run pins s σ H _ I h) fun v s1 ⟨x, H1, I1, r1, q1⟩ => ?_
  obtain ⟨a, e, q⟩ := q1
  subst e
  cases r1
  rcases q with ⟨⟨xs, hq⟩, q⟩ | ⟨⟨xs, hq⟩, q⟩
  · obtain ⟨its, rv, p, hz⟩ := I1.list hq
    refine wpAny_pyIter_list p.isList ?_
    refine ⟨s1.heap.objs.size, [s1.heap.objs.size], _, _, H1, rfl, I1.kept (t' := s1.toks) fun b o e => Heap.get?_push_of_some _ e, turn_list a _, ⟨_, Heap.get?_push_size _ rfl, rfl, rfl⟩, fun b hb => ?_, q⟩
    have e : b = s1.heap.objs.size := by simpa using hb
    subst e
    exact I1.fpOk (Nat.le_refl _) (I1.hok.fresh (Nat.le_refl _))
  · obtain ⟨its, rv, p, hz⟩ := I1.tuple hq
    refine wpAny_pyIter_tuple (show s1.heap.IsTuple a its.toArray from p) ?_
    refine ⟨s1.heap.objs.size, [s1.heap.objs.size], _, _, H1, rfl, I1.kept (t' := s1.toks) fun b o e => Heap.get?_push_of_some _ e, turn_tuple a _, ⟨_, Heap.get?_push_size _ rfl, rfl, rfl⟩, fun b hb => ?_, q⟩
    have e : b = s1.heap.objs.size := by simpa using hb
    subst e
    exact I1.fpOk (Nat.le_refl _) (I1.hok.fresh (Nat.le_refl _))
theorem yat {Θ : Th} {G : Hp} {xs : List V} {l : List D} (t : DVs Θ G xs l) {i : Nat} {H H' : Hp} {x : V} (h : YAt xs i H x H') : YD Θ G l i H x H' := by
  obtain ⟨e, hx⟩ := h
  obtain ⟨d, hd, dv⟩ := t.getV hx
  exact ⟨d, hd, .inl ⟨e, dv⟩⟩
structure SndI (Λ : Env) (E : XK) (X : Cx) (tg : Expr) (ir : IR) (e : Expr) : Prop where
  pi : PI X tg e (RdI (thOf X) E (sem Λ ir))
theorem snd_iseq (na : isBor ia = false) (ha : Snd Λ E X ia e) : SndI Λ E X tg (.iseq ia) e := by
  refine ⟨PI.imp (pi_seq (ha.frozen na)) fun σ H R ⟨ŝ, G, T, R0, w⟩ => ?_⟩
  refine ⟨ŝ, G, T, R0, (WO.bind.mp w).mono fun p _ k v H1 G1 T1 s1 r1 => ?_⟩
  obtain ⟨l, hl, l', e', k⟩ := WO.optb k
  cases e'
  obtain ⟨rfl, dv⟩ := r1
  unfold seqD at hl
  split at hl
  · rename_i m hp
    cases hl
    rw [hp] at dv
    cases dv with
    | lst hq t =>
      rename_i a xs
      refine ⟨a, rfl, .inl ⟨⟨xs, .of (s1.rep.sub _ _ hq)⟩, k _ H1 G1 s1 ?_⟩⟩
      rw [← t.len]
      exact (walk_list (K := X.K) (a := a) (xs := xs)).mono (fun H h => .of (h _ _ hq)) fun i H x H' _ _ y => yat t y
  · rename_i m hp
    cases hl
    rw [hp] at dv
    cases dv with
    | tup hq t =>
      rename_i a xs
      refine ⟨a, rfl, .inr ⟨⟨xs, sqT_same s1.rep.sub hq⟩, k _ H1 G1 s1 ?_⟩⟩
      rw [← t.len]
      exact (walk_tup (K := X.K) (a := a) (xs := xs)).mono (fun H h => sqT_same h hq) fun i H x H' _ _ y => yat t y
  · cases hl
theorem rng_get {lo hi : Int} {i : Nat} (h : i < (hi - lo).toNat) : (rngL lo hi)[i]? = some (.int (lo + i)) := by
  unfold rngL
  rw [List.getElem?_map, List.getElem?_range h]
  rfl
theorem rng_len {lo hi : Int} : (rngL lo hi).length = (hi - lo).toNat := by
  unfold rngL
  rw [List.length_map, List.length_range]
theorem walk_rng {Θ : Th} {G : Hp} {lo hi : Int} : Walk (Itr lo (hi - lo).toNat) (rngL lo hi).length (fun Hx => Same G Hx) (YD Θ G (rngL lo hi)) := by
  rw [rng_len]
  refine (walk_range (lo := lo) (n := (hi - lo).toNat)).mono (fun _ _ => trivial) fun i H x H' hi _ y => ?_
  obtain ⟨e, rfl⟩ := y
  exact ⟨_, rng_get hi, .inl ⟨e, .int _⟩⟩
theorem rngOk_of {i : Int} (h : rngOk i = true) : -(2 ^ 62) ≤ i ∧ i < 2 ^ 62 := by
  unfold rngOk at h
  rw [decide_eq_true_eq] at h
  exact h
theorem snd_irng {f : Str} {p : Pos} (c : XC Λ n C E X) (hf : bltOk C f "range" = true) (hs : notStar a = true) (na : isBor ia = false) (ha : Snd Λ E X ia a) : SndI Λ E X tg (.irng ia) (.Call (.Name f p) [a] [] pos) := by
  obtain ⟨rfl, hg, hd, hn, hm⟩ := bltOk_gl c hf
  refine ⟨PI.imp (pi_range1 hg hm (pa_1 hs (ha.frozen na)) (star_of hs _ _)) fun σ H R ⟨ŝ, G, T, R0, w⟩ => ?_⟩
  refine ⟨ŝ, G, T, R0, (WO.bind.mp w).mono fun p _ k v H1 G1 T1 s1 r1 => ?_⟩
  obtain ⟨d, s⟩ := p
  obtain ⟨rfl, dv⟩ := r1
  cases d with
  | int j =>
    obtain ⟨h1, l, e', k⟩ := WO.ite k
    cases e'
    cases dv
    obtain ⟨b1, b2⟩ := rngOk_of h1
    refine ⟨j, rfl, b1, b2, ?_⟩
    have e : j.toNat = (j - 0).toNat := by rw [Int.sub_zero]
    rw [e]
    exact k _ H1 G1 s1 walk_rng
  | _ => exact k.elim
theorem snd_irng2 {f : Str} {p : Pos} (c : XC Λ n C E X) (hf : bltOk C f "range" = true) (hs : notStar a = true) (hs2 : notStar b = true) (na : isBor ia = false) (nb : isBor ib = false) (ha : Snd Λ E X ia a) (hb : Snd Λ E X ib b) : SndI Λ E X tg (.irng2 ia ib) (.Call (.Name f p) [a, b] [] pos) := by
  obtain ⟨rfl, hg, hd, hn, hm⟩ := bltOk_gl c hf
  refine ⟨PI.imp (pi_range2 hg hm (pa_cons (ha.frozen na) (pa_1 hs2 (hb.frozen nb)) (star_of hs _ _)) (by rw [star_of hs, star_of hs2]; rfl) (by rw [star_of hs2]; rfl)) fun σ H R ⟨ŝ, G, T, R0, w⟩ => ?_⟩
  refine ⟨ŝ, G, T, R0, (WO.bind.mp w).mono fun p _ k v H1 G1 T1 s1 r1 => ?_⟩
  obtain ⟨rfl, dv⟩ := r1
  refine ⟨p.2, G1, _, s1.rep, (WO.bind.mp (k.step s1)).mono fun q _ k2 v2 H2 G2 T2 s2 r2 => ?_⟩
  obtain ⟨rfl, dv2⟩ := r2
  obtain ⟨d, s⟩ := p
  obtain ⟨d2, s'⟩ := q
  cases d with
  | int i =>
    cases d2 with
    | int j =>
      obtain ⟨h1, l, e', k⟩ := WO.ite k2
      cases e'
      cases dv
      cases dv2
      rw [Bool.and_eq_true] at h1
      obtain ⟨b1, b2⟩ := rngOk_of h1.1
      obtain ⟨b3, b4⟩ := rngOk_of h1.2
      exact ⟨i, j, rfl, ⟨b1, b2, b3, b4⟩, k _ H2 G2 (s1.trans s2) walk_rng⟩
    | _ => exact k2.elim
  | _ => exact k2.elim
end
end Fw

set_option Elab.async false
set_option linter.all false
set_option maxRecDepth 100000
set_option maxHeartbeats 4000000
namespace Fw
open PySem PySem.Spec L2

/-! ### comprehensions -/
section
variable {Θ : Th} {G G' H H' : Hp} {T : List (Addr × D)} {ŝ ŝ1 : FS} {σ : L2.St} {a : Addr} {d d' : D} {vs : List Nat}
theorem Rep.tmut {o : HO} (R : Rep Θ G ((a, d) :: T) ŝ σ H) (v' : OV Θ G (upd H a o) a d') : Rep Θ G ((a, d') :: T) ŝ σ (upd H a o) := by
  obtain ⟨n, _⟩ := R.tmp List.mem_cons_self
  have ndT := List.nodup_cons.mp R.tnd
  refine ⟨fun b u e => ?_, R.len, R.val, fun {j e} hj => ?_, fun {b e} hb => ?_, R.inj, R.tnd, fun {b e} hb => ?_⟩
  · have hb : b ≠ a := fun z => by rw [z, n] at e; cases e
    rw [upd_ne hb]; exact R.sub _ _ e
  · obtain ⟨b, e2, n2, v2⟩ := R.own hj
    have hb : b ≠ a := fun z => R.tne List.mem_cons_self ⟨j, e, hj, z ▸ e2⟩
    exact ⟨b, e2, n2, v2.same (Same.refl _) (by rw [upd_ne hb])⟩
  · rcases List.mem_cons.mp hb with e0 | hb
    · cases e0; exact ⟨n, v'⟩
    · obtain ⟨n1, v1⟩ := R.tmp (List.mem_cons_of_mem _ hb)
      have hb' : b ≠ a := fun z => ndT.1 (List.mem_map.mpr ⟨_, hb, z⟩)
      exact ⟨n1, v1.same (Same.refl _) (by rw [upd_ne hb'])⟩
  · rcases List.mem_cons.mp hb with e0 | hb
    · cases e0; exact R.tne List.mem_cons_self
    · exact R.tne (List.mem_cons_of_mem _ hb)
theorem Ext.tmut {O : Addr → Prop} {H0 G0 : Hp} {o : HO} (x : Ext O H0 G0 H G) (hn : H0 a = none) : Ext O H0 G0 (upd H a o) G where
  gg := x.gg
  fr := fun b u q nb => by rw [upd_ne (ne_of_none q hn)]; exact x.fr b u q nb
  nw := x.nw
  th := fun b u q => by
    obtain ⟨o', q'⟩ := x.th b u q
    exact ⟨o', by rw [upd_ne (ne_of_none q hn)]; exact q'⟩
theorem wipeF_len : ∀ vs : List Nat, (wipeF ŝ vs).length = ŝ.length
  | [] => rfl
  | v :: vs => by unfold wipeF; rw [List.length_set, wipeF_len vs]
theorem wipeF_some {i : Nat} {c : Cell} : ∀ {vs : List Nat}, (wipeF ŝ vs)[i]? = some (some c) → ŝ[i]? = some (some c) ∧ i ∉ vs
  | [], h => ⟨h, by simp⟩
  | v :: vs, h => by
    unfold wipeF at h
    rcases set_get h with ⟨_, e, _⟩ | ⟨hne, e⟩
    · cases e
    · obtain ⟨h1, h2⟩ := wipeF_some e
      exact ⟨h1, by simp only [List.mem_cons, not_or]; exact ⟨fun z => hne z.symm, h2⟩⟩
theorem wipe_get {i : Nat} : ∀ {vs : List Nat}, i ∉ vs → (wipe σ vs)[i]? = σ[i]? := fun h => wipe_out h
theorem wipeF_out {i : Nat} : ∀ {vs : List Nat}, i ∉ vs → (wipeF ŝ vs)[i]? = ŝ[i]?
  | [], _ => rfl
  | v :: vs, h => by
    have h1 : v ≠ i := fun e => h (by rw [e]; exact List.mem_cons_self)
    have h2 : i ∉ vs := fun m => h (List.mem_cons_of_mem _ m)
    unfold wipeF
    rw [List.getElem?_set_ne h1]
    exact wipeF_out h2
theorem Rep.wipe (R : Rep Θ G T ŝ σ H) : Rep Θ G T (wipeF ŝ vs) (L2.wipe σ vs) H := by
  have k : ∀ {j : Nat} {c : Cell}, (wipeF ŝ vs)[j]? = some (some c) → ŝ[j]? = some (some c) ∧ (L2.wipe σ vs)[j]? = σ[j]? := fun hj => by
    obtain ⟨h1, h2⟩ := wipeF_some hj
    exact ⟨h1, wipe_out h2⟩
  refine ⟨R.sub, by rw [wipeF_len, wipe_length]; exact R.len, fun h => ?_, fun h => ?_, R.tmp, fun h1 h2 h3 h4 => ?_, R.tnd, fun hb ⟨j, e', z1, z2⟩ => ?_⟩
  · obtain ⟨q1, q2⟩ := k h
    rw [q2]; exact R.val q1
  · obtain ⟨q1, q2⟩ := k h
    rw [q2]; exact R.own q1
  · obtain ⟨q1, q2⟩ := k h1
    obtain ⟨q3, q4⟩ := k h2
    rw [q2] at h3; rw [q4] at h4
    exact R.inj q1 q3 h3 h4
  · obtain ⟨q1, q2⟩ := k z1
    rw [q2] at z2
    exact R.tne hb ⟨j, e', q1, z2⟩
theorem Own.of_wipe {b : Addr} (h : Own (wipeF ŝ vs) (L2.wipe σ vs) b) : Own ŝ σ b := by
  obtain ⟨j, e, z1, z2⟩ := h
  obtain ⟨h1, h2⟩ := wipeF_some z1
  rw [wipe_out h2] at z2
  exact ⟨j, e, h1, z2⟩
theorem wipe_eq {σ' : L2.St} (hl : σ'.length = σ.length) (h : ∀ j, j ∉ vs → σ'[j]? = σ[j]?) : L2.wipe σ' vs = L2.wipe σ vs := by
  have inn : ∀ {vs : List Nat} {σ : L2.St} {j : Nat}, j ∈ vs → (L2.wipe σ vs)[j]? = if j < σ.length then some none else none := by
    intro vs
    induction vs with
    | nil => intro σ j h; cases h
    | cons v vs ih =>
      intro σ j h
      unfold L2.wipe
      by_cases e : v = j
      · subst e
        by_cases hl : v < σ.length
        · rw [if_pos hl, List.getElem?_set_self (by rw [wipe_length]; exact hl)]
        · rw [if_neg hl, List.getElem?_eq_none (by rw [List.length_set, wipe_length]; omega)]
      · rw [List.getElem?_set_ne e]
        rcases List.mem_cons.mp h with z | z
        · exact absurd z.symm e
        · exact ih z
  refine List.ext_getElem? fun j => ?_
  by_cases e : j ∈ vs
  · rw [inn e, inn e, hl]
  · rw [wipe_out e, wipe_out e, h j e]
theorem backF_len : ∀ vs : List Nat, (backF ŝ1 ŝ vs).length = ŝ.length
  | [] => rfl
  | v :: vs => by unfold backF; rw [List.length_set, backF_len vs]
theorem backF_some {i : Nat} {c : Cell} : ∀ {vs : List Nat}, (backF ŝ1 ŝ vs)[i]? = some (some c) → (i ∈ vs ∧ ŝ1[i]? = some (some c)) ∨ (i ∉ vs ∧ ŝ[i]? = some (some c))
  | [], h => .inr ⟨by simp, h⟩
  | v :: vs, h => by
    unfold backF at h
    rcases set_get h with ⟨rfl, e, _⟩ | ⟨hne, e⟩
    · refine .inl ⟨List.mem_cons_self, ?_⟩
      rw [List.getD_eq_getElem?_getD] at e
      cases z : ŝ1[v]? with
      | none => rw [z] at e; cases e
      | some y => rw [z] at e; exact congrArg some (show some c = y from e).symm
    · rcases backF_some e with ⟨h1, h2⟩ | ⟨h1, h2⟩
      · exact .inl ⟨List.mem_cons_of_mem _ h1, h2⟩
      · exact .inr ⟨by simp only [List.mem_cons, not_or]; exact ⟨fun z => hne z.symm, h1⟩, h2⟩
theorem noneOwn_at {i : Nat} {e : D} (h : noneOwn ŝ1 vs = true) (hi : i ∈ vs) : ŝ1[i]? ≠ some (some (.o e)) := by
  intro z
  have q := List.all_eq_true.mp h i hi
  rw [z] at q
  cases q
theorem Rep.back {T1 : List (Addr × D)} {H1 G1 : Hp} (R : Rep Θ G T (wipeF ŝ vs) (L2.wipe σ vs) H) (R1 : Rep Θ G1 T1 ŝ1 σ H1) (gg : Same G1 G) (no : noneOwn ŝ1 vs = true) : Rep Θ G T (backF ŝ1 ŝ vs) σ H := by
  have ko : ∀ {j : Nat} {e : D}, (backF ŝ1 ŝ vs)[j]? = some (some (.o e)) → (wipeF ŝ vs)[j]? = some (some (.o e)) ∧ (L2.wipe σ vs)[j]? = σ[j]? := fun hj => by
    rcases backF_some hj with ⟨h1, h2⟩ | ⟨h1, h2⟩
    · exact absurd h2 (noneOwn_at no h1)
    · exact ⟨by rw [wipeF_out h1]; exact h2, wipe_out h1⟩
  refine ⟨R.sub, ?_, fun h => ?_, fun h => ?_, R.tmp, fun h1 h2 h3 h4 => ?_, R.tnd, fun hb ⟨j, e', z1, z2⟩ => ?_⟩
  · have := R.len
    rw [wipeF_len, wipe_length] at this
    rw [backF_len]; exact this
  · rcases backF_some h with ⟨h1, h2⟩ | ⟨h1, h2⟩
    · obtain ⟨x, e, dv⟩ := R1.val h2
      exact ⟨x, e, dv.same gg⟩
    · obtain ⟨x, e, dv⟩ := R.val (by rw [wipeF_out h1]; exact h2)
      rw [wipe_out h1] at e
      exact ⟨x, e, dv⟩
  · obtain ⟨q1, q2⟩ := ko h
    rw [← q2]; exact R.own q1
  · obtain ⟨q1, q2⟩ := ko h1
    obtain ⟨q3, q4⟩ := ko h2
    rw [← q2] at h3; rw [← q4] at h4
    exact R.inj q1 q3 h3 h4
  · obtain ⟨q1, q2⟩ := ko z1
    rw [← q2] at z2
    exact R.tne hb ⟨j, e', q1, z2⟩
theorem Own.of_back {b : Addr} (no : noneOwn ŝ1 vs = true) (h : Own (backF ŝ1 ŝ vs) σ b) : Own (wipeF ŝ vs) (L2.wipe σ vs) b := by
  obtain ⟨j, e, z1, z2⟩ := h
  rcases backF_some z1 with ⟨h1, h2⟩ | ⟨h1, h2⟩
  · exact absurd h2 (noneOwn_at no h1)
  · exact ⟨j, e, by rw [wipeF_out h1]; exact h2, by rw [wipe_out h1]; exact z2⟩
theorem noErr_ok {α : Type} {x : Out α} {y : α} (h : noErr x = .ok y) : x = .ok y := by
  cases x with
  | ok a => exact h
  | err c x => cases h
  | bad => cases h
theorem ok_bind {α β : Type} {x : Out α} {f : α → Out β} {b : β} (h : (x >>= f) = .ok b) : ∃ a, x = .ok a ∧ f a = .ok b := by
  cases x with
  | ok a => exact ⟨a, rfl, h⟩
  | err c x => cases h
  | bad => cases h
theorem ok_opt {α β : Type} {x : Option α} {f : α → Out β} {b : β} (h : (optO x >>= f) = .ok b) : ∃ a, x = some a ∧ f a = .ok b := by
  cases x with
  | some a => exact ⟨a, rfl, h⟩
  | none => cases h
theorem lcLoop_ok {turn : D → FS → Out (List D × FS)} (ht : ∀ d s c x, turn d s ≠ .err c x) : ∀ (l acc : List D) (s : FS) (c : Str) (x : D), lcLoop turn l acc s ≠ .err c x
  | [], _, _, _, _ => fun h => by cases h
  | d :: ds, acc, s, c, x => fun h => by
    unfold lcLoop at h
    cases e : turn d s with
    | ok p =>
      rw [e, bind_ok] at h
      split at h
      · exact lcLoop_ok ht ds _ _ c x h
      · cases h
    | err c' x' => exact ht d s c' x' e
    | bad => rw [e] at h; cases h
end
abbrev noE : XK := fun _ _ _ => False
section
variable {Λ : Env} {n : Nat} {C : Ck} {E : XK} {X : Cx} {tg it elt : Expr} {pos : Pos} {src cond el : IR} {p : Pat} {own : List (Str × Nat)} {scope : Scope} {ifs : List Expr}
def lcTurn (Λ : Env) (vs : List Nat) (p : Pat) (cond el : IR) (d : D) (s : FS) : Out (List D × FS) := noErr (optO (bindP p d (wipeF s vs)) >>= fun s1 => sem Λ cond s1 >>= fun c => optO (tstD c.1) >>= fun t =>
        if t = true then sem Λ el c.2 >>= fun e => .ok ([e.1], e.2) else .ok ([], c.2))
theorem lcTurn_ne {vs : List Nat} (d : D) (s : FS) (c : Str) (x : D) : lcTurn Λ vs p cond el d s ≠ .err c x := by
  unfold lcTurn
  intro h
  generalize (optO (bindP p d (wipeF s vs)) >>= fun s1 => sem Λ cond s1 >>= fun c => optO (tstD c.1) >>= fun t =>
        if t = true then sem Λ el c.2 >>= fun e => (.ok ([e.1], e.2) : Out (List D × FS)) else .ok ([], c.2)) = y at h
  cases y <;> cases h
theorem lc_rd {σ : L2.St} {H : Hp} {Q : VK} {tt : TT} {te : TE} (hps : ∀ j ∈ patSlots p, j ∈ own.map (·.2)) (hct : ∀ σ H Q, RdT (thOf X) noE (sem Λ cond) σ H Q → tt σ H Q) (hel : ∀ σ H Q, RdE (thOf X) noE .frozen (sem Λ el) σ H Q → te σ H Q)
    (h : RdE (thOf X) E .fresh (sem Λ (.lc own p src cond el)) σ H Q) : tLc (RdI (thOf X) E (sem Λ src)) (gPat X.K p) tt te (own.map (·.2)) σ H Q := by
  obtain ⟨ŝ, G, T, R, w⟩ := h
  generalize hvs : own.map (·.2) = vs at *
  refine ⟨ŝ, G, T, R, (WO.bind.mp w).mono fun q _ k => ?_⟩
  obtain ⟨l, hl, k1⟩ := WO.optb k
  rw [hvs] at k1
  obtain ⟨no, k2⟩ := WO.ite k1
  have hl := lstD_some hl
  refine ⟨l, hl, fun J H1 G1 s1 wk => ?_⟩
  -- the whole loop gives r
  have k2 : WO (thOf X) E H (Own ŝ σ) (lcLoop (lcTurn Λ vs p cond el) l [] q.2 >>= fun r => (Out.ok (PyData.list r.1, backF q.2 r.2 vs) : Out (D × FS))) (fun p => ∀ v H' G' T', Stp (thOf X) σ ŝ H G p.2 H' G' T' → RK (thOf X) .fresh G' H T T' p.2 σ v p.1 → Q v H') := k2
  cases hr : lcLoop (lcTurn Λ vs p cond el) l [] q.2 with
  | err c x => exact absurd hr (lcLoop_ok lcTurn_ne l [] q.2 c x)
  | bad => rw [hr] at k2; exact k2.elim
  | ok r =>
  rw [hr] at k2
  have k3 : ∀ v H' G' T', Stp (thOf X) σ ŝ H G (backF q.2 r.2 vs) H' G' T' → RK (thOf X) .fresh G' H T T' (backF q.2 r.2 vs) σ v (.list r.1) → Q v H' := k2
  intro D hD
  have hD0 : H D = none := by
    cases z : H D with
    | none => rfl
    | some o => obtain ⟨o', z'⟩ := s1.ext.th D o z; rw [hD] at z'; cases z'
  have W0 : Rep (thOf X) G1 ((D, .list []) :: T) (wipeF q.2 vs) (L2.wipe σ vs) (upd H1 D (.lst [])) := (s1.rep.made hD (.lst upd_same .nil)).wipe
  refine lc_it wk (fun i Hx => ∃ ŝi Gi acc, lcLoop (lcTurn Λ vs p cond el) (l.drop i) acc ŝi = .ok r ∧ Rep (thOf X) Gi ((D, .list acc) :: T) (wipeF ŝi vs) (L2.wipe σ vs) Hx ∧ Ext (Own ŝ σ) H G Hx Gi ∧ Same G1 Gi ∧ ∀ b, Own (wipeF ŝi vs) (L2.wipe σ vs) b → Own ŝ σ b) ?_ ?_ ?_ ?_
  · refine ⟨q.2, G1, [], by simpa using hr, W0, s1.ext.trans (Ext.made (O := fun _ => False) hD) (fun b o z _ => z.elim), Same.refl _, fun b z => s1.own b (Own.of_wipe z)⟩
  · rintro i Hx _ ⟨ŝi, Gi, acc, _, Ri, _, gg, _⟩
    exact gg.trans Ri.sub
  · rintro i x Hx Hy hi ⟨ŝi, Gi, acc, hlp, Ri, xi, gg, oi⟩ ⟨d, hd, yd⟩
    have hdrop : l.drop i = d :: l.drop (i + 1) := by
      rw [List.drop_eq_getElem_cons hi]
      have e : l[i] = d := by
        rw [List.getElem?_eq_getElem hi] at hd
        exact Option.some.inj hd
      rw [e]
    rw [hdrop] at hlp
    unfold lcLoop at hlp
    obtain ⟨pr, hpr, hlp⟩ := ok_bind hlp
    split at hlp
    · rename_i hfit
      have hpr := noErr_ok hpr
      obtain ⟨s2, hb, hpr⟩ := ok_opt hpr
      obtain ⟨cc, hcc, hpr⟩ := ok_bind hpr
      obtain ⟨t, ht, hpr⟩ := ok_opt hpr
      -- the item is there
      have item : ∃ G2, Rep (thOf X) G2 ((D, .list acc) :: T) (wipeF ŝi vs) (L2.wipe σ vs) Hy ∧ DV (thOf X) G2 x d ∧ Ext (Own ŝ σ) H G Hy G2 ∧ Same Gi G2 := by
        obtain ⟨G2, st, dv⟩ := YI.item yd Ri gg
        exact ⟨G2, st.rep, dv, xi.trans st.ext (fun b o z _ => oi b z), st.ext.gg⟩
      obtain ⟨G2, R2, dv2, x2, gg2⟩ := item
      refine bind_ok' (Θ := thOf X) p hb R2 dv2 fun σ2 R3 o3 len3 out3 => ?_
      have weq : L2.wipe σ2 vs = L2.wipe σ vs := by
        have e1 : L2.wipe σ2 vs = L2.wipe (L2.wipe σ vs) vs := wipe_eq len3 fun j hj => out3 j fun z => hj (hps j z)
        have e2 : L2.wipe (L2.wipe σ vs) vs = L2.wipe σ vs := wipe_eq (by rw [wipe_length]) fun j hj => wipe_out hj
        rw [e1, e2]
      refine ⟨weq, ?_⟩
      refine hct _ _ _ ⟨s2, G2, _, R3, ?_⟩
      rw [hcc]
      refine ⟨t, tstD_some ht, fun H4 G4 st4 => ?_⟩
      have x4 : Ext (Own ŝ σ) H G H4 G4 := x2.trans st4.ext fun b o z _ => oi b (o3 b z)
      cases t with
      | true =>
        refine iteT (hel _ _ _ ⟨cc.2, G4, _, st4.rep, ?_⟩)
        obtain ⟨ee, hee, hpr⟩ := ok_bind (show (sem Λ el cc.2 >>= fun e => (.ok ([e.1], e.2) : Out (List PyData × FS))) = .ok pr from hpr)
        cases hpr
        rw [hee]
        intro y H5 G5 T5 st5 r5
        obtain ⟨rfl, dv5⟩ := r5
        obtain ⟨gn, ov⟩ := st5.rep.tmp List.mem_cons_self
        have x5 : Ext (Own ŝ σ) H G H5 G5 := x4.trans st5.ext fun b o z _ => oi b (o3 b (st4.own b z))
        generalize hacc : PyData.list acc = ac at ov
        cases ov with
        | dct => cases hacc
        | @lst xs ds hq tq =>
          cases hacc
          unfold fitsL at hfit
          rw [decide_eq_true_eq] at hfit
          have hfit : acc.length + 1 ≤ sizeLine := hfit
          refine ⟨xs, hq, by rw [tq.len]; omega, ee.2, G5, acc ++ [ee.1], hlp, ?_, x5.tmut hD0, gg.trans (gg2.trans (st4.ext.gg.trans st5.ext.gg)), fun b z => ?_⟩
          · rw [← weq]
            exact (st5.rep.tmut (o := .lst (xs ++ [y])) (d' := .list (acc ++ [ee.1])) (.lst upd_same (tq.append (.cons dv5 .nil)))).wipe
          · rw [← weq] at z
            exact oi b (o3 b (st4.own b (st5.own b (Own.of_wipe z))))
      | false =>
        have hpr : (.ok ([], cc.2) : Out (List PyData × FS)) = .ok pr := hpr
        cases hpr
        refine iteF ⟨cc.2, G4, acc, by simpa using hlp, ?_, x4, gg.trans (gg2.trans st4.ext.gg), fun b z => ?_⟩
        · rw [← weq]; exact st4.rep.wipe
        · rw [← weq] at z
          exact oi b (o3 b (st4.own b (Own.of_wipe z)))
    · cases hlp
  · rintro Hx ⟨ŝi, Gi, acc, hlp, Ri, xi, gg, oi⟩
    rw [List.drop_length] at hlp
    cases hlp
    refine k3 _ Hx Gi _ ⟨xi, fun b z => oi b (Own.of_back no z), Ri.back s1.rep gg no⟩ ⟨D, rfl, rfl, hD0⟩
theorem setE {e : Expr} (h : notSetE e = true) (env : PySem.Env) (x : Value) : foldedSetIterable e env x = pure x := by
  cases e <;> first | rfl | cases h
theorem pts_of {c : Expr} {t : TT} (h : PT X c t) : PTs X [c] t := pts_one h
theorem XC.blk (c : XC Λ n C E X) (s : Shared) (H : Hp) (cl : List (Str × Addr)) (B : Addr) (fp : List Addr) : XC Λ n (blkCk C scope) noE (X.blk s H scope (compEnvC scope cl B X.env) fp) := by
  refine ⟨c.glb, c.hN, c.nd, ?_, rfl, c.hfns, c.hexs, c.calm, c.room, passL⟩
  show relS scope X.env.scope = relS scope C.sc
  rw [c.hsc]
theorem snd_lc (c : XC Λ n C E X) (hb : blkC C.N C.sc scope own = true) (hps : ∀ j ∈ patSlots p, j ∈ own.map (·.2)) (hset : notSetE it = true) (hp : chkP (blkCk C scope) p tg = true) (hi : SndI Λ E X tg src it)
    (hc : ∀ X', XC Λ n (blkCk C scope) noE X' → thOf X' = thOf X → PTs X' ifs (RdT (thOf X') noE (sem Λ cond))) (he : ∀ X', XC Λ n (blkCk C scope) noE X' → thOf X' = thOf X → PE X' elt (RdE (thOf X') noE .frozen (sem Λ el))) :
    Snd Λ E X (.lc own p src cond el) (.ListComp elt [⟨tg, it, ifs, 0⟩] scope pos) := by
  have ok : BlkOk X.N X.env.scope scope own := by
    rw [c.hN, c.hsc]
    exact blkOk_by hb
  refine Snd.plain (PE.imp (pe_lc (wi := RdI (thOf X) E (sem Λ src)) (g := gPat X.K p) (tt := RdT (thOf X) noE (sem Λ cond)) (te := RdE (thOf X) noE .frozen (sem Λ el)) c.calm c.nd hi.pi ok (fun s H B cl fp => ?_) (fun s H B cl fp => ?_) (fun s H B cl fp => ?_) (setE hset X.env)) fun σ H Q q => ?_) rfl
  · have c' := c.blk (scope := scope) s H cl B fp
    exact pg_of c'.hN c'.nd c'.hsc c'.hfn c'.calm p tg hp
  · exact hc _ (c.blk s H cl B fp) rfl
  · exact he _ (c.blk s H cl B fp) rfl
  · exact lc_rd hps (fun _ _ _ h => h) (fun _ _ _ h => h) q
end
end Fw

set_option Elab.async false
set_option linter.all false
set_option maxRecDepth 100000
set_option maxHeartbeats 4000000
namespace Fw
open PySem PySem.Spec L2
/-! ### comprehensions of two -/
section
variable {J : It} {n : Nat} {G : Hp → Prop} {Y : Nat → Hp → V → Hp → Prop}
theorem wk_it (w : Walk J n G Y) {B : (Hp → Prop) → V → Hp → Prop} {H1 : Hp} {Qd : Hp → Prop} (Pv : Nat → Hp → Prop) (h0 : Pv 0 H1) (hG : ∀ i H, i ≤ n → Pv i H → G H)
    (hs : ∀ i x H H', i < n → Pv i H → Y i H x H' → B (Pv (i + 1)) x H') (hd : ∀ H, Pv n H → Qd H) :
    ∃ W : Nat → Nat → Hp → Prop, (∃ m, W 0 m H1) ∧ ∀ i m H, W i m H →
      (J.stop i H ∧ Qd H) ∨ (J.go i H ∧ ∃ Nx : Hp → Prop, (∀ H', Nx H' → ∃ m', m' < m ∧ W (i + 1) m' H') ∧ ∀ x H', J.yld i H x H' → B Nx x H') := by
  refine ⟨fun i m H => m = n - i ∧ i ≤ n ∧ Pv i H, ⟨n, by simp, Nat.zero_le _, h0⟩, ?_⟩
  rintro i m H ⟨rfl, hi, p⟩
  have q := hG i H hi p
  by_cases hlt : i < n
  · refine .inr ⟨w.goes i H hlt q, Pv (i + 1), fun H' p' => ⟨n - (i + 1), by omega, rfl, hlt, p'⟩, fun x H' y => hs i x H H' hlt p (w.yields i H x H' hlt q y)⟩
  · have e : i = n := by omega
    subst e
    exact .inl ⟨w.stops H q, hd H p⟩
end
theorem lcLoop_grow {turn : D → FS → Out (List D × FS)} {r : List D × FS} : ∀ {l acc : List D} {s : FS}, lcLoop turn l acc s = .ok r → acc.length ≤ r.1.length
  | [], acc, s, h => by cases h; exact Nat.le_refl _
  | d :: ds, acc, s, h => by
    unfold lcLoop at h
    obtain ⟨p, hp, h⟩ := ok_bind h
    split at h
    · have := lcLoop_grow h
      rw [List.length_append] at this
      omega
    · cases h
section
variable {Λ : Env} {n : Nat} {C : Ck} {E : XK} {X : Cx} {tg it tg1 it1 elt : Expr} {pos : Pos} {src cond src1 cond1 el : IR} {p p1 : Pat} {own : List (Str × Nat)} {own1 : List Nat} {scope : Scope} {ifs ifs1 : List Expr}
def lcT1 (Λ : Env) (vs1 : List Nat) (p1 : Pat) (cond1 el : IR) (d : D) (s : FS) : Out (List D × FS) := optO (bindP p1 d (wipeF s vs1)) >>= fun s1 => sem Λ cond1 s1 >>= fun c => optO (tstD c.1) >>= fun t =>
        if t = true then sem Λ el c.2 >>= fun e => .ok ([e.1], e.2) else .ok ([], c.2)
def lcT2 (Λ : Env) (vs vs1 : List Nat) (p : Pat) (cond : IR) (p1 : Pat) (src1 cond1 el : IR) (d : D) (s : FS) : Out (List D × FS) := noErr (optO (bindP p d (wipeF s vs)) >>= fun s1 => sem Λ cond s1 >>= fun c => optO (tstD c.1) >>= fun t =>
        if t = true then sem Λ src1 c.2 >>= fun q1 => optO (lstD q1.1) >>= fun l1 => lcLoop (lcT1 Λ vs1 p1 cond1 el) l1 [] q1.2 >>= fun r => .ok (r.1, wipeF r.2 vs1) else .ok ([], c.2))
def lc2S (Λ : Env) (vs vs1 : List Nat) (p : Pat) (src cond : IR) (p1 : Pat) (src1 cond1 el : IR) (ŝ : FS) : Out (D × FS) := sem Λ src ŝ >>= fun q => optO (lstD q.1) >>= fun l =>
      if noneOwn q.2 vs = true then lcLoop (lcT2 Λ vs vs1 p cond p1 src1 cond1 el) l [] q.2 >>= fun r => .ok (.list r.1, backF q.2 r.2 vs) else .bad
theorem lcT2_ne {vs vs1 : List Nat} (d : D) (s : FS) (c : Str) (x : D) : lcT2 Λ vs vs1 p cond p1 src1 cond1 el d s ≠ .err c x := by
  unfold lcT2
  intro h
  generalize (optO (bindP p d (wipeF s vs)) >>= fun s1 => sem Λ cond s1 >>= fun c => optO (tstD c.1) >>= fun t =>
        if t = true then sem Λ src1 c.2 >>= fun q1 => optO (lstD q1.1) >>= fun l1 => lcLoop (lcT1 Λ vs1 p1 cond1 el) l1 [] q1.2 >>= fun r => (.ok (r.1, wipeF r.2 vs1) : Out (List D × FS)) else .ok ([], c.2)) = y at h
  cases y <;> cases h
theorem lc2_rd {σ : L2.St} {H : Hp} {Q : VK} {tt tt1 : TT} {te : TE} {wi1 : TI} {vs vs1 : List Nat} (hps : ∀ j ∈ patSlots p, j ∈ vs) (hv1 : ∀ j ∈ vs1, j ∈ vs) (hps1 : ∀ j ∈ patSlots p1, j ∈ vs1)
    (hct : ∀ σ H Q, RdT (thOf X) noE (sem Λ cond) σ H Q → tt σ H Q) (hi1 : ∀ σ H R, RdI (thOf X) noE (sem Λ src1) σ H R → wi1 σ H R) (hct1 : ∀ σ H Q, RdT (thOf X) noE (sem Λ cond1) σ H Q → tt1 σ H Q) (hel : ∀ σ H Q, RdE (thOf X) noE .frozen (sem Λ el) σ H Q → te σ H Q)
    (h : RdE (thOf X) E .fresh (lc2S Λ vs vs1 p src cond p1 src1 cond1 el) σ H Q) : tLc2 (RdI (thOf X) E (sem Λ src)) (gPat X.K p) tt wi1 (gPat X.K p1) tt1 te vs vs1 σ H Q := by
  obtain ⟨ŝ, G, T, R, w⟩ := h
  refine ⟨ŝ, G, T, R, (WO.bind.mp w).mono fun q _ k => ?_⟩
  obtain ⟨l, hl, k1⟩ := WO.optb k
  obtain ⟨no, k2⟩ := WO.ite k1
  have hl := lstD_some hl
  refine ⟨l, hl, fun J H1 G1 s1 wk => ?_⟩
  have k2 : WO (thOf X) E H (Own ŝ σ) (lcLoop (lcT2 Λ vs vs1 p cond p1 src1 cond1 el) l [] q.2 >>= fun r => (Out.ok (PyData.list r.1, backF q.2 r.2 vs) : Out (D × FS))) (fun p => ∀ v H' G' T', Stp (thOf X) σ ŝ H G p.2 H' G' T' → RK (thOf X) .fresh G' H T T' p.2 σ v p.1 → Q v H') := k2
  cases hr : lcLoop (lcT2 Λ vs vs1 p cond p1 src1 cond1 el) l [] q.2 with
  | err c x => exact absurd hr (lcLoop_ok lcT2_ne l [] q.2 c x)
  | bad => rw [hr] at k2; exact k2.elim
  | ok r =>
  rw [hr] at k2
  have k3 : ∀ v H' G' T', Stp (thOf X) σ ŝ H G (backF q.2 r.2 vs) H' G' T' → RK (thOf X) .fresh G' H T T' (backF q.2 r.2 vs) σ v (.list r.1) → Q v H' := k2
  intro D hD
  have hD0 : H D = none := by
    cases z : H D with
    | none => rfl
    | some o => obtain ⟨o', z'⟩ := s1.ext.th D o z; rw [hD] at z'; cases z'
  have W0 : Rep (thOf X) G1 ((D, .list []) :: T) (wipeF q.2 vs) (L2.wipe σ vs) (upd H1 D (.lst [])) := (s1.rep.made hD (.lst upd_same .nil)).wipe
  refine wk_it wk (B := fun Nx x H' => gPat X.K p x (wipe σ vs) H' fun σ2 H2 => wipe σ2 vs = wipe σ vs ∧ tt σ2 H2 fun b H3 =>
    if b = true then wi1 σ2 H3 fun J1 H4 => ∃ W1 : Nat → Nat → Hp → Prop, (∃ m, W1 0 m H4) ∧ ∀ j k H, W1 j k H →
      (J1.stop j H ∧ Nx H) ∨ (J1.go j H ∧ ∃ Nx1 : Hp → Prop, (∀ H', Nx1 H' → ∃ k', k' < k ∧ W1 (j + 1) k' H') ∧ ∀ x H', J1.yld j H x H' → gPat X.K p1 x (wipe σ2 vs1) H' fun σ3 H5 => wipe σ3 vs1 = wipe σ2 vs1 ∧ tt1 σ3 H5 fun b H6 =>
        if b = true then te σ3 H6 fun y H7 => ∃ acc, H7 D = some (.lst acc) ∧ acc.length < sizeLine ∧ Nx1 (upd H7 D (.lst (acc ++ [y]))) else Nx1 H6)
    else Nx H3) (fun i Hx => ∃ ŝi Gi acc, lcLoop (lcT2 Λ vs vs1 p cond p1 src1 cond1 el) (l.drop i) acc ŝi = .ok r ∧ Rep (thOf X) Gi ((D, .list acc) :: T) (wipeF ŝi vs) (L2.wipe σ vs) Hx ∧ Ext (Own ŝ σ) H G Hx Gi ∧ Same G1 Gi ∧ ∀ b, Own (wipeF ŝi vs) (L2.wipe σ vs) b → Own ŝ σ b) ?_ ?_ ?_ ?_
  · refine ⟨q.2, G1, [], by simpa using hr, W0, s1.ext.trans (Ext.made (O := fun _ => False) hD) (fun b o z _ => z.elim), Same.refl _, fun b z => s1.own b (Own.of_wipe z)⟩
  · rintro i Hx _ ⟨ŝi, Gi, acc, _, Ri, _, gg, _⟩
    exact gg.trans Ri.sub
  · rintro i x Hx Hy hi ⟨ŝi, Gi, acc, hlp, Ri, xi, gg, oi⟩ ⟨d, hd, yd⟩
    have hdrop : l.drop i = d :: l.drop (i + 1) := by
      rw [List.drop_eq_getElem_cons hi]
      have e : l[i] = d := by
        rw [List.getElem?_eq_getElem hi] at hd
        exact Option.some.inj hd
      rw [e]
    rw [hdrop] at hlp
    unfold lcLoop at hlp
    obtain ⟨pr, hpr, hlp⟩ := ok_bind hlp
    split at hlp
    · rename_i hfit
      have hpr := noErr_ok hpr
      obtain ⟨s2, hb, hpr⟩ := ok_opt hpr
      obtain ⟨cc, hcc, hpr⟩ := ok_bind hpr
      obtain ⟨t, ht, hpr⟩ := ok_opt hpr
      have item : ∃ G2, Rep (thOf X) G2 ((D, .list acc) :: T) (wipeF ŝi vs) (L2.wipe σ vs) Hy ∧ DV (thOf X) G2 x d ∧ Ext (Own ŝ σ) H G Hy G2 ∧ Same Gi G2 := by
        obtain ⟨G2, st, dv⟩ := YI.item yd Ri gg
        exact ⟨G2, st.rep, dv, xi.trans st.ext (fun b o z _ => oi b z), st.ext.gg⟩
      obtain ⟨G2, R2, dv2, x2, gg2⟩ := item
      refine bind_ok' (Θ := thOf X) p hb R2 dv2 fun σ2 R3 o3 len3 out3 => ?_
      have weq : L2.wipe σ2 vs = L2.wipe σ vs := by
        have e1 : L2.wipe σ2 vs = L2.wipe (L2.wipe σ vs) vs := wipe_eq len3 fun j hj => out3 j fun z => hj (hps j z)
        have e2 : L2.wipe (L2.wipe σ vs) vs = L2.wipe σ vs := wipe_eq (by rw [wipe_length]) fun j hj => wipe_out hj
        rw [e1, e2]
      refine ⟨weq, ?_⟩
      refine hct _ _ _ ⟨s2, G2, _, R3, ?_⟩
      rw [hcc]
      refine ⟨t, tstD_some ht, fun H4 G4 st4 => ?_⟩
      have x4 : Ext (Own ŝ σ) H G H4 G4 := x2.trans st4.ext fun b o z _ => oi b (o3 b z)
      cases t with
      | true =>
        refine iteT (hi1 _ _ _ ⟨cc.2, G4, _, st4.rep, ?_⟩)
        obtain ⟨q1, hq1, hpr⟩ := ok_bind (show (sem Λ src1 cc.2 >>= fun q1 => optO (lstD q1.1) >>= fun l1 => lcLoop (lcT1 Λ vs1 p1 cond1 el) l1 [] q1.2 >>= fun r => (.ok (r.1, wipeF r.2 vs1) : Out (List PyData × FS))) = .ok pr from hpr)
        obtain ⟨l1, hl1, hpr⟩ := ok_opt hpr
        obtain ⟨r1, hr1, hpr⟩ := ok_bind hpr
        cases hpr
        rw [hq1]
        refine ⟨l1, lstD_some hl1, fun J1 H5 G5 st5 wk1 => ?_⟩
        have x5 : Ext (Own ŝ σ) H G H5 G5 := x4.trans st5.ext fun b o z _ => oi b (o3 b (st4.own b z))
        have gg5 : Same G1 G5 := gg.trans (gg2.trans (st4.ext.gg.trans st5.ext.gg))
        have o5 : ∀ b, Own q1.2 σ2 b → Own ŝ σ b := fun b z => oi b (o3 b (st4.own b (st5.own b z)))
        unfold fitsL at hfit
        rw [decide_eq_true_eq] at hfit
        have hfit : acc.length + r1.1.length ≤ sizeLine := hfit
        have weq1 : L2.wipe (L2.wipe σ2 vs1) vs = L2.wipe σ vs := by
          rw [← weq]
          exact wipe_eq (by rw [wipe_length]) fun j hj => wipe_out fun z => hj (hv1 j z)
        refine wk_it wk1 (B := fun Nx1 x H' => gPat X.K p1 x (wipe σ2 vs1) H' fun σ3 H5 => wipe σ3 vs1 = wipe σ2 vs1 ∧ tt1 σ3 H5 fun b H6 =>
          if b = true then te σ3 H6 fun y H7 => ∃ acc, H7 D = some (.lst acc) ∧ acc.length < sizeLine ∧ Nx1 (upd H7 D (.lst (acc ++ [y]))) else Nx1 H6)
          (fun j Hx => ∃ ŝj Gj accI, lcLoop (lcT1 Λ vs1 p1 cond1 el) (l1.drop j) accI ŝj = .ok r1 ∧ Rep (thOf X) Gj ((D, .list (acc ++ accI)) :: T) (wipeF ŝj vs1) (L2.wipe σ2 vs1) Hx ∧ Ext (Own ŝ σ) H G Hx Gj ∧ Same G5 Gj ∧ ∀ b, Own (wipeF ŝj vs1) (L2.wipe σ2 vs1) b → Own ŝ σ b) ?_ ?_ ?_ ?_
        · refine ⟨q1.2, G5, [], by simpa using hr1, ?_, x5, Same.refl _, fun b z => o5 b (Own.of_wipe z)⟩
          rw [List.append_nil]
          exact st5.rep.wipe
        · rintro j Hx _ ⟨ŝj, Gj, accI, _, Rj, _, ggj, _⟩
          exact ggj.trans Rj.sub
        · rintro j x' Hx' Hy' hj ⟨ŝj, Gj, accI, hlpj, Rj, xj, ggj, oj⟩ ⟨d', hd', yd'⟩
          have hdrop : l1.drop j = d' :: l1.drop (j + 1) := by
            rw [List.drop_eq_getElem_cons hj]
            have e : l1[j] = d' := by
              rw [List.getElem?_eq_getElem hj] at hd'
              exact Option.some.inj hd'
            rw [e]
          rw [hdrop] at hlpj
          unfold lcLoop at hlpj
          obtain ⟨prj, hprj, hlpj⟩ := ok_bind hlpj
          split at hlpj
          · obtain ⟨s3, hb3, hprj⟩ := ok_opt hprj
            obtain ⟨c3, hc3, hprj⟩ := ok_bind hprj
            obtain ⟨t3, ht3, hprj⟩ := ok_opt hprj
            obtain ⟨G6, stj, dvj⟩ := YI.item yd' Rj ggj
            have x6 : Ext (Own ŝ σ) H G Hy' G6 := xj.trans stj.ext fun b o z _ => oj b z
            refine bind_ok' (Θ := thOf X) p1 hb3 stj.rep dvj fun σ3 R7 o7 len7 out7 => ?_
            have weq3 : L2.wipe σ3 vs1 = L2.wipe σ2 vs1 := by
              have e1 : L2.wipe σ3 vs1 = L2.wipe (L2.wipe σ2 vs1) vs1 := wipe_eq len7 fun j hj => out7 j fun z => hj (hps1 j z)
              have e2 : L2.wipe (L2.wipe σ2 vs1) vs1 = L2.wipe σ2 vs1 := wipe_eq (by rw [wipe_length]) fun j hj => wipe_out hj
              rw [e1, e2]
            refine ⟨weq3, ?_⟩
            refine hct1 _ _ _ ⟨s3, G6, _, R7, ?_⟩
            rw [hc3]
            refine ⟨t3, tstD_some ht3, fun H8 G8 st8 => ?_⟩
            have x8 : Ext (Own ŝ σ) H G H8 G8 := x6.trans st8.ext fun b o z _ => oj b (o7 b z)
            cases t3 with
            | true =>
              refine iteT (hel _ _ _ ⟨c3.2, G8, _, st8.rep, ?_⟩)
              obtain ⟨ee, hee, hprj⟩ := ok_bind (show (sem Λ el c3.2 >>= fun e => (.ok ([e.1], e.2) : Out (List PyData × FS))) = .ok prj from hprj)
              cases hprj
              rw [hee]
              intro y H9 G9 T9 st9 r9
              obtain ⟨rfl, dv9⟩ := r9
              obtain ⟨gn, ov⟩ := st9.rep.tmp List.mem_cons_self
              have x9 : Ext (Own ŝ σ) H G H9 G9 := x8.trans st9.ext fun b o z _ => oj b (o7 b (st8.own b z))
              have grow := lcLoop_grow hlpj
              rw [List.length_append] at grow
              have grow : accI.length + 1 ≤ r1.1.length := grow
              generalize hacc : PyData.list (acc ++ accI) = ac at ov
              cases ov with
              | dct => cases hacc
              | @lst xs ds hq tq =>
                cases hacc
                refine ⟨xs, hq, by rw [tq.len, List.length_append]; omega, ee.2, G9, accI ++ [ee.1], hlpj, ?_, x9.tmut hD0, ggj.trans (stj.ext.gg.trans (st8.ext.gg.trans st9.ext.gg)), fun b z => ?_⟩
                · rw [← weq3, ← List.append_assoc]
                  exact (st9.rep.tmut (o := .lst (xs ++ [y])) (d' := .list ((acc ++ accI) ++ [ee.1])) (.lst upd_same (tq.append (.cons dv9 .nil)))).wipe
                · rw [← weq3] at z
                  exact oj b (o7 b (st8.own b (st9.own b (Own.of_wipe z))))
            | false =>
              have hprj : (.ok ([], c3.2) : Out (List PyData × FS)) = .ok prj := hprj
              cases hprj
              refine iteF ⟨c3.2, G8, accI, by simpa using hlpj, ?_, x8, ggj.trans (stj.ext.gg.trans st8.ext.gg), fun b z => ?_⟩
              · rw [← weq3]; exact st8.rep.wipe
              · rw [← weq3] at z
                exact oj b (o7 b (st8.own b (Own.of_wipe z)))
          · cases hlpj
        · rintro Hx' ⟨ŝj, Gj, accI, hlpj, Rj, xj, ggj, oj⟩
          rw [List.drop_length] at hlpj
          cases hlpj
          refine ⟨wipeF ŝj vs1, Gj, acc ++ accI, hlp, ?_, xj, gg5.trans ggj, fun b z => ?_⟩
          · rw [← weq1]; exact Rj.wipe
          · rw [← weq1] at z
            exact oj b (Own.of_wipe z)
      | false =>
        have hpr : (.ok ([], cc.2) : Out (List PyData × FS)) = .ok pr := hpr
        cases hpr
        refine iteF ⟨cc.2, G4, acc, by simpa using hlp, ?_, x4, gg.trans (gg2.trans st4.ext.gg), fun b z => ?_⟩
        · rw [← weq]; exact st4.rep.wipe
        · rw [← weq] at z
          exact oi b (o3 b (st4.own b (Own.of_wipe z)))
    · cases hlp
  · rintro Hx ⟨ŝi, Gi, acc, hlp, Ri, xi, gg, oi⟩
    rw [List.drop_length] at hlp
    cases hlp
    refine k3 _ Hx Gi _ ⟨xi, fun b z => oi b (Own.of_back no z), Ri.back s1.rep gg no⟩ ⟨D, rfl, rfl, hD0⟩
theorem snd_lc2 (c : XC Λ n C E X) (hb : blkC C.N C.sc scope own = true) (hv1 : ∀ j ∈ own1, j ∈ own.map (·.2)) (hps : ∀ j ∈ patSlots p, j ∈ own.map (·.2)) (hps1 : ∀ j ∈ patSlots p1, j ∈ own1) (hset : notSetE it = true) (hset1 : notSetE it1 = true)
    (hp : chkP (blkCk C scope) p tg = true) (hp1 : chkP (blkCk C scope) p1 tg1 = true) (hi : SndI Λ E X tg src it)
    (hi1 : ∀ X', XC Λ n (blkCk C scope) noE X' → thOf X' = thOf X → SndI Λ noE X' tg1 src1 it1)
    (hc : ∀ X', XC Λ n (blkCk C scope) noE X' → thOf X' = thOf X → PTs X' ifs (RdT (thOf X') noE (sem Λ cond))) (hc1 : ∀ X', XC Λ n (blkCk C scope) noE X' → thOf X' = thOf X → PTs X' ifs1 (RdT (thOf X') noE (sem Λ cond1)))
    (he : ∀ X', XC Λ n (blkCk C scope) noE X' → thOf X' = thOf X → PE X' elt (RdE (thOf X') noE .frozen (sem Λ el))) :
    Snd Λ E X (.lc2 own own1 p src cond p1 src1 cond1 el) (.ListComp elt [⟨tg, it, ifs, 0⟩, ⟨tg1, it1, ifs1, 0⟩] scope pos) := by
  have ok : BlkOk X.N X.env.scope scope own := by
    rw [c.hN, c.hsc]
    exact blkOk_by hb
  refine Snd.plain (PE.imp (pe_lc2 (wi := RdI (thOf X) E (sem Λ src)) (g := gPat X.K p) (tt := RdT (thOf X) noE (sem Λ cond)) (wi1 := RdI (thOf X) noE (sem Λ src1)) (g1 := gPat X.K p1) (tt1 := RdT (thOf X) noE (sem Λ cond1)) (te := RdE (thOf X) noE .frozen (sem Λ el)) c.calm c.nd hi.pi ok hv1
    (fun s H B cl fp => ?_) (fun s H B cl fp => ?_) (fun s H B cl fp => ?_) (fun s H B cl fp => ?_) (fun s H B cl fp => ?_) (fun s H B cl fp => ?_) (setE hset X.env) (setE hset1)) fun σ H Q q => ?_) rfl
  · have c' := c.blk (scope := scope) s H cl B fp
    exact pg_of c'.hN c'.nd c'.hsc c'.hfn c'.calm p tg hp
  · exact hc _ (c.blk s H cl B fp) rfl
  · exact (hi1 _ (c.blk s H cl B fp) rfl).pi
  · have c' := c.blk (scope := scope) s H cl B fp
    exact pg_of c'.hN c'.nd c'.hsc c'.hfn c'.calm p1 tg1 hp1
  · exact hc1 _ (c.blk s H cl B fp) rfl
  · exact he _ (c.blk s H cl B fp) rfl
  · exact lc2_rd hps hv1 hps1 (fun _ _ _ h => h) (fun _ _ _ h => h) (fun _ _ _ h => h) (fun _ _ _ h => h) q
end
end Fw

set_option Elab.async false
set_option linter.all false
set_option maxRecDepth 100000
set_option maxHeartbeats 4000000
namespace Fw
open PySem PySem.Spec L2 PyProof.Rows
/-! ### len(set(xs)) of a tuple of ints -/
theorem uniqL_mem {x : Int} : ∀ {l : List Int}, x ∈ uniqL l ↔ x ∈ l
  | [] => Iff.rfl
  | y :: r => by
    unfold uniqL
    split
    · rename_i h
      rw [uniqL_mem]
      exact ⟨fun q => List.mem_cons_of_mem _ q, fun q => (List.mem_cons.mp q).elim (fun e => e ▸ h) id⟩
    · rw [List.mem_cons, List.mem_cons, uniqL_mem]
theorem uniqL_nodup : ∀ {l : List Int}, (uniqL l).Nodup
  | [] => .nil
  | y :: r => by
    unfold uniqL
    split
    · exact uniqL_nodup
    · rename_i h
      exact List.nodup_cons.mpr ⟨fun q => h (uniqL_mem.mp q), uniqL_nodup⟩
theorem uniqL_of_nodup : ∀ {l : List Int}, l.Nodup → uniqL l = l
  | [], _ => rfl
  | y :: r, h => by
    obtain ⟨h1, h2⟩ := List.nodup_cons.mp h
    unfold uniqL
    rw [if_neg h1, uniqL_of_nodup h2]
theorem nodup_len {a b : List Int} (ha : a.Nodup) (h : ∀ x ∈ a, x ∈ b) : a.length ≤ b.length := by
  induction a generalizing b with
  | nil => exact Nat.zero_le _
  | cons x r ih =>
    obtain ⟨h1, h2⟩ := List.nodup_cons.mp ha
    have hx : x ∈ b := h x List.mem_cons_self
    have := ih (b := b.erase x) h2 fun y hy => by
      refine (List.mem_erase_of_ne (fun e : y = x => h1 (by rw [← e]; exact hy))).mpr (h y (List.mem_cons_of_mem _ hy))
    rw [List.length_erase_of_mem hx] at this
    have pos : 0 < b.length := List.length_pos_of_mem hx
    rw [List.length_cons]
    omega
def rLenSetT (K : PySem.W.Frag) : V → Hp → VK → Prop := fun x H Q => ∃ (a : Addr) (ns : List Int), x = V.ref a ∧ SqT K H a (ns.map V.int) ∧ ns.length ≤ 4000 ∧ Q (.int (uniqL ns).length) H
section
variable {X : Cx}
theorem pe_lenSetT {a : Expr} {ta : TE} {p p2 q pos : Pos} (hc : X.calm = true) (hg : Gl X "len") (hm : X.mg "len" = none) (hg2 : Gl X "set") (hm2 : X.mg "set" = none) (ha : PE X a ta)
    (na : starEach [a] X.env = (false, eval a X.env) :: starEach [] X.env) : PE X (.Call (.Name "len" p) [.Call (.Name "set" p2) [a] [] q] [] pos) (tUn (rLenSetT X.K) ta) := by
  refine ⟨fun pins s σ H Q I h => ?_⟩
  refine Call_ (ld_blt I hg hm PySem.boot_len ?_)
  refine PyProof.Rows.callWith_builtin1 (PyProof.Rows.args_cons ?_ rfl) rfl rfl
  refine Call_ (ld_blt I hg2 hm2 PyProof.Rows.boot_set ?_)
  refine PyProof.Rows.callWith_type1 (PyProof.Rows.args_cons (thn (ha.run pins s σ H _ I h) fun v s1 ⟨x, H1, I1, r1, q1⟩ => PyProof.Rows.args_nil ?_) na) na rfl
  obtain ⟨l, ns, rfl, hq, h1, q1⟩ := q1
  cases r1
  obtain ⟨its, r, pl, _⟩ := I1.tuple hq
  refine call_set_tupI ns (I1.ok.hd hc) pl (by simpa using r.ints) (by unfold scanBound; omega) fun h' tk c hS hcn hk => ?_
  refine PyProof.Rows.args_nil ?_
  obtain ⟨o, es, ep, t, ho, hex, hd, _, hnd, hmem, hsz, hf, hn, _⟩ := hS
  have I2 : Inv X pins σ H1 { s1 with heap := h', toks := tk } := I1.kept hk
  have hlen : es.size = (uniqL ns).length := by
    have e0 : (es.toList.map keyOf).length = es.size := by rw [List.length_map, Array.length_toList]
    have e1 := nodup_len hnd (b := uniqL ns) fun k hk => uniqL_mem.mpr (by simpa using (hmem k).mpr hk)
    have e2 := nodup_len (uniqL_nodup (l := ns)) (b := es.toList.map keyOf) fun k hk => (hmem k).mp (by simpa using uniqL_mem.mp hk)
    omega
  have hb : (uniqL ns).length ≤ ns.length := nodup_len uniqL_nodup fun k hk => uniqL_mem.mp hk
  exact call_len_set ho hex hd hf (by rw [hlen]; omega) ⟨.int (uniqL ns).length, H1, I2.tok _, ⟨_, by rw [hlen]⟩, q1⟩
end
theorem vr_lenSet {Θ : Th} : VR1 Θ .frozen lensetD (rLenSetT Θ.K) := by
  intro G H T ŝ σ v d z Q R hv hz hQ
  unfold lensetD at hz
  split at hz
  · obtain ⟨ns, hn, hz⟩ := Option.bind_eq_some_iff.mp hz
    split at hz
    · cases hz
      rw [intsD_some hn] at hv
      obtain ⟨a, xs, rfl, q1, q2, t⟩ := hv.tuple R.sub
      rw [t.intsV] at q2
      exact ⟨a, ns, rfl, q2, by assumption, Stp.val R (.int _) hQ⟩
    · cases hz
  · cases hz
section
variable {Λ : Env} {n : Nat} {C : Ck} {E : XK} {X : Cx} {e a : Expr} {pos q : Pos} {ia ir : IR}
theorem snd_lenset {f g : Str} {p p2 : Pos} (c : XC Λ n C E X) (hf : bltOk C f "len" = true) (hg : bltOk C g "set" = true) (hs : notStar a = true) (ha : Snd Λ E X ia a) (hk : kd ir = .frozen) (hsem : ∀ ŝ, sem Λ ir ŝ = (sem Λ ia ŝ >>= fun p => optO (lensetD p.1) >>= fun r => .ok (r, p.2))) :
    Snd Λ E X ir (.Call (.Name f p) [.Call (.Name g p2) [a] [] q] [] pos) := by
  obtain ⟨rfl, g1, _, _, m1⟩ := bltOk_gl c hf
  obtain ⟨rfl, g2, _, _, m2⟩ := bltOk_gl c hg
  refine Snd.plain ?_ rfl
  have es : sem Λ ir = fun ŝ => sem Λ ia ŝ >>= fun p => optO (lensetD p.1) >>= fun r => .ok (r, p.2) := funext hsem
  rw [hk, es]
  exact PE.imp (pe_lenSetT c.calm g1 m1 g2 m2 ha.pe (star_of hs _ _)) fun σ H Q q => rd_op1 vr_lenSet q
end
end Fw

set_option Elab.async false
set_option linter.all false
set_option maxRecDepth 100000
set_option maxHeartbeats 4000000
namespace Fw
open PySem PySem.Spec L2
section
variable {Λ : Env} {n : Nat} {C : Ck} {E : XK} {X : Cx} {a b e : Expr} {pos : Pos} {ia ib ir : IR}
/-! ### list(..), tuple(..) -/
theorem Rdb.scr {Θ : Th} {G H : Hp} {v : V} {l : List D} (sub : Same G H) (h : Rdb Θ G H v (scrD l)) : ∃ a xs, v = .ref a ∧ SqL Θ.K H a xs ∧ DVs Θ G xs l := by
  rcases h with h | ⟨a, rfl, h⟩
  · generalize e : scrD l = d at h
    unfold scrD at e
    cases h with
    | scr h t => unfold scrD at e; cases e; exact ⟨_, _, rfl, sqL_same sub h, t⟩
    | dct h1 h2 h3 h4 =>
      cases e
      generalize ek : List.map (fun x : D × D => x.1) [(PyData.none, PyData.list l)] = ks at h2
      cases h2 with
      | @int kv vs _ _ _ _ => cases kv <;> cases ek
      | @tup zs _ _ _ _ _ _ h5 h6 =>
        rw [← ek] at h6
        simp [keyT, tupK] at h6
    | fn => unfold fnD at e; cases e
    | _ => cases e
  · generalize e : scrD l = d at h
    unfold scrD at e
    cases h with
    | dct h1 h2 h3 h4 =>
      cases e
      generalize ek : List.map (fun x : D × D => x.1) [(PyData.none, PyData.list l)] = ks at h2
      cases h2 with
      | @int kv vs _ _ _ _ => cases kv <;> cases ek
      | @tup zs _ _ _ _ _ _ h5 h6 =>
        rw [← ek] at h6
        simp [keyT, tupK] at h6
    | _ => cases e
theorem vr_toL {Θ : Th} : VR1 Θ .fresh toLD (fun v H Q => ∃ p ys, [v] = [V.ref p] ∧ (SqL Θ.K H p ys ∨ SqT Θ.K H p ys) ∧ ∀ l, H l = none → Q (.ref l) (upd H l (.lst ys))) := by
  intro G H T ŝ σ v d z Q R hv hz hQ
  unfold toLD at hz
  split at hz
  · cases hz
    obtain ⟨a, xs, rfl, q1, t⟩ := hv.list R.sub
    exact ⟨a, xs, rfl, .inl (.of q1), fun p hp => hQ _ _ _ _ (Stp.made R hp t) ⟨p, rfl, rfl, hp⟩⟩
  · cases hz
    obtain ⟨a, xs, rfl, q1, q2, t⟩ := hv.tuple R.sub
    exact ⟨a, xs, rfl, .inr q2, fun p hp => hQ _ _ _ _ (Stp.made R hp t) ⟨p, rfl, rfl, hp⟩⟩
  · cases hz
    obtain ⟨a, xs, rfl, q1, t⟩ := Rdb.scr R.sub hv
    exact ⟨a, xs, rfl, .inl q1, fun p hp => hQ _ _ _ _ (Stp.made R hp t) ⟨p, rfl, rfl, hp⟩⟩
  · cases hz
theorem vr_toT {Θ : Th} : VR1 Θ .frozen toTD (fun v H Q => ∃ p ys, [v] = [V.ref p] ∧ ((SqL Θ.K H p ys ∧ ∀ l, H l = none → Q (.ref l) (upd H l (.tup ys))) ∨ (SqT Θ.K H p ys ∧ Q (.ref p) H))) := by
  intro G H T ŝ σ v d z Q R hv hz hQ
  unfold toTD at hz
  split at hz
  · cases hz
    obtain ⟨a, xs, rfl, q1, t⟩ := hv.list R.sub
    refine ⟨a, xs, rfl, .inl ⟨.of q1, fun p hp => ?_⟩⟩
    obtain ⟨s, dv⟩ := Stp.tup R hp t
    exact hQ _ _ _ T s ⟨rfl, dv⟩
  · cases hz
    obtain ⟨a, xs, rfl, q1, q2, t⟩ := hv.tuple R.sub
    exact ⟨a, xs, rfl, .inr ⟨q2, Stp.val R (.tup q1 t) hQ⟩⟩
  · cases hz
theorem snd_toL {f : Str} {p : Pos} (c : XC Λ n C E X) (hf : bltOk C f "list" = true) (hs : notStar a = true) (ha : Snd Λ E X ia a) : Snd Λ E X (.toL ia) (.Call (.Name f p) [a] [] pos) := by
  obtain ⟨rfl, hg, hd, hn, hm⟩ := bltOk_gl c hf
  exact blt1T (κ := .fresh) (g := toLD) hg hd hn hm (by decide +kernel) call_list_of vr_toL hs ha rfl fun _ => rfl
theorem snd_toT {f : Str} {p : Pos} (c : XC Λ n C E X) (hf : bltOk C f "tuple" = true) (hs : notStar a = true) (ha : Snd Λ E X ia a) : Snd Λ E X (.toT ia) (.Call (.Name f p) [a] [] pos) := by
  obtain ⟨rfl, hg, hd, hn, hm⟩ := bltOk_gl c hf
  exact blt1T (κ := .frozen) (g := toTD) hg hd hn hm (by decide +kernel) call_tuple_of vr_toT hs ha rfl fun _ => rfl
theorem rgV_dvs {Θ : Th} {G : Hp} {lo hi : Int} : DVs Θ G (rgV lo hi) (Fw.rngL lo hi) := by
  unfold rgV Fw.rngL
  have := DVs.ints (Θ := Θ) (G := G) ((List.range (hi - lo).toNat).map fun i => lo + (i : Nat))
  simpa [List.map_map, Function.comp_def] using this
theorem rngD_some {d : D} {l : List D} (h : rngD d = some l) : ∃ j : Int, d = .int j ∧ RgOk 0 j ∧ l = Fw.rngL 0 j := by
  unfold rngD at h
  split at h
  · split at h
    · rename_i j hj
      rw [decide_eq_true_eq] at hj
      cases h
      refine ⟨j, rfl, ⟨by omega, by omega, by omega, by omega, by omega⟩, rfl⟩
    · cases h
  · cases h
theorem snd_rngL {f g : Str} {p p2 pos2 : Pos} (c : XC Λ n C E X) (hf : bltOk C f "list" = true) (hg' : bltOk C g "range" = true) (hs : notStar a = true) (ha : Snd Λ E X ia a) : Snd Λ E X (.rngL ia) (.Call (.Name f p) [.Call (.Name g p2) [a] [] pos2] [] pos) := by
  obtain ⟨rfl, hg, hd, hn, hm⟩ := bltOk_gl c hf
  obtain ⟨rfl, hg2, hd2, hn2, hm2⟩ := bltOk_gl c hg'
  refine Snd.plain (PE.imp (pe_listRg c.calm hg hm (prg_1 hg2 hm2 ha.pe (star_of hs _ _)) rfl) fun σ H Q ⟨ŝ, G, T, R, w⟩ => ?_) rfl
  refine ⟨ŝ, G, T, R, (WO.bind.mp w).mono fun q _ k v H1 G1 T1 s1 r1 => ?_⟩
  obtain ⟨l, hl, k⟩ := WO.optb k
  obtain ⟨j, ej, hr, rfl⟩ := rngD_some hl
  have qv := r1.read s1.rep
  rw [ej] at qv
  refine ⟨j, qv.int, hr, fun p hp => ?_⟩
  have hp0 : H p = none := by
    cases z : H p with
    | none => rfl
    | some o => obtain ⟨o', z'⟩ := s1.ext.th p o z; rw [hp] at z'; cases z'
  exact k _ _ _ _ ((s1.suffix r1.suffix).trans (Stp.made (s1.rep.suffix r1.suffix) hp rgV_dvs)) ⟨p, rfl, rfl, hp0⟩
theorem snd_rngT {f g : Str} {p p2 pos2 : Pos} (c : XC Λ n C E X) (hf : bltOk C f "tuple" = true) (hg' : bltOk C g "range" = true) (hs : notStar a = true) (ha : Snd Λ E X ia a) : Snd Λ E X (.rngT ia) (.Call (.Name f p) [.Call (.Name g p2) [a] [] pos2] [] pos) := by
  obtain ⟨rfl, hg, hd, hn, hm⟩ := bltOk_gl c hf
  obtain ⟨rfl, hg2, hd2, hn2, hm2⟩ := bltOk_gl c hg'
  refine Snd.plain (PE.imp (pe_tupRg c.calm hg hm (prg_1 hg2 hm2 ha.pe (star_of hs _ _)) rfl) fun σ H Q ⟨ŝ, G, T, R, w⟩ => ?_) rfl
  refine ⟨ŝ, G, T, R, (WO.bind.mp w).mono fun q _ k v H1 G1 T1 s1 r1 => ?_⟩
  obtain ⟨l, hl, k⟩ := WO.optb k
  obtain ⟨j, ej, hr, rfl⟩ := rngD_some hl
  have qv := r1.read s1.rep
  rw [ej] at qv
  refine ⟨j, qv.int, hr, fun p hp => ?_⟩
  obtain ⟨st, dv⟩ := Stp.tup (s1.rep.suffix r1.suffix) hp (rgV_dvs (Θ := thOf X) (G := G1) (lo := 0) (hi := j))
  exact k _ _ _ _ ((s1.suffix r1.suffix).trans st) ⟨rfl, dv⟩
/-! ### slices -/
theorem partN_some {d : D} {o : Option Int} (hn : isNoneC ia = false) (h : partN ia d = some o) : ∃ i, d = .int i ∧ o = some i := by
  unfold partN at h
  split at h
  · cases hn
  · cases h; exact ⟨_, rfl, rfl⟩
  · cases h
/-- a bound of a slice -/
def RdO (Θ : Th) (E : XK) (ia : IR) (f : FS → Out (D × FS)) : TO := fun σ H Q => ∃ ŝ G T, Rep Θ G T ŝ σ H ∧ WO Θ E H (Own ŝ σ) (f ŝ) fun p =>
  ∃ o, partN ia p.1 = some o ∧ ∀ H' G', Stp Θ σ ŝ H G p.2 H' G' T → Q o H'
theorem PO.imp {o : Option Expr} {t t' : TO} (h : PO X o t) (k : ∀ σ H Q, t' σ H Q → t σ H Q) : PO X o t' := ⟨fun pins s σ H Q I q => h.run pins s σ H Q I (k σ H Q q)⟩
theorem po_of {lo : Option Expr} (ho : ∀ e, lo = some e → isBor ia = false ∧ isNoneC ia = false ∧ Snd Λ E X ia e) (hn : lo = none → isNoneC ia = true) : PO X lo (RdO (thOf X) E ia (sem Λ ia)) := by
  cases lo with
  | none =>
    have h := hn rfl
    refine PO.imp po_none fun σ H Q ⟨ŝ, G, T, R, w⟩ => ?_
    unfold isNoneC at h
    split at h
    · obtain ⟨o, ho, k⟩ := w
      cases ho
      exact k H G (Stp.refl R)
    · cases h
  | some e =>
    obtain ⟨nb, nn, h⟩ := ho e rfl
    refine PO.imp (po_some (h.frozen nb)) fun σ H Q ⟨ŝ, G, T, R, w⟩ => ?_
    refine ⟨ŝ, G, T, R, w.mono fun p _ ⟨o, ho, k⟩ v H1 G1 T1 s1 r1 => ?_⟩
    obtain ⟨rfl, dv⟩ := r1
    obtain ⟨i, e1, e2⟩ := partN_some nn ho
    rw [e1] at dv
    cases dv
    subst e2
    exact ⟨i, rfl, k H1 G1 s1⟩
theorem rd_sli {κ κa : Kd} {Θ : Th} {il ih : IR} {g : D → Option Int → Option Int → Option D} {r : V → Option Int → Option Int → Hp → VK → Prop} {f fl fh : FS → Out (D × FS)}
    (hr : ∀ {G H : Hp} {T : List (Addr × D)} {ŝ : FS} {σ : L2.St} {v : V} {d z : D} {lo hi : Option Int} {Q : VK}, Rep Θ G T ŝ σ H → Rdb Θ G H v d → g d lo hi = some z → (∀ u H' G' T', Stp Θ σ ŝ H G ŝ H' G' T' → RK Θ κ G' H T T' ŝ σ u z → Q u H') → r v lo hi H Q)
    {σ : L2.St} {H : Hp} {Q : VK} (h : RdE Θ E κ (fun ŝ => f ŝ >>= fun p => fl p.2 >>= fun q => optO (partN il q.1) >>= fun l => fh q.2 >>= fun z => optO (partN ih z.1) >>= fun h => optO (lateK κa z.2 p.1) >>= fun d => optO (g d l h) >>= fun r => .ok (r, z.2)) σ H Q) :
    tSl r (RdE Θ E κa f) (RdO Θ E il fl) (RdO Θ E ih fh) σ H Q := by
  obtain ⟨ŝ, G, T, R, w⟩ := h
  refine ⟨ŝ, G, T, R, (WO.bind.mp w).mono fun p _ k v H1 G1 T1 s1 r1 => ?_⟩
  refine ⟨p.2, G1, T1, s1.rep, (WO.bind.mp (k.step s1)).mono fun q _ k2 => ?_⟩
  obtain ⟨lo, hl, k3⟩ := WO.optb k2
  refine ⟨lo, hl, fun H2 G2 s2 => ?_⟩
  refine ⟨q.2, G2, T1, s2.rep, (WO.bind.mp (k3.step s2)).mono fun z _ k4 => ?_⟩
  obtain ⟨hi, hh, k5⟩ := WO.optb k4
  refine ⟨hi, hh, fun H3 G3 s3 => ?_⟩
  obtain ⟨d, hd, k6⟩ := WO.optb k5
  obtain ⟨y, hy, k7⟩ := WO.optb k6
  have s23 := s2.trans s3
  have s13 := s1.trans s23
  exact hr (s3.rep.suffix r1.suffix) (r1.later s23 (List.suffix_refl _) hd) hy fun u H' G' T' s4 r4 => k7 u H' G' T' ((s13.suffix r1.suffix).trans s4) (r4.back s13.ext)
theorem sliT_some {d z : D} {lo hi : Option Int} (h : sliT d lo hi = some z) : ∃ l, d = .tuple l ∧ z = .tuple (cutA l lo hi) := by
  unfold sliT at h
  split at h
  · cases h; exact ⟨_, rfl, rfl⟩
  · cases h
theorem sliLD_some {d z : D} {lo hi : Option Int} (h : sliLD d lo hi = some z) : ∃ l, d = .list l ∧ z = .list (cutA l lo hi) := by
  unfold sliLD at h
  split at h
  · cases h; exact ⟨_, rfl, rfl⟩
  · cases h
theorem snd_sli {il ih : IR} {lo hi : Option Expr} {p2 : Pos} (ha : Snd Λ E X ia a) (hl : PO X lo (RdO (thOf X) E il (sem Λ il))) (hh : PO X hi (RdO (thOf X) E ih (sem Λ ih))) : Snd Λ E X (.sli ia il ih) (.Subscript a (.Slice lo hi none p2) pos) := by
  refine Snd.plain (PE.imp (pe_slice sl_tupA ha.pe hl hh) fun σ H Q q => ?_) rfl
  refine rd_sli (κ := .frozen) (g := sliT) (fun R hv hz hQ => ?_) (?_ : RdE (thOf X) E .frozen _ σ H Q)
  · obtain ⟨l, rfl, rfl⟩ := sliT_some hz
    exact vr_sliT R hv hQ
  · have e : sem Λ (.sli ia il ih) = fun ŝ => sem Λ ia ŝ >>= fun p => sem Λ il p.2 >>= fun q => optO (partN il q.1) >>= fun l => sem Λ ih q.2 >>= fun z => optO (partN ih z.1) >>= fun h => optO (lateK (kd ia) z.2 p.1) >>= fun d => optO (sliT d l h) >>= fun r => .ok (r, z.2) := by
      funext ŝ
      simp only [sem, late_kd]
    rw [← e]
    exact q
theorem snd_sliL {il ih : IR} {lo hi : Option Expr} {p2 : Pos} (ha : Snd Λ E X ia a) (hl : PO X lo (RdO (thOf X) E il (sem Λ il))) (hh : PO X hi (RdO (thOf X) E ih (sem Λ ih))) : Snd Λ E X (.sliL ia il ih) (.Subscript a (.Slice lo hi none p2) pos) := by
  refine Snd.plain (PE.imp (pe_slice sl_list ha.pe hl hh) fun σ H Q q => ?_) rfl
  refine rd_sli (κ := .fresh) (g := sliLD) (fun R hv hz hQ => ?_) (?_ : RdE (thOf X) E .fresh _ σ H Q)
  · obtain ⟨l, rfl, rfl⟩ := sliLD_some hz
    exact vr_sliL R hv hQ
  · have e : sem Λ (.sliL ia il ih) = fun ŝ => sem Λ ia ŝ >>= fun p => sem Λ il p.2 >>= fun q => optO (partN il q.1) >>= fun l => sem Λ ih q.2 >>= fun z => optO (partN ih z.1) >>= fun h => optO (lateK (kd ia) z.2 p.1) >>= fun d => optO (sliLD d l h) >>= fun r => .ok (r, z.2) := by
      funext ŝ
      simp only [sem, late_kd]
    rw [← e]
    exact q
theorem snd_revL {k : Nat} {p1 p2 p3 : Pos} (ha : Snd Λ E X ia a) : Snd Λ E X (.revL ia) (.Subscript a (.Slice none none (some (.UnaryOp .USub (.Constant (.int 1) k p1) p2)) p3) pos) := by
  refine Snd.plain (PE.imp (pe_revL ha.pe) fun σ H Q q => ?_) rfl
  refine rd_op1 (κ := .fresh) (κa := kd ia) (g := revLD) (r := fun x H1 Q => ∃ a xs, x = .ref a ∧ SqL X.K H1 a xs ∧ ∀ p, H1 p = none → Q (.ref p) (upd H1 p (.lst xs.reverse))) ?_ q
  intro G H T ŝ σ v d z Q R hv hz hQ
  unfold revLD at hz
  split at hz
  · cases hz
    obtain ⟨a, xs, rfl, q1, t⟩ := hv.list R.sub
    exact ⟨a, xs, rfl, .of q1, fun p hp => hQ _ _ _ _ (Stp.made R hp t.reverse) ⟨p, rfl, rfl, hp⟩⟩
  · cases hz
/-! ### methods of a list of one's own -/
theorem att_base {x : Str} {p : Pos} {m : Str} {env : PySem.Env} : attributeBase (.Name x p) m env (eval (.Name x p) env) = eval (.Name x p) env := rfl
theorem snd_app {y : Str} {i : Nat} {p ap : Pos} (c : XC Λ n C E X) (hv : visOk C i y = true) (hs : notStar a = true) (na : isBor ia = false) (hline : (ap.endLine == pos.line) = true) (ha : Snd Λ E X ia a) : Snd Λ E X (.app i ia) (.Call (.Attribute (.Name y p) "append" ap) [a] [] pos) := by
  obtain ⟨v1, v2, v3, v4⟩ := visOk_vis c hv
  have hst : (backTo pos (starEach [a] X.env)).all (fun x => !x.1) = true := by
    rw [star_of hs]; rfl
  refine Snd.plain (PE.imp (pe_bm PySem.F.plainAttrs_list PySem.F.slot_list_append PySem.F.type_list_append mt_append (pe_var v1 v2 v3 v4) (pa_1 hs (ha.frozen na)) att_base (by rw [hst]; rfl) hline (star_of hs _ _) rfl) fun σ H Q ⟨ŝ, G, T, R, w⟩ => ?_) rfl
  obtain ⟨c0, hc0, w⟩ := WO.optb w
  obtain ⟨l0, hl0, w⟩ := WO.optb w
  rw [lstD_some hl0] at hc0
  obtain ⟨a, ea, _, ov0⟩ := R.own (readO_some hc0)
  have ty : tyV X.K "list" (.ref a) H := by
    cases ov0 with
    | lst q t => exact .inl ⟨rfl, _, .of q⟩
  refine ⟨.ref a, ea, ty, ŝ, G, T, R, (WO.bind.mp w).mono fun q _ k v H1 G1 T1 s1 r1 => ?_⟩
  obtain ⟨rfl, dv⟩ := r1
  obtain ⟨cc, hcc, k⟩ := WO.optb k
  obtain ⟨l, hl, k⟩ := WO.optb k
  obtain ⟨hz, k⟩ := WO.ite k
  rw [lstD_some hl] at hcc
  have hcs := readO_some hcc
  obtain ⟨a', ea', gn, ov⟩ := s1.rep.own hcs
  rw [ea] at ea'
  cases ea'
  cases ov with
  | lst hq t =>
    rename_i xs
    refine ⟨a, xs, v, rfl, rfl, hq, by rw [t.len]; exact hz, ?_⟩
    have owna : Own q.2 σ a := ⟨i, _, hcs, ea⟩
    exact k _ _ G1 _ ⟨s1.ext.trans (Ext.mut owna ⟨_, hq⟩) (fun b o z _ => s1.own b z), fun b z => s1.own b (Own.of_set_o hcs z), s1.rep.mut hcs ea (.lst upd_same (t.append (.cons dv .nil)))⟩ ⟨rfl, .non⟩
theorem snd_pop {y : Str} {i : Nat} {p ap : Pos} (c : XC Λ n C E X) (hv : visOk C i y = true) (hline : (ap.endLine == pos.line) = true) : Snd Λ E X (.pop i) (.Call (.Attribute (.Name y p) "pop" ap) [] [] pos) := by
  obtain ⟨v1, v2, v3, v4⟩ := visOk_vis c hv
  refine Snd.plain (PE.imp (pe_bm0 PySem.F.plainAttrs_list PySem.F.slot_list_pop PySem.F.type_list_pop mt_pop (pe_var v1 v2 v3 v4) att_base hline) fun σ H Q ⟨ŝ, G, T, R, w⟩ => ?_) rfl
  obtain ⟨c0, hc0, w⟩ := WO.optb w
  obtain ⟨l, hl0, w⟩ := WO.optb w
  obtain ⟨d, hd, w⟩ := WO.optb w
  rw [lstD_some hl0] at hc0
  have hcs := readO_some hc0
  obtain ⟨a, ea, gn, ov⟩ := R.own hcs
  cases ov with
  | lst hq t =>
    rename_i xs
    rw [← t.len] at hd
    obtain ⟨v, hv, dv⟩ := t.get hd
    refine ⟨.ref a, ea, .inl ⟨rfl, _, .of hq⟩, a, xs, v, rfl, rfl, hq, hv, ?_⟩
    have owna : Own ŝ σ a := ⟨i, _, hcs, ea⟩
    have t' : DVs (thOf X) G xs.dropLast l.dropLast := by
      rw [List.dropLast_eq_take, List.dropLast_eq_take, t.len]
      exact t.take _
    exact w _ _ G _ ⟨Ext.mut owna ⟨_, hq⟩, fun b z => Own.of_set_o hcs z, R.mut hcs ea (.lst upd_same t')⟩ ⟨rfl, dv⟩
theorem snd_popi {y : Str} {i : Nat} {p ap : Pos} (c : XC Λ n C E X) (hv : visOk C i y = true) (hs : notStar a = true) (na : isBor ia = false) (hline : (ap.endLine == pos.line) = true) (ha : Snd Λ E X ia a) : Snd Λ E X (.popi i ia) (.Call (.Attribute (.Name y p) "pop" ap) [a] [] pos) := by
  obtain ⟨v1, v2, v3, v4⟩ := visOk_vis c hv
  have hst : (backTo pos (starEach [a] X.env)).all (fun x => !x.1) = true := by
    rw [star_of hs]; rfl
  refine Snd.plain (PE.imp (pe_bm PySem.F.plainAttrs_list PySem.F.slot_list_pop PySem.F.type_list_pop mt_popAt (pe_var v1 v2 v3 v4) (pa_1 hs (ha.frozen na)) att_base (by rw [hst]; rfl) hline (star_of hs _ _) rfl) fun σ H Q ⟨ŝ, G, T, R, w⟩ => ?_) rfl
  obtain ⟨c0, hc0, w⟩ := WO.optb w
  obtain ⟨l0, hl0, w⟩ := WO.optb w
  rw [lstD_some hl0] at hc0
  obtain ⟨a, ea, _, ov0⟩ := R.own (readO_some hc0)
  have ty : tyV X.K "list" (.ref a) H := by
    cases ov0 with
    | lst q t => exact .inl ⟨rfl, _, .of q⟩
  refine ⟨.ref a, ea, ty, ŝ, G, T, R, (WO.bind.mp w).mono fun q _ k v H1 G1 T1 s1 r1 => ?_⟩
  obtain ⟨rfl, dv⟩ := r1
  obtain ⟨cc, hcc, k⟩ := WO.optb k
  obtain ⟨l, hl, k⟩ := WO.optb k
  rw [lstD_some hl] at hcc
  have hcs := readO_some hcc
  obtain ⟨a', ea', gn, ov⟩ := s1.rep.own hcs
  rw [ea] at ea'
  cases ea'
  obtain ⟨dk, sk⟩ := q
  cases dk with
  | int z =>
    obtain ⟨hr, k⟩ := WO.ite k
    obtain ⟨j, hj, k⟩ := WO.optb k
    obtain ⟨d, hd, k⟩ := WO.optb k
    cases dv
    cases ov with
    | lst hq t =>
      rename_i xs
      obtain ⟨w, hw, dw⟩ := t.get hd
      obtain ⟨j1, j2, j3, j4⟩ := ixN_seq hj
      rw [← t.len] at j1
      obtain ⟨b1, b2⟩ := rngOk_of hr
      refine ⟨a, xs, z, j, w, rfl, rfl, hq, by omega, by omega, j1, hw, ?_⟩
      have owna : Own sk σ a := ⟨i, _, hcs, ea⟩
      exact k _ _ G1 _ ⟨s1.ext.trans (Ext.mut owna ⟨_, hq⟩) (fun b o z _ => s1.own b z), fun b z => s1.own b (Own.of_set_o hcs z), s1.rep.mut hcs ea (.lst upd_same (t.eraseIdx j))⟩ ⟨rfl, dw⟩
  | _ => exact k.elim
end
end Fw

set_option Elab.async false
set_option linter.all false
set_option maxRecDepth 100000
set_option maxHeartbeats 4000000
namespace Fw
open PySem PySem.Spec L2

/-! ### a list or a tuple, walked by an iterator -/
inductive SK where
  | l (a : Addr) | t (a : Addr)
def SK.ad : SK → Addr
  | .l a => a
  | .t a => a
def SK.at (K : PySem.W.Frag) (H : Hp) : SK → List V → Prop
  | .l a, xs => SqL K H a xs
  | .t a, xs => SqT K H a xs
def SK.it (h : Heap) (it : Addr) (i : Nat) : SK → Prop
  | .l a => h.IsListIter it a i
  | .t a => h.IsTupleIter it a i
def SK.is (h : Heap) (its : Array Value) : SK → Prop
  | .l a => h.IsList a its
  | .t a => h.IsTuple a its
def SK.obj : SK → Obj
  | .l a => { cls := .type "list_iterator", data := .fields #[.ref a, .int 0 0] }
  | .t a => { cls := .type "tuple_iterator", data := .fields #[.ref a, .int 0 0] }
theorem SK.draws {prog : Program} {w : World} {A : Around} (hh : A.handled = none) (it : Addr) (k : SK) (hne : k.ad ≠ it) (its : Array Value) :
    Draws prog w A it [it, k.ad] its.size (fun i v => its[i]? = some v) (fun i h => k.it h it i ∧ k.is h its) := by
  cases k with
  | l a => exact Draws.list hh it a hne its
  | t a => exact Draws.tuple hh it a hne its
theorem SK.begins (k : SK) (its : Array Value) : Begins (.ref k.ad) k.obj (fun h => k.is h its) := by
  cases k with
  | l a => exact begins_list a its
  | t a => exact begins_tuple a its
theorem SK.get {X : Cx} {pins : List (Addr × Obj)} {σ : L2.St} {H : Hp} {s : Shared} {k : SK} {xs : List V} (I : Inv X pins σ H s) (hq : k.at X.K H xs) : ∃ its, Vals xs its ∧ k.is s.heap its.toArray ∧ k.ad < s.heap.objs.size := by
  cases k with
  | l a =>
    obtain ⟨its, rv, p, _⟩ := I.list hq
    exact ⟨its, rv, p.isList, p.lt⟩
  | t a =>
    obtain ⟨its, rv, p, _⟩ := I.tuple hq
    obtain ⟨o, ho, _⟩ := id p
    exact ⟨its, rv, p, Heap.lt_size ho⟩
theorem SK.inj {X : Cx} {pins : List (Addr × Obj)} {σ : L2.St} {H : Hp} {s : Shared} {k : SK} {xs ys : List V} (I : Inv X pins σ H s) (h : k.at X.K H xs) (h' : k.at X.K H ys) : xs = ys := by
  cases k with
  | l a => exact I.list_inj h h'
  | t a => exact I.tuple_inj h h'
theorem SK.it_ob {h : Heap} {it : Addr} {i : Nat} {k : SK} (p : k.it h it i) : ∃ o, h.get? it = some o ∧ ∀ v, o.data ≠ .cell v := by
  cases k <;> exact let ⟨o, e, _, d⟩ := p; ⟨o, e, fun v q => by rw [d] at q; cases q⟩
theorem SK.it_at {h h' : Heap} {it : Addr} {i : Nat} {k : SK} (p : k.it h it i) (e : ∀ o, h.get? it = some o → h'.get? it = some o) : k.it h' it i := by
  cases k
  · exact p.at e
  · exact p.at e
theorem SK.begun {h : Heap} {it : Addr} {k : SK} (e : h.get? it = some k.obj) : k.it h it 0 := by
  cases k <;> exact ⟨_, e, rfl, rfl⟩
theorem arr_get {its : List Value} {i : Nat} {u : Value} (h : its.toArray[i]? = some u) : its[i]? = some u := by simpa using h
theorem vals_at {xs : List V} {its : List Value} {i : Nat} {u : Value} (r : Vals xs its) (h : its[i]? = some u) : ∃ x, xs[i]? = some x ∧ RelV x u := by
  induction r generalizing i with
  | nil => simp at h
  | cons q t ih =>
    cases i with
    | zero => simp at h; subst h; exact ⟨_, rfl, q⟩
    | succ i => exact ih (by simpa using h)

/-! ### enumerate -/
def Itee (K : PySem.W.Frag) (k : SK) : It :=
  ⟨fun i H => ∃ (xs : List V) (x : V), k.at K H xs ∧ xs[i]? = some x, fun i H v H' => ∃ T x, v = .ref T ∧ H T = none ∧ H' = upd H T (.tup [.int (i : Nat), x]) ∧ ∀ xs, k.at K H xs → xs[i]? = some x, fun i H => ∃ xs : List V, k.at K H xs ∧ xs.length = i⟩
theorem turn_enumS {P : Program} {w : World} {K : PySem.W.Frag} {elts : List Expr} {kk : Nat} {tpos : Pos} (k : SK) (e it : Addr) (s1 : k.ad ≠ it) (s2 : k.ad ≠ e) :
    Turn P w K (.Tuple elts kk tpos) (Itee K k) [e, it] e (fun i h => (∃ old, IsEnum h e it ((i : Nat) : Int) old) ∧ k.it h it i ∧ e ≠ it) where
  mem := by simp
  obj := fun i h st b hb => by
    obtain ⟨⟨old, he⟩, hi, _⟩ := st
    have e' : b = e ∨ b = it := by simpa using hb
    rcases e' with z | z
    · rw [z]; exact ⟨_, he, fun v q => nomatch q⟩
    · rw [z]; exact SK.it_ob hi
  keep := fun i h h' st kk => let ⟨⟨old, he⟩, hi, hne⟩ := st; ⟨⟨old, kk e (by simp) _ he⟩, SK.it_at hi fun o q => kk it (by simp) o q, hne⟩
  item := by
    intro X hP hw hK hc i pins s σ H E I hf st hg
    subst hP hw hK
    obtain ⟨⟨old, he⟩, hit, hne⟩ := st
    obtain ⟨xs, x, hq, hx⟩ := hg
    obtain ⟨its, rv, p, _⟩ := SK.get I hq
    have hel : e < s.heap.objs.size := Heap.lt_size he
    have hil : it < s.heap.objs.size := by obtain ⟨_, q, _⟩ := SK.it_ob hit; exact Heap.lt_size q
    have hlen := rv.length
    have hi := (List.getElem?_eq_some_iff.mp hx).1
    refine wpAny_pyNext_enum_itemC (SK.draws (prog := X.prog) (w := X.w) (A := X.A.in1) (show X.A.in1.handled = none from I.ok.hd hc) it k s1 its.toArray) he ⟨hit, p⟩ (by simp; omega) hne (by simp; exact ⟨hne, Ne.symm s2⟩) fun u h' tk hu ho hit' hT hsz hk => ?_
    obtain ⟨x', hx', ru⟩ := vals_at rv (arr_get hu)
    rw [hx] at hx'
    cases hx'
    refine ⟨_, rfl, wpAny_letOwnedTupleGo_enum (s := { s with heap := h', toks := tk + 1 }) ho fun h'' he' sb => ?_⟩
    have hT2 : h''.get? s.heap.objs.size = some { cls := .type "tuple", data := .seq #[.int i tk, u] } := (sb.2 _ (Nat.ne_of_gt hel)).trans hT
    have new : ObjOk X.prog X.w (upd H s.heap.objs.size (.tup [.int (i : Nat), x])) h'' s.heap.objs.size (.tup [.int (i : Nat), x]) :=
      ⟨by show 2 ≤ sizeLine; decide, [.int i tk, u], .cons ⟨_, rfl⟩ (.cons ru .nil), ⟨_, hT2, rfl, _, rfl⟩⟩
    have I1 : Inv X pins σ (upd H s.heap.objs.size (.tup [.int (i : Nat), x])) { s with heap := h'', toks := tk + 1 } :=
      I.turnedNew (t' := tk + 1) (ch := [e, it]) (fun b ob hb q => (sb.2 b (fun z => hb (by simp [z]))).trans (hk b ob (fun z => hb (by simp [z])) (fun z => hb (by simp [z])) q)) hf (Nat.le_refl _) new
    refine ⟨.ref s.heap.objs.size, _, I1, rfl, ⟨_, x, rfl, I.hok.fresh (Nat.le_refl _), rfl, fun ys hy => by rw [SK.inj I hy hq]; exact hx⟩, ⟨⟨u, ?_⟩, SK.it_at hit'.1 fun o q => (sb.2 it (Ne.symm hne)).trans q, hne⟩, fun b hb => ?_⟩
    · have e1 : ((i + 1 : Nat) : Int) = (i : Int) + 1 := by omega
      rw [e1]; exact he'
    · have hb' : b < s.heap.objs.size := by
        have e' : b = e ∨ b = it := by simpa using hb
        rcases e' with z | z
        · rw [z]; exact hel
        · rw [z]; exact hil
      rw [upd_ne (Nat.ne_of_lt hb')]
      exact (hf b hb).1
  done := by
    intro X hP hw hK hc i pins s σ H E I hf st hg
    subst hP hw hK
    obtain ⟨⟨old, he⟩, hit, hne⟩ := st
    obtain ⟨xs, hq, hx⟩ := hg
    obtain ⟨its, rv, p, _⟩ := SK.get I hq
    obtain ⟨f0, f1, f2, f3, f4, f5⟩ := hf it (by simp)
    have hl := rv.length
    have hsz : its.toArray.size = i := by simp; omega
    subst hsz
    exact wpAny_pyNext_enum_endD (SK.draws (prog := X.prog) (w := X.w) (A := X.A.in1) (show X.A.in1.handled = none from I.ok.hd hc) it k s1 its.toArray) he ⟨hit, p⟩ fun h' eb => ⟨rfl, I.turned (t' := s.toks) (fun b o hb q => eb b o hb q) f0 f1 f3 f4 f5⟩
  self := fun A i s Q E st h => let ⟨⟨_, he⟩, _⟩ := st; wpAny_pyIter_enum he h

open AutoSeq1 (wpAny_loadPart') in
theorem meets_enumerate_newB1 {k : SK} {o : Obj} {H : Heap → Prop} (B : Begins (.ref k.ad) o H) :
    Meets (Builtin.«enumerate.__new__» ⟨[.type "enumerate", .ref k.ad], []⟩) (fun _ R s => (H s.heap ∧ ∃ ol, s.heap.get? k.ad = some ol) ∧
      R (.ok (.ret (.ref (s.heap.push o).objs.size))) { s with heap := (s.heap.push o).push { cls := .type "enumerate", data := .fields #[.none, .bool false, .ref s.heap.objs.size, rawInt 0, .none, .none] } }) :=
  .of_wp fun prog w A R s h => by
    obtain ⟨hp, g, d, tk, os⟩ := s; obtain ⟨⟨h1, ol, hl⟩, h⟩ := h
    have hsub := sub_enumerate
    have q1 : ∀ {A' : Around} {E : Value → Shared → Prop} {Q : Value → Shared → Prop}, Q (.ref hp.objs.size) ⟨hp.push o, g, d, tk, os⟩ → wpAny (model prog w) A' (pyIter (.ref k.ad)) Q E ⟨hp, g, d, tk, os⟩ :=
      fun q => B.iter prog w _ _ ⟨hp, g, d, tk, os⟩ _ h1 q
    wp_walk using wpAny_loadPart' hl
    refine wpAny_stack_any fun st => wpAny_pure ?_
    split
    · rename_i c _ _ _ _ _
      cases (c == Value.type "enumerate")
      · wp_walk using wpAny_loadPart' hl, q1
        exact ⟨_, rfl, h⟩
      · wp_walk using wpAny_loadPart' hl, q1
        exact ⟨_, rfl, h⟩
    · wp_walk using wpAny_loadPart' hl, q1
      exact ⟨_, rfl, h⟩
theorem SK.there {h : Heap} {its : Array Value} {k : SK} (p : k.is h its) : ∃ o, h.get? k.ad = some o := by
  cases k <;> exact let ⟨o, e, _⟩ := p; ⟨o, e⟩
section
variable {prog : Program} {w : World} {A : Around} {E : Value → Shared → Prop} {s : Shared}
theorem call_enumS {k : SK} {its : Array Value} {Q : Value → Shared → Prop} (hk : k.is s.heap its)
    (h : ∀ h', IsEnum h' (s.heap.objs.size + 1) s.heap.objs.size 0 .none → h'.get? s.heap.objs.size = some k.obj → (∀ b o, s.heap.get? b = some o → h'.get? b = some o) → Q (.ref (s.heap.objs.size + 1)) { s with heap := h' }) :
    wpAny (model prog w) A (call (.type "enumerate") [.ref k.ad]) Q E s := by
  have B := SK.begins k its
  generalize k.obj = o at *
  refine callType_new F.called_enumerate (by decide) (F.typeCall_enumerate_1 _) (F.newCall_enumerate_1 _) (fun obj => F.args_object_init_2 obj _) F.entry_enumerate_new
    (meets_enumerate_newB1 B) ⟨⟨hk, SK.there hk⟩, ?_⟩
  have hz : (s.heap.push o).objs.size = s.heap.objs.size + 1 := Heap.size_push ..
  show _ ∧ _
  rw [hz]
  have he : IsEnum ((s.heap.push o).push { cls := .type "enumerate", data := .fields #[.none, .bool false, .ref s.heap.objs.size, rawInt 0, .none, .none] }) (s.heap.objs.size + 1) s.heap.objs.size 0 .none := by
    have := Heap.get?_push_size (s.heap.push o) (o := { cls := .type "enumerate", data := .fields #[.none, .bool false, .ref s.heap.objs.size, rawInt 0, .none, .none] }) rfl
    rw [hz] at this; exact this
  exact ⟨⟨_, he, rfl⟩, h _ he (Heap.get?_push_of_some _ (Heap.get?_push_size _ B.free)) fun b o x => Heap.get?_push_of_some _ (Heap.get?_push_of_some _ x)⟩
end
def iEnumS (K : PySem.W.Frag) (ta : TA) : TI := fun σ H R => ta σ H fun vs H1 => ∃ (k : SK) (xs : List V), vs = [.ref k.ad] ∧ k.at K H1 xs ∧ R (Itee K k) H1
theorem pi_enumS {X : Cx} {e : Expr} {ta : TA} {p pos tpos : Pos} {elts : List Expr} {kk : Nat} (hg : Gl X "enumerate") (hm : X.mg "enumerate" = none) (ha : PA X [e] ta) (hs : starEach [e] X.env = [(false, eval e X.env)]) :
    PI X (.Tuple elts kk tpos) (.Call (.Name "enumerate" p) [e] [] pos) (iEnumS X.K ta) := by
  refine ⟨fun pins s σ H R I h => ?_⟩
  refine PyProof.Rows.Call_ (ld_blt I hg hm PyProof.Rows.boot_enumerate (PyProof.Rows.callWith_type1 (thn (ha.run pos pins s σ H _ I h) fun us s1 ⟨vs, H1, I1, r1, q1⟩ => ?_) hs rfl))
  obtain ⟨k, xs, ex, hq, q⟩ := q1
  subst ex
  cases r1 with
  | cons r rr =>
    cases rr
    cases r
    obtain ⟨its, rv, p', hl⟩ := SK.get I1 hq
    refine call_enumS p' fun h' he hit hk => wpAny_pyIter_enum he ?_
    have I2 : Inv X pins σ H1 { s1 with heap := h' } := I1.kept (t' := s1.toks) hk
    refine ⟨s1.heap.objs.size + 1, [s1.heap.objs.size + 1, s1.heap.objs.size], _, _, H1, rfl, I2, turn_enumS k (s1.heap.objs.size + 1) s1.heap.objs.size (Nat.ne_of_lt hl) (Nat.ne_of_lt (Nat.lt_succ_of_lt hl)), ⟨⟨.none, he⟩, SK.begun hit, Nat.succ_ne_self _⟩, fun b hb => ?_, q⟩
    have e' : b = s1.heap.objs.size + 1 ∨ b = s1.heap.objs.size := by simpa using hb
    have hle : s1.heap.objs.size ≤ b := by
      rcases e' with z | z
      · rw [z]; exact Nat.le_add_right _ _
      · rw [z]; exact Nat.le_refl _
    exact I1.fpOk hle (I1.hok.fresh hle)
theorem walk_enumS {K : PySem.W.Frag} {k : SK} {xs : List V} : Walk (Itee K k) xs.length (fun H => k.at K H xs) (YPair (fun i => some (.int (i : Nat))) (fun i => xs[i]?)) where
  goes := fun i H hi h => ⟨xs, _, h, List.getElem?_eq_getElem hi⟩
  stops := fun H h => ⟨xs, h, rfl⟩
  yields := fun i H x H' hi h y => by
    obtain ⟨T, x', rfl, hT, rfl, f⟩ := y
    exact ⟨T, _, x', rfl, hT, rfl, rfl, f xs h⟩

/-! ### zip -/
def Itz2 (K : PySem.W.Frag) (a b : SK) : It :=
  ⟨fun i H => ∃ (xs ys : List V) (x y : V), a.at K H xs ∧ b.at K H ys ∧ xs[i]? = some x ∧ ys[i]? = some y,
    fun i H v H' => ∃ T x y, v = .ref T ∧ H T = none ∧ H' = upd H T (.tup [x, y]) ∧ (∀ xs, a.at K H xs → xs[i]? = some x) ∧ ∀ ys, b.at K H ys → ys[i]? = some y,
    fun i H => ∃ xs ys : List V, a.at K H xs ∧ b.at K H ys ∧ i ≤ xs.length ∧ i ≤ ys.length ∧ (xs.length = i ∨ ys.length = i)⟩
theorem turn_zip2 {P : Program} {w : World} {K : PySem.W.Frag} {elts : List Expr} {kk : Nat} {tpos : Pos} {a b : SK} {z TI TO i1 i2 : Addr} (D : ZipSep2 z TI TO i1 i2 [i1, a.ad] [i2, b.ad]) (s1 : a.ad ≠ i1) (s2 : b.ad ≠ i2) :
    Turn P w K (.Tuple elts kk tpos) (Itz2 K a b) [z, TI, TO, i1, i2] z (fun i h => IsZip h z TI TO .none ∧ IsTupOf2 h TI (.ref i1) (.ref i2) ∧ (∃ x y, IsTupOf2 h TO x y) ∧ a.it h i1 i ∧ b.it h i2 i) where
  mem := by simp
  obj := fun i h st c hc => by
    obtain ⟨hz, hTI, ⟨x, y, hTO⟩, h1, h2⟩ := st
    have e' : c = z ∨ c = TI ∨ c = TO ∨ c = i1 ∨ c = i2 := by simpa using hc
    rcases e' with q | q | q | q | q
    · rw [q]; exact ⟨_, hz, fun v q => nomatch q⟩
    · rw [q]; exact ⟨_, hTI, fun v q => nomatch q⟩
    · rw [q]; exact ⟨_, hTO, fun v q => nomatch q⟩
    · rw [q]; exact SK.it_ob h1
    · rw [q]; exact SK.it_ob h2
  keep := fun i h h' st k => by
    obtain ⟨hz, hTI, ⟨x, y, hTO⟩, h1, h2⟩ := st
    exact ⟨k z (by simp) _ hz, k TI (by simp) _ hTI, ⟨x, y, k TO (by simp) _ hTO⟩, SK.it_at h1 fun o q => k i1 (by simp) o q, SK.it_at h2 fun o q => k i2 (by simp) o q⟩
  item := by
    intro X hP hw hK hc i pins s σ H E I hf st hg
    subst hP hw hK
    obtain ⟨hz, hTI, ⟨x0, y0, hTO⟩, h1, h2⟩ := st
    obtain ⟨xs, ys, x, y, hqx, hqy, hx, hy⟩ := hg
    obtain ⟨its, rv, p, _⟩ := SK.get I hqx
    obtain ⟨its2, rv2, p2, _⟩ := SK.get I hqy
    have l1 := rv.length
    have l2 := rv2.length
    have hi := (List.getElem?_eq_some_iff.mp hx).1
    have hi2 := (List.getElem?_eq_some_iff.mp hy).1
    have hzl : z < s.heap.objs.size := Heap.lt_size hz
    refine wpAny_pyNext_zipD2_item D (SK.draws (prog := X.prog) (w := X.w) (A := X.A.in1) (show X.A.in1.handled = none from I.ok.hd hc) i1 a s1 its.toArray) (SK.draws (prog := X.prog) (w := X.w) (A := X.A.in1) (show X.A.in1.handled = none from I.ok.hd hc) i2 b s2 its2.toArray) hz hTI hTO ⟨h1, p⟩ ⟨h2, p2⟩ (by simp; omega) (by simp; omega) fun u u2 h' tk hu hu2 z' TO' h1' h2' hT hsz hk => ?_
    obtain ⟨x', hx', ru⟩ := vals_at rv (arr_get hu)
    rw [hx] at hx'
    cases hx'
    obtain ⟨y', hy', ru2⟩ := vals_at rv2 (arr_get hu2)
    rw [hy] at hy'
    cases hy'
    refine ⟨_, rfl, wpAny_letOwnedTupleGo_zip (s := { s with heap := h', toks := tk }) z' fun h'' z'' sb => ?_⟩
    have hT2 : h''.get? s.heap.objs.size = some { cls := .type "tuple", data := .seq #[u, u2] } := (sb.2 _ (Nat.ne_of_gt hzl)).trans hT
    have new : ObjOk X.prog X.w (upd H s.heap.objs.size (.tup [x, y])) h'' s.heap.objs.size (.tup [x, y]) :=
      ⟨by show 2 ≤ sizeLine; decide, [u, u2], .cons ru (.cons ru2 .nil), ⟨_, hT2, rfl, _, rfl⟩⟩
    have I1 : Inv X pins σ (upd H s.heap.objs.size (.tup [x, y])) { s with heap := h'', toks := tk } :=
      I.turnedNew (t' := tk) (ch := [z, TI, TO, i1, i2]) (fun c o hb q => (sb.2 c (fun q' => hb (by simp [q']))).trans (hk c o (fun q' => hb (by simp [q'])) (fun q' => hb (by simp [q'])) (fun q' => hb (by simp [q'])) (fun q' => hb (by simp [q'])) q)) hf (Nat.le_refl _) new
    refine ⟨.ref s.heap.objs.size, _, I1, rfl, ⟨_, x, y, rfl, I.hok.fresh (Nat.le_refl _), rfl, fun l hl => by rw [SK.inj I hl hqx]; exact hx, fun l hl => by rw [SK.inj I hl hqy]; exact hy⟩, ⟨z'', ?_, ⟨u, u2, ?_⟩, ?_, ?_⟩, fun c hcm => ?_⟩
    · exact (sb.2 _ D.TIz).trans (hk _ _ D.TIz D.TITO D.TIi1 D.TIi2 hTI)
    · exact (sb.2 _ D.TOz).trans TO'
    · exact SK.it_at h1'.1 fun o q => (sb.2 _ (Ne.symm D.zi1)).trans q
    · exact SK.it_at h2'.1 fun o q => (sb.2 _ (Ne.symm D.zi2)).trans q
    · have hlt : c < s.heap.objs.size := by
        have e' : c = z ∨ c = TI ∨ c = TO ∨ c = i1 ∨ c = i2 := by simpa using hcm
        rcases e' with q | q | q | q | q
        · rw [q]; exact hzl
        · rw [q]; exact Heap.lt_size hTI
        · rw [q]; exact Heap.lt_size hTO
        · rw [q]; obtain ⟨_, e1, _⟩ := SK.it_ob h1; exact Heap.lt_size e1
        · rw [q]; obtain ⟨_, e2, _⟩ := SK.it_ob h2; exact Heap.lt_size e2
      rw [upd_ne (Nat.ne_of_lt hlt)]
      exact (hf c hcm).1
  done := by
    intro X hP hw hK hc i pins s σ H E I hf st hg
    subst hP hw hK
    obtain ⟨hz, hTI, ⟨x0, y0, hTO⟩, h1, h2⟩ := st
    obtain ⟨xs, ys, hqx, hqy, le1, le2, hend⟩ := hg
    obtain ⟨its, rv, p, _⟩ := SK.get I hqx
    obtain ⟨its2, rv2, p2, _⟩ := SK.get I hqy
    have l1 := rv.length
    have l2 := rv2.length
    refine wpAny_pyNext_zipD2_end D (SK.draws (prog := X.prog) (w := X.w) (A := X.A.in1) (show X.A.in1.handled = none from I.ok.hd hc) i1 a s1 its.toArray) (SK.draws (prog := X.prog) (w := X.w) (A := X.A.in1) (show X.A.in1.handled = none from I.ok.hd hc) i2 b s2 its2.toArray) hz hTI hTO ⟨h1, p⟩ ⟨h2, p2⟩ (by simp; omega) (by simp; omega) (by simp; omega) fun h' tk hk => ⟨rfl, I.turnedL (t' := tk) (ch := [z, TI, TO, i1, i2]) (fun c o hb q =>
      hk c o (fun q' => hb (by simp [q'])) (fun q' => hb (by simp [q'])) (fun q' => hb (by simp [q'])) (fun q' => hb (by simp [q'])) q) hf⟩
  self := fun A i s Q E st h => wpAny_pyIter_zip st.1 h
def iZip2 (K : PySem.W.Frag) (ta : TA) : TI := fun σ H R => ta σ H fun vs H1 => ∃ (a b : SK) (xs ys : List V), vs = [.ref a.ad, .ref b.ad] ∧ a.at K H1 xs ∧ b.at K H1 ys ∧ R (Itz2 K a b) H1
theorem pi_zip2 {X : Cx} {e e2 : Expr} {ta : TA} {p pos tpos : Pos} {elts : List Expr} {kk : Nat} (hg : Gl X "zip") (hm : X.mg "zip" = none) (ha : PA X [e, e2] ta)
    (hs : starEach [e, e2] X.env = (false, eval e X.env) :: starEach [e2] X.env) (hpl : (backTo pos (starEach [e2] X.env)).any (·.1) = false) :
    PI X (.Tuple elts kk tpos) (.Call (.Name "zip" p) [e, e2] [] pos) (iZip2 X.K ta) := by
  refine ⟨fun pins s σ H R I h => ?_⟩
  refine PyProof.Rows.Call_ (ld_blt I hg hm PyProof.Rows.boot_zip (PyProof.Rows.callWith_type1 (thn (ha.run pos pins s σ H _ I h) fun us s1 ⟨vs, H1, I1, r1, q1⟩ => ?_) hs hpl))
  obtain ⟨a, b, xs, ys, ex, hqx, hqy, q⟩ := q1
  subst ex
  cases r1 with
  | cons r rr =>
    cases rr with
    | cons r' rr =>
      cases rr
      cases r
      cases r'
      obtain ⟨its, rv, p1, la⟩ := SK.get I1 hqx
      obtain ⟨its2, rv2, p2, lb⟩ := SK.get I1 hqy
      refine zip_begins2 (SK.begins a its.toArray) (SK.begins b its2.toArray) p1 p2 fun h' hz hTI hTO h1 h2 hsz hk => wpAny_pyIter_zip hz ?_
      have I2 : Inv X pins σ H1 { s1 with heap := h' } := I1.kept (t' := s1.toks) hk
      refine ⟨s1.heap.objs.size + 4, [s1.heap.objs.size + 4, s1.heap.objs.size + 2, s1.heap.objs.size + 3, s1.heap.objs.size, s1.heap.objs.size + 1], _, _, H1, rfl, I2, turn_zip2 (zip_sep2 (fp1 := [a.ad]) (fp2 := [b.ad]) (by simpa using la) (by simpa using lb)) (Nat.ne_of_lt la) (Nat.ne_of_lt (Nat.lt_succ_of_lt lb)), ⟨hz, hTI, ⟨_, _, hTO⟩, SK.begun h1, SK.begun h2⟩, fun c hcm => ?_, q⟩
      have e' : c = s1.heap.objs.size + 4 ∨ c = s1.heap.objs.size + 2 ∨ c = s1.heap.objs.size + 3 ∨ c = s1.heap.objs.size ∨ c = s1.heap.objs.size + 1 := by simpa using hcm
      have hle : s1.heap.objs.size ≤ c := by
        rcases e' with z | z | z | z | z
        · rw [z]; exact Nat.le_add_right _ _
        · rw [z]; exact Nat.le_add_right _ _
        · rw [z]; exact Nat.le_add_right _ _
        · rw [z]; exact Nat.le_refl _
        · rw [z]; exact Nat.le_add_right _ _
      exact I1.fpOk hle (I1.hok.fresh hle)
theorem walk_zip2 {K : PySem.W.Frag} {a b : SK} {xs ys : List V} {n : Nat} (hn : n = min xs.length ys.length) : Walk (Itz2 K a b) n (fun H => a.at K H xs ∧ b.at K H ys) (YPair (fun i => xs[i]?) (fun i => ys[i]?)) where
  goes := fun i H hi h => ⟨xs, ys, _, _, h.1, h.2, List.getElem?_eq_getElem (by omega), List.getElem?_eq_getElem (by omega)⟩
  stops := fun H h => ⟨xs, ys, h.1, h.2, by omega, by omega, by omega⟩
  yields := fun i H x H' hi h y => by
    obtain ⟨T, x', y', rfl, hT, rfl, f, g⟩ := y
    exact ⟨T, x', y', rfl, hT, rfl, f xs h.1, g ys h.2⟩

/-! ### their readings -/
theorem sk_of {Θ : Th} {G : Hp} {v : V} {d : D} {l : List D} (dv : DV Θ G v d) (h : seqD d = some l) : ∃ (k : SK) (xs : List V), v = .ref k.ad ∧ (∀ H, Same G H → k.at Θ.K H xs) ∧ DVs Θ G xs l := by
  unfold seqD at h
  split at h
  · cases h
    cases dv with
    | lst hq t => exact ⟨.l _, _, rfl, fun H s => SqL.of (s _ _ hq), t⟩
  · cases h
    cases dv with
    | tup hq t => exact ⟨.t _, _, rfl, fun H s => sqT_same s hq, t⟩
  · cases h
theorem enumL_get : ∀ (l : List D) (n i : Nat), (enumL n l)[i]? = (l[i]?).map fun d => PyData.tuple [.int ((n + i : Nat)), d]
  | [], n, i => by simp [enumL]
  | d :: r, n, 0 => by simp [enumL]
  | d :: r, n, i + 1 => by
    simp only [enumL, List.getElem?_cons_succ]
    rw [enumL_get r (n + 1) i, Nat.add_right_comm]; rfl
theorem enumL_len : ∀ (l : List D) (n : Nat), (enumL n l).length = l.length
  | [], _ => rfl
  | _ :: r, n => by simp [enumL, enumL_len r (n + 1)]
theorem zipL_get : ∀ (l m : List D) (i : Nat) (x y : D), l[i]? = some x → m[i]? = some y → (zipL l m)[i]? = some (.tuple [x, y])
  | [], _, i, x, y, h, _ => by simp at h
  | _ :: _, [], i, x, y, _, h => by simp at h
  | a :: r, b :: q, 0, x, y, h, h' => by simp at h h'; subst h h'; rfl
  | a :: r, b :: q, i + 1, x, y, h, h' => by
    simp only [zipL, List.getElem?_cons_succ]
    exact zipL_get r q i x y (by simpa using h) (by simpa using h')
theorem zipL_len : ∀ (l m : List D), (zipL l m).length = min l.length m.length
  | [], _ => by simp [zipL]
  | _ :: _, [] => by simp [zipL]
  | a :: r, b :: q => by simp [zipL, zipL_len r q]
section
variable {Λ : Env} {n : Nat} {C : Ck} {E : XK} {X : Cx} {a b e : Expr} {pos : Pos} {ia ib ir : IR} {elts : List Expr} {kk : Nat} {tpos : Pos}
theorem snd_ienum {f : Str} {p : Pos} (c : XC Λ n C E X) (hf : bltOk C f "enumerate" = true) (hs : notStar a = true) (na : isBor ia = false) (ha : Snd Λ E X ia a) : SndI Λ E X (.Tuple elts kk tpos) (.ienum ia) (.Call (.Name f p) [a] [] pos) := by
  obtain ⟨rfl, hg, hd, hn, hm⟩ := bltOk_gl c hf
  refine ⟨PI.imp (pi_enumS hg hm (pa_1 hs (ha.frozen na)) (star_of hs _ _)) fun σ H R ⟨ŝ, G, T, R0, w⟩ => ?_⟩
  refine ⟨ŝ, G, T, R0, (WO.bind.mp w).mono fun p _ k v H1 G1 T1 s1 r1 => ?_⟩
  obtain ⟨l, hl, l', e', k⟩ := WO.optb k
  cases e'
  obtain ⟨rfl, dv⟩ := r1
  obtain ⟨sk, xs, rfl, hat, t⟩ := sk_of dv hl
  refine ⟨sk, xs, rfl, hat _ s1.rep.sub, k _ H1 G1 s1 ?_⟩
  rw [enumL_len, ← t.len]
  refine walk_enumS.mono (fun H h => hat _ h) fun i H x H' hi _ y => ?_
  obtain ⟨T, x', y', rfl, hT, rfl, ex, ey⟩ := y
  cases ex
  obtain ⟨d, hd, dv'⟩ := t.getV ey
  refine ⟨.tuple [.int i, d], by rw [enumL_get, hd]; simp, .inr (.inl ⟨T, _, _, hT, rfl, rfl, rfl, .cons (.int _) (.cons dv' .nil)⟩)⟩
theorem snd_izip {f : Str} {p : Pos} (c : XC Λ n C E X) (hf : bltOk C f "zip" = true) (hs : notStar a = true) (hs2 : notStar b = true) (na : isBor ia = false) (nb : isBor ib = false) (ha : Snd Λ E X ia a) (hb : Snd Λ E X ib b) : SndI Λ E X (.Tuple elts kk tpos) (.izip ia ib) (.Call (.Name f p) [a, b] [] pos) := by
  obtain ⟨rfl, hg, hd, hn, hm⟩ := bltOk_gl c hf
  refine ⟨PI.imp (pi_zip2 hg hm (pa_cons (ha.frozen na) (pa_1 hs2 (hb.frozen nb)) (star_of hs _ _)) (star_of hs _ _) (by rw [star_of hs2]; rfl)) fun σ H R ⟨ŝ, G, T, R0, w⟩ => ?_⟩
  refine ⟨ŝ, G, T, R0, (WO.bind.mp w).mono fun p _ k v H1 G1 T1 s1 r1 => ?_⟩
  obtain ⟨rfl, dv⟩ := r1
  refine ⟨p.2, G1, _, s1.rep, (WO.bind.mp (k.step s1)).mono fun q _ k2 v2 H2 G2 T2 s2 r2 => ?_⟩
  obtain ⟨rfl, dv2⟩ := r2
  obtain ⟨l, hl, k2⟩ := WO.optb k2
  obtain ⟨m, hm, l', e', k2⟩ := WO.optb k2
  cases e'
  obtain ⟨sk, xs, rfl, hat, t⟩ := sk_of (dv.same s2.ext.gg) hl
  obtain ⟨sk2, ys, rfl, hat2, t2⟩ := sk_of dv2 hm
  refine ⟨sk, sk2, xs, ys, rfl, hat _ s2.rep.sub, hat2 _ s2.rep.sub, k2 _ H2 G2 (s1.trans s2) ?_⟩
  rw [zipL_len, ← t.len, ← t2.len]
  refine (walk_zip2 rfl).mono (fun H h => ⟨hat _ h, hat2 _ h⟩) fun i H x H' hi _ y => ?_
  obtain ⟨T, x', y', rfl, hT, rfl, ex, ey⟩ := y
  obtain ⟨d, hd, dv'⟩ := t.getV ex
  obtain ⟨d2, hd2, dv2'⟩ := t2.getV ey
  exact ⟨.tuple [d, d2], zipL_get _ _ _ _ _ hd hd2, .inr (.inl ⟨T, _, _, hT, rfl, rfl, rfl, .cons dv' (.cons dv2' .nil)⟩)⟩
end
end Fw

set_option Elab.async false
set_option linter.all false
set_option maxRecDepth 100000
set_option maxHeartbeats 4000000
namespace Fw
open PySem PySem.Spec L2
/-! ### zip, its tuple still handed out -/
abbrev IsZG (h : Heap) (z TI TO : Addr) (f0 : Value) (b : Bool) : Prop := h.get? z = some { cls := .type "zip", data := .fields #[f0, .bool b, .bool false, .ref TI, .ref TO] }
def F0 (f0 : Value) : Prop := f0 = .none ∨ ∃ a : Int, f0 = rawInt a
section
variable {prog : Program} {w : World} {A : Around} {E : Value → Shared → Prop} {s : Shared} {z TI TO i1 i2 : Addr} {fp1 fp2 : List Addr} {n1 n2 i : Nat} {P1 P2 : Nat → Value → Prop} {St1 St2 : Nat → Heap → Prop} {a1 a2 f0 : Value} {b : Bool}
theorem wpAny_alive {M : Model} {a : Addr} {Q : Option Obj → Shared → Prop} (h : Q (s.heap.get? a) s) : wpAny M A (loadIfAlive a) Q E s := fun Γ p hΓ => by
  unfold loadIfAlive
  rw [Sem.wp_loadIfAlive]
  exact (wpAny_pure (M := M) (A := A) (E := E) h) Γ p hΓ
theorem free_or {Q : Bool → Shared → Prop} (hz : IsZG s.heap z TI TO f0 b) (hf : F0 f0) (h1 : Q true s) (h2 : ∀ h', IsZG h' z TI TO f0 true → Heap.SameBut z s.heap h' → Q false { s with heap := h' }) :
    wpAny (model prog w) A (Builtin.SmallTypes.ownedTupleIsFree (.ref z)) Q E s := by
  unfold Builtin.SmallTypes.ownedTupleIsFree
  refine wpAny_bind (wpAny_field hz rfl (x := f0) rfl ?_)
  rcases hf with rfl | ⟨a, rfl⟩
  · exact wpAny_pure h1
  · show wpAny _ _ (loadIfAlive a.toNat >>= _) _ _ _
    refine wpAny_bind (wpAny_alive ?_)
    cases s.heap.get? a.toNat with
    | none => exact wpAny_pure h1
    | some o =>
      show wpAny _ _ (field (.ref z) 1 >>= _) _ _ _
      refine wpAny_bind (wpAny_field hz rfl (x := .bool b) rfl ?_)
      cases b with
      | true => exact wpAny_pure (h2 s.heap hz ⟨rfl, fun _ _ => rfl⟩)
      | false =>
        show wpAny _ _ (setField (.ref z) 1 (.bool true) >>= _) _ _ _
        refine wpAny_bind (wpAny_setField_rec hz (by simp) fun g0 hz0 hs0 => wpAny_pure ?_)
        exact h2 g0 hz0 hs0
theorem zipG_next_item {Q : Value → Shared → Prop} (S : ZipSep2 z TI TO i1 i2 fp1 fp2) (D1 : Draws prog w A i1 fp1 n1 P1 St1) (D2 : Draws prog w A i2 fp2 n2 P2 St2)
    (hz : IsZG s.heap z TI TO f0 b) (hf : F0 f0) (hTI : IsTupOf2 s.heap TI (.ref i1) (.ref i2)) (hTO : IsTupOf2 s.heap TO a1 a2) (st1 : St1 i s.heap) (st2 : St2 i s.heap) (hlt1 : i < n1) (hlt2 : i < n2)
    (hQ : ∀ x1 x2 h' tk, P1 i x1 → P2 i x2 → (∃ f0' b', F0 f0' ∧ IsZG h' z TI TO f0' b') → IsTupOf2 h' TI (.ref i1) (.ref i2) → (∃ a1 a2, IsTupOf2 h' TO a1 a2) → St1 (i + 1) h' → St2 (i + 1) h' → IsTupOf2 h' s.heap.objs.size x1 x2 → h'.objs.size = s.heap.objs.size + 1 →
      (∀ c o, c ≠ z → c ≠ TO → c ≠ i1 → c ≠ i2 → s.heap.get? c = some o → h'.get? c = some o) → Q (.ref s.heap.objs.size) { s with heap := h', toks := tk }) :
    wpAny (model prog w) A (Builtin.«zip.__next__» ⟨[.ref z], []⟩) (fun fin s' => ∃ v, fin = .done (.ret v) ∧ Q v s') E s := by
  obtain ⟨hp, g, d, tk0, os⟩ := s
  show wpAny _ _ (field (.ref z) 2 >>= _) _ _ _
  refine wpAny_bind (wpAny_field hz rfl (x := .bool false) rfl ?_)
  show wpAny _ _ (field (.ref z) 3 >>= _) _ _ _
  refine wpAny_bind (wpAny_field hz rfl (x := .ref TI) rfl ?_)
  refine wpAny_bind (wpAny_seqItems hTI rfl ?_)
  show wpAny _ _ (Builtin.SmallTypes.ownedTupleIsFree (.ref z) >>= _) _ _ _
  refine wpAny_bind (free_or (s := ⟨hp, g, d, tk0, os⟩) hz hf ?_ fun g0 hz0 hs0 => ?_)
  · simp only [if_true]
    refine wpAny_bind (wpAny_rule ?_)
    refine wpAny_bind (wpAny_field hz rfl (x := .ref TO) rfl ?_)
    refine wpAny_bind (wpAny_setField_rec hz (by simp) fun g0 hz0 hs0 => ?_)
    replace hz0 : IsZG g0 z TI TO .ellipsis b := hz0
    replace hs0 : Heap.SameBut z hp g0 := hs0
    refine wpAny_bind ?_
    simp only [List.zipIdx_cons, List.zipIdx_nil, List.forIn_cons, List.forIn_nil]
    refine wpAny_bind (wpAny_bind (wpAny_onRaise ?_))
    show wpAny _ _ (Builtin.SmallTypes.nextOf (.ref i1) >>= _) _ _ ⟨g0, g, d, tk0, os⟩
    refine wpAny_bind (D1.item i _ _ _ hlt1 (D1.over st1 hs0 S.zf1) fun x1 p1 tk1 hx1 sn1 hp1 => wpAny_pure ?_)
    replace hp1 : Heap.SameBut i1 g0 p1 := hp1
    have hU1 : IsTupOf2 p1 TO a1 a2 := hp1.extBut _ _ S.Ti1 (hs0.extBut _ _ S.TOz hTO)
    refine wpAny_bind (wpAny_seqItems (s := ⟨p1, g, d, tk1, os⟩) hU1 rfl ?_)
    refine wpAny_bind (updateSeq_IsTupOf2 (s := ⟨p1, g, d, tk1, os⟩) hU1 fun g1 hT1 hs1 => ?_)
    replace hT1 : IsTupOf2 g1 TO x1 a2 := hT1
    replace hs1 : Heap.SameBut TO p1 g1 := hs1
    refine wpAny_bind (wpAny_letGo (wpAny_pure ?_))
    refine wpAny_bind (wpAny_bind (wpAny_onRaise ?_))
    show wpAny _ _ (Builtin.SmallTypes.nextOf (.ref i2) >>= _) _ _ ⟨g1, g, d, tk1, os⟩
    refine wpAny_bind (D2.item i _ _ _ hlt2 (D2.over (D2.over (D2.over st2 hs0 S.zf2) hp1 S.sep1_2) hs1 S.Tf2) fun x2 p2 tk2 hx2 sn2 hp2 => wpAny_pure ?_)
    replace hp2 : Heap.SameBut i2 g1 p2 := hp2
    have hU2 : IsTupOf2 p2 TO x1 a2 := hp2.extBut _ _ S.Ti2 hT1
    refine wpAny_bind (wpAny_seqItems (s := ⟨p2, g, d, tk2, os⟩) hU2 rfl ?_)
    refine wpAny_bind (updateSeq_IsTupOf2 (s := ⟨p2, g, d, tk2, os⟩) hU2 fun g2 hT2 hs2 => ?_)
    replace hT2 : IsTupOf2 g2 TO x1 x2 := hT2
    replace hs2 : Heap.SameBut TO p2 g2 := hs2
    refine wpAny_bind (wpAny_letGo (wpAny_pure (wpAny_pure ?_)))
    refine wpAny_bind (wpAny_seqItems (s := ⟨g2, g, d, tk2, os⟩) hT2 rfl ?_)
    refine wpAny_bind (wpAny_newTuple ?_)
    have hsz : g2.objs.size = hp.objs.size := by rw [hs2.1, hp2.1, hs1.1, hp1.1, hs0.1]
    have hzz : IsZG g2 z TI TO .ellipsis b := (hs2.extBut _ _ S.TOz.symm (hp2.extBut _ _ S.zi2 (hs1.extBut _ _ S.TOz.symm (hp1.extBut _ _ S.zi1 hz0))))
    have hkk : ∀ c o, c ≠ z → c ≠ TO → c ≠ i1 → c ≠ i2 → hp.get? c = some o → g2.get? c = some o := fun c o cz cT c1 c2 e =>
      (hs2.extBut _ _ cT (hp2.extBut _ _ c2 (hs1.extBut _ _ cT (hp1.extBut _ _ c1 (hs0.extBut _ _ cz e)))))
    have hj1 : St1 (i + 1) g2 := (D1.over (D1.over (D1.over sn1 hs1 S.Tf1) hp2 S.sep2_1) hs2 S.Tf1)
    have hj2 : St2 (i + 1) g2 := (D2.over sn2 hs2 S.Tf2)
    have hzlt : z < g2.objs.size := Heap.lt_size hzz
    show wpAny _ _ (Builtin.SmallTypes.ownedTupleHandOut (.ref z) (.ref g2.objs.size) >>= _) _ _ ⟨g2.push { cls := .type "tuple", data := .seq #[x1, x2] }, g, d, tk2, os⟩
    refine wpAny_bind ?_
    unfold Builtin.SmallTypes.ownedTupleHandOut
    have hz₆ : IsZG (g2.push { cls := .type "tuple", data := .seq #[x1, x2] }) z TI TO .ellipsis b := Heap.get?_push_of_some _ hzz
    refine wpAny_bind (wpAny_setField_rec hz₆ (by simp) fun h₇ hz₇ hs₇ => ?_)
    replace hz₇ : IsZG h₇ z TI TO (rawInt g2.objs.size) b := hz₇
    refine wpAny_setField_rec hz₇ (by simp) fun h₈ hz₈ hs₈ => ?_
    replace hz₈ : IsZG h₈ z TI TO (rawInt g2.objs.size) false := hz₈
    replace hs₇ : Heap.SameBut z (g2.push { cls := .type "tuple", data := .seq #[x1, x2] }) h₇ := hs₇
    replace hs₈ : Heap.SameBut z h₇ h₈ := hs₈
    have up : ∀ c o, c ≠ z → g2.get? c = some o → h₈.get? c = some o := fun c o c1 e => hs₈.extBut _ _ c1 (hs₇.extBut _ _ c1 (Heap.get?_push_of_some _ e))
    have hT₈ : IsTupOf2 h₈ g2.objs.size x1 x2 := hs₈.extBut _ _ (Nat.ne_of_gt hzlt) (hs₇.extBut _ _ (Nat.ne_of_gt hzlt) (Heap.get?_push_size _ rfl))
    have hz8 : h₈.objs.size = g2.objs.size + 1 := by rw [hs₈.1, hs₇.1, Heap.size_push]
    rw [hsz] at hz₈ hT₈ hz8
    refine wpAny_pure ⟨_, rfl, ?_⟩
    show Q (.ref g2.objs.size) ⟨h₈, g, d, tk2, os⟩
    rw [hsz]
    exact hQ x1 x2 h₈ tk2 hx1 hx2 ⟨_, _, .inr ⟨_, rfl⟩, hz₈⟩ (up _ _ S.TIz (hkk _ _ S.TIz S.TITO S.TIi1 S.TIi2 hTI)) ⟨_, _, up _ _ S.TOz hT2⟩ (D1.frame _ _ _ hj1 fun b hb o e => up b o (fun q => S.zf1 (q ▸ hb)) e) (D2.frame _ _ _ hj2 fun b hb o e => up b o (fun q => S.zf2 (q ▸ hb)) e) hT₈ hz8 fun c o cz cT c1 c2 e => up c o cz (hkk c o cz cT c1 c2 e)
  · replace hz0 : IsZG g0 z TI TO f0 true := hz0
    replace hs0 : Heap.SameBut z hp g0 := hs0
    simp only [Bool.false_eq_true, if_false]
    rw [← Array.forIn_toList]
    simp only [List.forIn_cons, List.forIn_nil]
    refine wpAny_bind (wpAny_bind (wpAny_bind (wpAny_holding ?_)))
    show wpAny _ _ (Builtin.SmallTypes.nextOf (.ref i1) >>= _) _ _ ⟨g0, g, d, tk0, os⟩
    refine wpAny_bind (D1.item i _ _ _ hlt1 (D1.over st1 hs0 S.zf1) fun x1 p1 tk1 hx1 sn1 hp1 => wpAny_pure ?_)
    replace hp1 : Heap.SameBut i1 g0 p1 := hp1
    refine wpAny_pure ?_
    refine wpAny_bind (wpAny_bind (wpAny_holding ?_))
    show wpAny _ _ (Builtin.SmallTypes.nextOf (.ref i2) >>= _) _ _ ⟨p1, g, d, tk1, os⟩
    refine wpAny_bind (D2.item i _ _ _ hlt2 (D2.over (D2.over st2 hs0 S.zf2) hp1 S.sep1_2) fun x2 p2 tk2 hx2 sn2 hp2 => wpAny_pure ?_)
    replace hp2 : Heap.SameBut i2 p1 p2 := hp2
    refine wpAny_pure (wpAny_pure ?_)
    refine wpAny_bind (wpAny_newTuple ?_ (by show 2 ≤ sizeLine; decide))
    refine wpAny_pure ⟨_, rfl, ?_⟩
    have hsz : p2.objs.size = hp.objs.size := by rw [hp2.1, hp1.1, hs0.1]
    have hkk : ∀ c o, c ≠ z → c ≠ i1 → c ≠ i2 → hp.get? c = some o → p2.get? c = some o := fun c o cz c1 c2 e => hp2.extBut _ _ c2 (hp1.extBut _ _ c1 (hs0.extBut _ _ cz e))
    have up : ∀ c o, p2.get? c = some o → (p2.push { cls := .type "tuple", data := .seq #[x1, x2] }).get? c = some o := fun c o e => Heap.get?_push_of_some _ e
    show Q (.ref p2.objs.size) ⟨p2.push { cls := .type "tuple", data := .seq #[x1, x2] }, g, d, tk2, os⟩
    have hz2 : IsZG p2 z TI TO f0 true := hp2.extBut _ _ S.zi2 (hp1.extBut _ _ S.zi1 hz0)
    have hT : IsTupOf2 (p2.push { cls := .type "tuple", data := .seq #[x1, x2] }) p2.objs.size x1 x2 := Heap.get?_push_size _ rfl
    rw [hsz] at hT
    rw [hsz]
    exact hQ x1 x2 _ tk2 hx1 hx2 ⟨_, _, hf, up _ _ hz2⟩ (up _ _ (hkk _ _ S.TIz S.TIi1 S.TIi2 hTI)) ⟨_, _, up _ _ (hkk _ _ S.TOz S.Ti1 S.Ti2 hTO)⟩
      (D1.frame _ _ _ (D1.over sn1 hp2 S.sep2_1) fun b hb o e => up b o e) (D2.frame _ _ _ sn2 fun b hb o e => up b o e) hT (by rw [Heap.size_push, hsz]) fun c o cz cT c1 c2 e => up c o (hkk c o cz c1 c2 e)
theorem zipG_next_end {Q : Fin → Shared → Prop} (S : ZipSep2 z TI TO i1 i2 fp1 fp2) (D1 : Draws prog w A i1 fp1 n1 P1 St1) (D2 : Draws prog w A i2 fp2 n2 P2 St2)
    (hz : IsZG s.heap z TI TO f0 b) (hf : F0 f0) (hTI : IsTupOf2 s.heap TI (.ref i1) (.ref i2)) (hTO : IsTupOf2 s.heap TO a1 a2) (st1 : St1 i s.heap) (st2 : St2 i s.heap) (hle1 : i ≤ n1) (hle2 : i ≤ n2) (hend : i = n1 ∨ i = n2)
    (hE : ∀ h' tk e, (∀ c o, c ≠ z → c ≠ TO → c ≠ i1 → c ≠ i2 → s.heap.get? c = some o → h'.get? c = some o) → (∃ o, h'.get? e = some o ∧ o.cls = .type "StopIteration") → E (.ref e) { s with heap := h', toks := tk }) :
    wpAny (model prog w) A (Builtin.«zip.__next__» ⟨[.ref z], []⟩) Q E s := by
  obtain ⟨hp, g, d, tk0, os⟩ := s
  show wpAny _ _ (field (.ref z) 2 >>= _) _ _ _
  refine wpAny_bind (wpAny_field hz rfl (x := .bool false) rfl ?_)
  show wpAny _ _ (field (.ref z) 3 >>= _) _ _ _
  refine wpAny_bind (wpAny_field hz rfl (x := .ref TI) rfl ?_)
  refine wpAny_bind (wpAny_seqItems hTI rfl ?_)
  show wpAny _ _ (Builtin.SmallTypes.ownedTupleIsFree (.ref z) >>= _) _ _ _
  refine wpAny_bind (free_or (s := ⟨hp, g, d, tk0, os⟩) hz hf ?_ fun g0 hz0 hs0 => ?_)
  · simp only [if_true]
    refine wpAny_bind (wpAny_rule ?_)
    refine wpAny_bind (wpAny_field hz rfl (x := .ref TO) rfl ?_)
    refine wpAny_bind (wpAny_setField_rec hz (by simp) fun g0 hz0 hs0 => ?_)
    replace hz0 : IsZG g0 z TI TO .ellipsis b := hz0
    replace hs0 : Heap.SameBut z hp g0 := hs0
    refine wpAny_bind ?_
    simp only [List.zipIdx_cons, List.zipIdx_nil, List.forIn_cons, List.forIn_nil]
    refine wpAny_bind (wpAny_bind (wpAny_onRaise ?_))
    show wpAny _ _ (Builtin.SmallTypes.nextOf (.ref i1) >>= _) _ _ ⟨g0, g, d, tk0, os⟩
    by_cases hlt1 : i < n1
    · refine wpAny_bind (D1.item i _ _ _ hlt1 (D1.over st1 hs0 S.zf1) fun x1 p1 tk1 hx1 sn1 hp1 => wpAny_pure ?_)
      replace hp1 : Heap.SameBut i1 g0 p1 := hp1
      have hU1 : IsTupOf2 p1 TO a1 a2 := hp1.extBut _ _ S.Ti1 (hs0.extBut _ _ S.TOz hTO)
      refine wpAny_bind (wpAny_seqItems (s := ⟨p1, g, d, tk1, os⟩) hU1 rfl ?_)
      refine wpAny_bind (updateSeq_IsTupOf2 (s := ⟨p1, g, d, tk1, os⟩) hU1 fun g1 hT1 hs1 => ?_)
      replace hT1 : IsTupOf2 g1 TO x1 a2 := hT1
      replace hs1 : Heap.SameBut TO p1 g1 := hs1
      refine wpAny_bind (wpAny_letGo (wpAny_pure ?_))
      have hi2 : i = n2 := by omega
      refine wpAny_bind (wpAny_bind (wpAny_onRaise ?_))
      show wpAny _ _ (Builtin.SmallTypes.nextOf (.ref i2) >>= _) _ _ ⟨g1, g, d, tk1, os⟩
      refine wpAny_bind (D2.done ⟨g1, g, d, tk1, os⟩ _ _ (by rw [← hi2]; exact (D2.over (D2.over (D2.over st2 hs0 S.zf2) hp1 S.sep1_2) hs1 S.Tf2)) fun q e hq he => ?_)
      replace hq : Heap.ExtBut i2 g1 q := hq
      obtain ⟨oe, hoe, hce⟩ := he
      replace hoe : q.get? e = some oe := hoe
      have hzq : IsZG q z TI TO .ellipsis b := hq _ _ S.zi2 (hs1.extBut _ _ S.TOz.symm (hp1.extBut _ _ S.zi1 hz0))
      have hez : e ≠ z := fun x => by subst x; rw [hzq] at hoe; cases hoe; simp at hce
      refine wpAny_setField_rec (s := ⟨q, g, d, tk1, os⟩) hzq (by simp) fun q' _ hq' => ?_
      replace hq' : Heap.SameBut z q q' := hq'
      exact hE q' tk1 e (fun c o cz cT c1 c2 x => hq'.extBut _ _ cz (hq _ _ c2 (hs1.extBut _ _ cT (hp1.extBut _ _ c1 (hs0.extBut _ _ cz x))))) ⟨oe, hq'.extBut _ _ hez hoe, hce⟩
    · have hi1 : i = n1 := by omega
      refine wpAny_bind (D1.done ⟨g0, g, d, tk0, os⟩ _ _ (by rw [← hi1]; exact (D1.over st1 hs0 S.zf1)) fun q e hq he => ?_)
      replace hq : Heap.ExtBut i1 g0 q := hq
      obtain ⟨oe, hoe, hce⟩ := he
      replace hoe : q.get? e = some oe := hoe
      have hzq : IsZG q z TI TO .ellipsis b := hq _ _ S.zi1 hz0
      have hez : e ≠ z := fun x => by subst x; rw [hzq] at hoe; cases hoe; simp at hce
      refine wpAny_setField_rec (s := ⟨q, g, d, tk0, os⟩) hzq (by simp) fun q' _ hq' => ?_
      replace hq' : Heap.SameBut z q q' := hq'
      exact hE q' tk0 e (fun c o cz cT c1 c2 x => hq'.extBut _ _ cz (hq _ _ c1 (hs0.extBut _ _ cz x))) ⟨oe, hq'.extBut _ _ hez hoe, hce⟩
  · replace hz0 : IsZG g0 z TI TO f0 true := hz0
    replace hs0 : Heap.SameBut z hp g0 := hs0
    simp only [Bool.false_eq_true, if_false]
    rw [← Array.forIn_toList]
    simp only [List.forIn_cons, List.forIn_nil]
    refine wpAny_bind (wpAny_bind (wpAny_bind (wpAny_holding ?_)))
    show wpAny _ _ (Builtin.SmallTypes.nextOf (.ref i1) >>= _) _ _ ⟨g0, g, d, tk0, os⟩
    by_cases hlt1 : i < n1
    · refine wpAny_bind (D1.item i _ _ _ hlt1 (D1.over st1 hs0 S.zf1) fun x1 p1 tk1 hx1 sn1 hp1 => wpAny_pure ?_)
      replace hp1 : Heap.SameBut i1 g0 p1 := hp1
      refine wpAny_pure ?_
      refine wpAny_bind (wpAny_bind (wpAny_holding ?_))
      have hi2 : i = n2 := by omega
      show wpAny _ _ (Builtin.SmallTypes.nextOf (.ref i2) >>= _) _ _ ⟨p1, g, d, tk1, os⟩
      refine wpAny_bind (D2.done ⟨p1, g, d, tk1, os⟩ _ _ (by rw [← hi2]; exact (D2.over (D2.over st2 hs0 S.zf2) hp1 S.sep1_2)) fun q e hq he => ?_)
      replace hq : Heap.ExtBut i2 p1 q := hq
      exact hE q tk1 e (fun c o cz cT c1 c2 x => hq _ _ c2 (hp1.extBut _ _ c1 (hs0.extBut _ _ cz x))) he
    · have hi1 : i = n1 := by omega
      refine wpAny_bind (D1.done ⟨g0, g, d, tk0, os⟩ _ _ (by rw [← hi1]; exact (D1.over st1 hs0 S.zf1)) fun q e hq he => ?_)
      replace hq : Heap.ExtBut i1 g0 q := hq
      exact hE q tk0 e (fun c o cz cT c1 c2 x => hq _ _ c1 (hs0.extBut _ _ cz x)) he

theorem nextOf_zipG_item {Q : Value → Shared → Prop} (S : ZipSep2 z TI TO i1 i2 fp1 fp2) (D1 : Draws prog w A.in1 i1 fp1 n1 P1 St1) (D2 : Draws prog w A.in1 i2 fp2 n2 P2 St2)
    (hz : IsZG s.heap z TI TO f0 b) (hf : F0 f0) (hTI : IsTupOf2 s.heap TI (.ref i1) (.ref i2)) (hTO : IsTupOf2 s.heap TO a1 a2) (st1 : St1 i s.heap) (st2 : St2 i s.heap) (hlt1 : i < n1) (hlt2 : i < n2)
    (hQ : ∀ x1 x2 h' tk, P1 i x1 → P2 i x2 → (∃ f0' b', F0 f0' ∧ IsZG h' z TI TO f0' b') → IsTupOf2 h' TI (.ref i1) (.ref i2) → (∃ a1 a2, IsTupOf2 h' TO a1 a2) → St1 (i + 1) h' → St2 (i + 1) h' → IsTupOf2 h' s.heap.objs.size x1 x2 → h'.objs.size = s.heap.objs.size + 1 →
      (∀ c o, c ≠ z → c ≠ TO → c ≠ i1 → c ≠ i2 → s.heap.get? c = some o → h'.get? c = some o) → Q (.ref s.heap.objs.size) { s with heap := h', toks := tk }) :
    wpAny (model prog w) A (Builtin.SmallTypes.nextOf (.ref z)) Q E s := by
  have hT : s.TypeIs (.ref z) "zip" := ⟨_, hz, rfl⟩
  unfold Builtin.SmallTypes.nextOf
  exact wpAny_bind (wpAny_callSpecial?_slot (name := Str.ofString "__next__") hT F.slot_zip_next
    (wpAny_call_entry F.slot_zip_next hT F.entry_zip_next
      (zipG_next_item S D1 D2 hz hf hTI hTO st1 st2 hlt1 hlt2 fun x1 x2 h' tk y1 y2 c1 c2 c3 c4 c5 c6 c7 c8 => wpAny_pure (hQ x1 x2 h' tk y1 y2 c1 c2 c3 c4 c5 c6 c7 c8)) (F.args_zip_next_1 _)))
theorem nextOf_zipG_end {Q : Value → Shared → Prop} (S : ZipSep2 z TI TO i1 i2 fp1 fp2) (D1 : Draws prog w A.in1 i1 fp1 n1 P1 St1) (D2 : Draws prog w A.in1 i2 fp2 n2 P2 St2)
    (hz : IsZG s.heap z TI TO f0 b) (hf : F0 f0) (hTI : IsTupOf2 s.heap TI (.ref i1) (.ref i2)) (hTO : IsTupOf2 s.heap TO a1 a2) (st1 : St1 i s.heap) (st2 : St2 i s.heap) (hle1 : i ≤ n1) (hle2 : i ≤ n2) (hend : i = n1 ∨ i = n2)
    (hE : ∀ h' tk e, (∀ c o, c ≠ z → c ≠ TO → c ≠ i1 → c ≠ i2 → s.heap.get? c = some o → h'.get? c = some o) → (∃ o, h'.get? e = some o ∧ o.cls = .type "StopIteration") → E (.ref e) { s with heap := h', toks := tk }) :
    wpAny (model prog w) A (Builtin.SmallTypes.nextOf (.ref z)) Q E s := by
  have hT : s.TypeIs (.ref z) "zip" := ⟨_, hz, rfl⟩
  unfold Builtin.SmallTypes.nextOf
  exact wpAny_bind (wpAny_callSpecial?_slot (name := Str.ofString "__next__") hT F.slot_zip_next
    (wpAny_call_entry F.slot_zip_next hT F.entry_zip_next (zipG_next_end S D1 D2 hz hf hTI hTO st1 st2 hle1 hle2 hend hE) (F.args_zip_next_1 _)))

/-! ### enumerate over anything -/
theorem enumG_next_item {e it : Addr} {c : Int} {old : Value} {R : Value → Heap → Nat → Prop} {Q : Value → Shared → Prop} (he : IsEnum s.heap e it c old)
    (inner : ∀ (Q' : Value → Shared → Prop) (E' : Value → Shared → Prop), (∀ x h' tk, R x h' tk → Q' x { s with heap := h', toks := tk }) → wpAny (model prog w) A (Builtin.SmallTypes.nextOf (.ref it)) Q' E' s)
    (keep : ∀ x h' tk, R x h' tk → IsEnum h' e it c old)
    (hQ : ∀ x h₁ tk h', R x h₁ tk → IsEnumOut h' e it (c + 1) x h₁.objs.size → h'.get? h₁.objs.size = some { cls := .type "tuple", data := .seq #[.int c tk, x] } → h'.objs.size = h₁.objs.size + 1 →
      (∀ b o, b ≠ e → h₁.get? b = some o → h'.get? b = some o) → Q (.ref h₁.objs.size) { s with heap := h', toks := tk + 1 }) :
    wpAny (model prog w) A (Builtin.«enumerate.__next__» ⟨[.ref e], []⟩) (fun fin s' => ∃ v, fin = .done (.ret v) ∧ Q v s') E s := by
  obtain ⟨hp, g, d, tk₀, os⟩ := s
  show wpAny _ _ (field (.ref e) 2 >>= _) _ _ _
  refine wpAny_bind (wpAny_field he rfl (x := .ref it) rfl ?_)
  refine wpAny_bind (inner _ _ fun x h₁ tk hR => ?_)
  have he₁ : IsEnum h₁ e it c old := keep x h₁ tk hR
  show wpAny _ _ (field (.ref e) 3 >>= _) _ _ ⟨h₁, g, d, tk, os⟩
  refine wpAny_bind (wpAny_field he₁ rfl (x := rawInt c) rfl ?_)
  show wpAny _ _ (field (.ref e) 4 >>= _) _ _ ⟨h₁, g, d, tk, os⟩
  refine wpAny_bind (wpAny_field he₁ rfl (x := .none) rfl ?_)
  show wpAny _ _ (mkInt c >>= _) _ _ ⟨h₁, g, d, tk, os⟩
  refine wpAny_bind (wpAny_mkInt ?_)
  show wpAny _ _ (setField (.ref e) 3 (rawInt (c + 1)) >>= _) _ _ ⟨h₁, g, d, tk + 1, os⟩
  refine wpAny_bind (wpAny_setField_rec he₁ (by simp) fun h₂ he₂ hs₂ => ?_)
  replace hs₂ : Heap.SameBut e h₁ h₂ := hs₂
  replace he₂ : IsEnum h₂ e it (c + 1) old := he₂
  show wpAny _ _ (setField (.ref e) 4 .none >>= _) _ _ ⟨h₂, g, d, tk + 1, os⟩
  refine wpAny_bind (wpAny_setField_rec he₂ (by simp) fun h₃ he₃ hs₃ => ?_)
  replace hs₃ : Heap.SameBut e h₂ h₃ := hs₃
  replace he₃ : IsEnum h₃ e it (c + 1) old := he₃
  show wpAny _ _ (newTuple [.int c tk, x] >>= _) _ _ ⟨h₃, g, d, tk + 1, os⟩
  refine wpAny_bind (wpAny_newTuple ?_)
  have he₄ : IsEnum (h₃.push { cls := .type "tuple", data := .seq #[.int c tk, x] }) e it (c + 1) old := Heap.get?_push_of_some _ he₃
  generalize hh₄ : h₃.push { cls := .type "tuple", data := .seq #[.int c tk, x] } = h₄ at he₄
  have hsz : h₃.objs.size = h₁.objs.size := by rw [hs₃.1, hs₂.1]
  have hel : e < h₁.objs.size := Heap.lt_size he₁
  have ht₄ : h₄.get? h₁.objs.size = some { cls := .type "tuple", data := .seq #[.int c tk, x] } := by rw [← hh₄, ← hsz]; exact Heap.get?_push_size _ rfl
  have hz₄ : h₄.objs.size = h₁.objs.size + 1 := by rw [← hh₄, Heap.size_push, hsz]
  have hk₄ : ∀ b o, b ≠ e → h₁.get? b = some o → h₄.get? b = some o := fun b o hbe hb => by
    rw [← hh₄]; exact Heap.get?_push_of_some _ (hs₃.extBut b o hbe (hs₂.extBut b o hbe hb))
  show wpAny _ _ (Builtin.SmallTypes.ownedTupleIsFree (.ref e) >>= _) _ _ ⟨h₄, g, d, tk + 1, os⟩
  rw [hsz]
  clear hh₄ he₃ hs₃ he₂ hs₂ he₁ hsz h₃ h₂
  refine wpAny_bind ?_
  · unfold Builtin.SmallTypes.ownedTupleIsFree
    refine wpAny_bind (wpAny_field he₄ rfl (x := .none) rfl (wpAny_pure ?_))
    simp only [if_true]
    refine wpAny_bind (wpAny_rule ?_)
    refine wpAny_bind (wpAny_field he₄ rfl (x := old) rfl ?_)
    refine wpAny_bind (wpAny_setField_rec he₄ (by simp) fun h₅ he₅ hs₅ => ?_)
    replace hs₅ : Heap.SameBut e h₄ h₅ := hs₅
    replace he₅ : IsEnum h₅ e it (c + 1) x := he₅
    show wpAny _ _ (Builtin.SmallTypes.ownedTupleHandOut (.ref e) (.ref h₁.objs.size) >>= _) _ _ ⟨h₅, g, d, tk + 1, os⟩
    refine wpAny_bind ?_
    · unfold Builtin.SmallTypes.ownedTupleHandOut
      refine wpAny_bind (wpAny_setField_rec he₅ (by simp) fun h₆ he₆ hs₆ => ?_)
      replace hs₆ : Heap.SameBut e h₅ h₆ := hs₆
      replace he₆ : IsEnumOut h₆ e it (c + 1) x h₁.objs.size := he₆
      refine wpAny_setField_rec he₆ (by simp) fun h₇ he₇ hs₇ => ?_
      replace hs₇ : Heap.SameBut e h₆ h₇ := hs₇
      replace he₇ : IsEnumOut h₇ e it (c + 1) x h₁.objs.size := he₇
      refine wpAny_bind (wpAny_letGo (wpAny_pure ⟨_, rfl, hQ x h₁ tk h₇ hR he₇ ?_ ?_ ?_⟩))
      · exact hs₇.extBut _ _ (Nat.ne_of_gt hel) (hs₆.extBut _ _ (Nat.ne_of_gt hel) (hs₅.extBut _ _ (Nat.ne_of_gt hel) ht₄))
      · rw [hs₇.1, hs₆.1, hs₅.1, hz₄]
      · exact fun b o hbe hb => hs₇.extBut b o hbe (hs₆.extBut b o hbe (hs₅.extBut b o hbe (hk₄ b o hbe hb)))
theorem pyNext_enumG_item {e it : Addr} {c : Int} {old : Value} {R : Value → Heap → Nat → Prop} {Q : Option Value → Shared → Prop} (he : IsEnum s.heap e it c old)
    (inner : ∀ (Q' : Value → Shared → Prop) (E' : Value → Shared → Prop), (∀ x h' tk, R x h' tk → Q' x { s with heap := h', toks := tk }) → wpAny (model prog w) A.in1 (Builtin.SmallTypes.nextOf (.ref it)) Q' E' s)
    (keep : ∀ x h' tk, R x h' tk → IsEnum h' e it c old)
    (hQ : ∀ x h₁ tk h', R x h₁ tk → IsEnumOut h' e it (c + 1) x h₁.objs.size → h'.get? h₁.objs.size = some { cls := .type "tuple", data := .seq #[.int c tk, x] } → h'.objs.size = h₁.objs.size + 1 →
      (∀ b o, b ≠ e → h₁.get? b = some o → h'.get? b = some o) → Q (some (.ref h₁.objs.size)) { s with heap := h', toks := tk + 1 }) : wpAny (model prog w) A (pyNext (.ref e)) Q E s := by
  have hT : s.TypeIs (.ref e) "enumerate" := ⟨_, he, rfl⟩
  unfold pyNext
  exact wpAny_bind (wpAny_attempt (wpAny_callSpecial?_slot (name := Str.ofString "__next__") hT F.slot_enumerate_next
    (wpAny_call_entry F.slot_enumerate_next hT F.entry_enumerate_next
      (enumG_next_item he inner keep fun x h₁ tk h' a b c d k => wpAny_pure (hQ x h₁ tk h' a b c d k)) (F.args_enumerate_next_1 _))))
theorem pyNext_enumG_end {e it : Addr} {c : Int} {old : Value} {R : Heap → Nat → Prop} {Q : Option Value → Shared → Prop} (he : IsEnum s.heap e it c old)
    (inner : ∀ (Q' : Value → Shared → Prop) (E' : Value → Shared → Prop), (∀ h' tk e, R h' tk → (∃ o, h'.get? e = some o ∧ o.cls = .type "StopIteration") → E' (.ref e) { s with heap := h', toks := tk }) → wpAny (model prog w) A.in1 (Builtin.SmallTypes.nextOf (.ref it)) Q' E' s)
    (hQ : ∀ h' tk, R h' tk → Q none { s with heap := h', toks := tk }) : wpAny (model prog w) A (pyNext (.ref e)) Q E s := by
  have hT : s.TypeIs (.ref e) "enumerate" := ⟨_, he, rfl⟩
  unfold pyNext
  refine wpAny_bind (wpAny_attempt (wpAny_callSpecial?_slot (name := Str.ofString "__next__") hT F.slot_enumerate_next
    (wpAny_call_entry F.slot_enumerate_next hT F.entry_enumerate_next ?_ (F.args_enumerate_next_1 _))))
  show wpAny _ _ (field (.ref e) 2 >>= _) _ _ _
  refine wpAny_bind (wpAny_field he rfl (x := .ref it) rfl ?_)
  refine wpAny_bind (inner _ _ fun h' tk x hr hx' => ?_)
  obtain ⟨o, ho, hc⟩ := hx'
  refine wpAny_bind (wpAny_isInstance (T := "StopIteration") (b := true) ⟨o, ho, hc⟩ isSubtype_stop ?_)
  exact wpAny_pure (hQ _ _ hr)
end
open AutoSeq1 (wpAny_loadPart') in
theorem meets_enumerate_newZ {z TI TO : Addr} {f0 : Value} {b : Bool} :
    Meets (Builtin.«enumerate.__new__» ⟨[.type "enumerate", .ref z], []⟩) (fun _ R s => IsZip s.heap z TI TO f0 ∧
      R (.ok (.ret (.ref s.heap.objs.size))) { s with heap := s.heap.push { cls := .type "enumerate", data := .fields #[.none, .bool false, .ref z, rawInt 0, .none, .none] } }) :=
  .of_wp fun prog w A R s h => by
    obtain ⟨hp, g, d, tk, os⟩ := s; obtain ⟨hl, h⟩ := h
    have hsub := sub_enumerate
    have q1 : ∀ {A' : Around} {E : Value → Shared → Prop} {Q : Value → Shared → Prop}, Q (.ref z) ⟨hp, g, d, tk, os⟩ → wpAny (model prog w) A' (pyIter (.ref z)) Q E ⟨hp, g, d, tk, os⟩ :=
      fun q => wpAny_pyIter_zip hl q
    wp_walk using wpAny_loadPart' hl
    refine wpAny_stack_any fun st => wpAny_pure ?_
    split
    · rename_i c _ _ _ _ _
      cases (c == Value.type "enumerate")
      · wp_walk using wpAny_loadPart' hl, q1
        exact ⟨_, rfl, h⟩
      · wp_walk using wpAny_loadPart' hl, q1
        exact ⟨_, rfl, h⟩
    · wp_walk using wpAny_loadPart' hl, q1
      exact ⟨_, rfl, h⟩
theorem call_enumZ {prog : Program} {w : World} {A : Around} {E : Value → Shared → Prop} {s : Shared} {z TI TO : Addr} {f0 : Value} {Q : Value → Shared → Prop} (hz : IsZip s.heap z TI TO f0)
    (h : ∀ h', IsEnum h' s.heap.objs.size z 0 .none → (∀ b o, s.heap.get? b = some o → h'.get? b = some o) → Q (.ref s.heap.objs.size) { s with heap := h' }) :
    wpAny (model prog w) A (call (.type "enumerate") [.ref z]) Q E s := by
  refine callType_new F.called_enumerate (by decide) (F.typeCall_enumerate_1 _) (F.newCall_enumerate_1 _) (fun obj => F.args_object_init_2 obj _) F.entry_enumerate_new
    (meets_enumerate_newZ (b := false)) ⟨hz, ?_⟩
  have he : IsEnum (s.heap.push { cls := .type "enumerate", data := .fields #[.none, .bool false, .ref z, rawInt 0, .none, .none] }) s.heap.objs.size z 0 .none := Heap.get?_push_size _ rfl
  exact ⟨⟨_, he, rfl⟩, h _ he fun b o x => Heap.get?_push_of_some _ x⟩
end Fw

set_option Elab.async false
set_option linter.all false
set_option maxRecDepth 100000
set_option maxHeartbeats 4000000
namespace Fw
open PySem PySem.Spec L2
/-- enumerate(zip(a, b)) -/
def Itez (K : PySem.W.Frag) (a b : SK) : It :=
  ⟨fun i H => ∃ (xs ys : List V) (x y : V), a.at K H xs ∧ b.at K H ys ∧ xs[i]? = some x ∧ ys[i]? = some y,
    fun i H v H' => ∃ T U x y, v = .ref U ∧ H T = none ∧ H U = none ∧ T ≠ U ∧ H' = upd (upd H T (.tup [x, y])) U (.tup [.int (i : Nat), .ref T]) ∧ (∀ xs, a.at K H xs → xs[i]? = some x) ∧ ∀ ys, b.at K H ys → ys[i]? = some y,
    fun i H => ∃ xs ys : List V, a.at K H xs ∧ b.at K H ys ∧ i ≤ xs.length ∧ i ≤ ys.length ∧ (xs.length = i ∨ ys.length = i)⟩
theorem turn_enumz {P : Program} {w : World} {K : PySem.W.Frag} {elts : List Expr} {kk : Nat} {tpos : Pos} {a b : SK} {e z TI TO i1 i2 : Addr} (D : ZipSep2 z TI TO i1 i2 [i1, a.ad] [i2, b.ad]) (s1 : a.ad ≠ i1) (s2 : b.ad ≠ i2)
    (ne : e ≠ z ∧ e ≠ TI ∧ e ≠ TO ∧ e ≠ i1 ∧ e ≠ i2) :
    Turn P w K (.Tuple elts kk tpos) (Itez K a b) [e, z, TI, TO, i1, i2] e (fun i h => (∃ old, IsEnum h e z ((i : Nat) : Int) old) ∧ (∃ f0 c, F0 f0 ∧ IsZG h z TI TO f0 c) ∧ IsTupOf2 h TI (.ref i1) (.ref i2) ∧ (∃ x y, IsTupOf2 h TO x y) ∧ a.it h i1 i ∧ b.it h i2 i) where
  mem := by simp
  obj := fun i h st c hc => by
    obtain ⟨⟨old, he⟩, ⟨f0, cc, _, hz⟩, hTI, ⟨x, y, hTO⟩, h1, h2⟩ := st
    have e' : c = e ∨ c = z ∨ c = TI ∨ c = TO ∨ c = i1 ∨ c = i2 := by simpa using hc
    rcases e' with q | q | q | q | q | q
    · rw [q]; exact ⟨_, he, fun v q => nomatch q⟩
    · rw [q]; exact ⟨_, hz, fun v q => nomatch q⟩
    · rw [q]; exact ⟨_, hTI, fun v q => nomatch q⟩
    · rw [q]; exact ⟨_, hTO, fun v q => nomatch q⟩
    · rw [q]; exact SK.it_ob h1
    · rw [q]; exact SK.it_ob h2
  keep := fun i h h' st k => by
    obtain ⟨⟨old, he⟩, ⟨f0, cc, hf, hz⟩, hTI, ⟨x, y, hTO⟩, h1, h2⟩ := st
    exact ⟨⟨old, k e (by simp) _ he⟩, ⟨f0, cc, hf, k z (by simp) _ hz⟩, k TI (by simp) _ hTI, ⟨x, y, k TO (by simp) _ hTO⟩, SK.it_at h1 fun o q => k i1 (by simp) o q, SK.it_at h2 fun o q => k i2 (by simp) o q⟩
  item := by
    intro X hP hw hK hc i pins s σ H E I hf st hg
    subst hP hw hK
    obtain ⟨⟨old, he⟩, ⟨f0, cc, hF0, hz⟩, hTI, ⟨x0, y0, hTO⟩, h1, h2⟩ := st
    obtain ⟨xs, ys, x, y, hqx, hqy, hx, hy⟩ := hg
    obtain ⟨its, rv, p, _⟩ := SK.get I hqx
    obtain ⟨its2, rv2, p2, _⟩ := SK.get I hqy
    have l1 := rv.length
    have l2 := rv2.length
    have hi := (List.getElem?_eq_some_iff.mp hx).1
    have hi2 := (List.getElem?_eq_some_iff.mp hy).1
    have hel : e < s.heap.objs.size := Heap.lt_size he
    obtain ⟨n1, n2, n3, n4, n5⟩ := ne
    have hlt : ∀ c ∈ [e, z, TI, TO, i1, i2], c < s.heap.objs.size := fun c hcm => by
      have e' : c = e ∨ c = z ∨ c = TI ∨ c = TO ∨ c = i1 ∨ c = i2 := by simpa using hcm
      rcases e' with q | q | q | q | q | q
      · rw [q]; exact hel
      · rw [q]; exact Heap.lt_size hz
      · rw [q]; exact Heap.lt_size hTI
      · rw [q]; exact Heap.lt_size hTO
      · rw [q]; obtain ⟨_, e1, _⟩ := SK.it_ob h1; exact Heap.lt_size e1
      · rw [q]; obtain ⟨_, e2, _⟩ := SK.it_ob h2; exact Heap.lt_size e2
    refine pyNext_enumG_item (A := X.A) he (R := fun r h' tk => ∃ x1 x2, r = .ref s.heap.objs.size ∧ its.toArray[i]? = some x1 ∧ its2.toArray[i]? = some x2 ∧ (∃ f0' b', F0 f0' ∧ IsZG h' z TI TO f0' b') ∧ IsTupOf2 h' TI (.ref i1) (.ref i2) ∧ (∃ a1 a2, IsTupOf2 h' TO a1 a2) ∧
        a.it h' i1 (i + 1) ∧ b.it h' i2 (i + 1) ∧ IsTupOf2 h' s.heap.objs.size x1 x2 ∧ h'.objs.size = s.heap.objs.size + 1 ∧ (∀ c o, c ≠ z → c ≠ TO → c ≠ i1 → c ≠ i2 → s.heap.get? c = some o → h'.get? c = some o)) (fun Q' E' q => ?_) (fun r h' tk q => ?_) (fun r h₁ tk h' q ho hT hsz hk => ?_)
    · exact nextOf_zipG_item D (SK.draws (prog := X.prog) (w := X.w) (A := X.A.in1.in1) (show X.A.in1.in1.handled = none from I.ok.hd hc) i1 a s1 its.toArray) (SK.draws (prog := X.prog) (w := X.w) (A := X.A.in1.in1) (show X.A.in1.in1.handled = none from I.ok.hd hc) i2 b s2 its2.toArray) hz hF0 hTI hTO ⟨h1, p⟩ ⟨h2, p2⟩ (by simp; omega) (by simp; omega)
        fun x1 x2 h' tk q1 q2 q3 q4 q5 q6 q7 q8 q9 q10 => q _ h' tk ⟨x1, x2, rfl, q1, q2, q3, q4, q5, q6.1, q7.1, q8, q9, q10⟩
    · obtain ⟨x1, x2, _, _, _, _, _, _, _, _, _, _, kk⟩ := q
      exact kk e _ n1 n3 n4 n5 he
    · obtain ⟨u, u2, rfl, hu, hu2, ⟨f0', c', hF', hz'⟩, hTI', ⟨b1, b2, hTO'⟩, h1', h2', hT1, hsz1, hk1⟩ := q
      obtain ⟨x', hx', ru⟩ := vals_at rv (arr_get hu)
      rw [hx] at hx'
      cases hx'
      obtain ⟨y', hy', ru2⟩ := vals_at rv2 (arr_get hu2)
      rw [hy] at hy'
      cases hy'
      refine ⟨_, rfl, wpAny_letOwnedTupleGo_enum (s := { s with heap := h', toks := tk + 1 }) ho fun h'' he' sb => ?_⟩
      have hu1 : s.heap.objs.size ≠ h₁.objs.size := Nat.ne_of_lt (by rw [hsz1]; exact Nat.lt_succ_self _)
      have new1 : ObjOk X.prog X.w (upd H s.heap.objs.size (.tup [x, y])) h₁ s.heap.objs.size (.tup [x, y]) :=
        ⟨by show 2 ≤ sizeLine; decide, [u, u2], .cons ru (.cons ru2 .nil), ⟨_, hT1, rfl, _, rfl⟩⟩
      have I1 : Inv X pins σ (upd H s.heap.objs.size (.tup [x, y])) { s with heap := h₁, toks := tk } :=
        I.turnedNew (t' := tk) (ch := [e, z, TI, TO, i1, i2]) (fun c o hb q => hk1 c o (fun q' => hb (by simp [q'])) (fun q' => hb (by simp [q'])) (fun q' => hb (by simp [q'])) (fun q' => hb (by simp [q'])) q) hf (Nat.le_refl _) new1
      have hel1 : e < h₁.objs.size := by rw [hsz1]; exact Nat.lt_succ_of_lt hel
      have hT2 : h''.get? h₁.objs.size = some { cls := .type "tuple", data := .seq #[.int i tk, .ref s.heap.objs.size] } := (sb.2 _ (Nat.ne_of_gt hel1)).trans hT
      have new2 : ObjOk X.prog X.w (upd (upd H s.heap.objs.size (.tup [x, y])) h₁.objs.size (.tup [.int (i : Nat), .ref s.heap.objs.size])) h'' h₁.objs.size (.tup [.int (i : Nat), .ref s.heap.objs.size]) :=
        ⟨by show 2 ≤ sizeLine; decide, [.int i tk, .ref s.heap.objs.size], .cons ⟨_, rfl⟩ (.cons rfl .nil), ⟨_, hT2, rfl, _, rfl⟩⟩
      have hk2 : ∀ c o, c ≠ e → h₁.get? c = some o → h''.get? c = some o := fun c o hce q => (sb.2 c hce).trans (hk c o hce q)
      have I2 : Inv X pins σ (upd (upd H s.heap.objs.size (.tup [x, y])) h₁.objs.size (.tup [.int (i : Nat), .ref s.heap.objs.size])) { s with heap := h'', toks := tk + 1 } :=
        I1.turnedNew (t' := tk + 1) (ch := [e]) (fun c o hb q => hk2 c o (fun q' => hb (by simp [q'])) q) (fun c hcm => by
          have hcm' : c = e := by simpa using hcm
          have q := hf c (by rw [hcm']; simp)
          exact ⟨by rw [upd_ne (by rw [hcm']; exact Nat.ne_of_lt hel)]; exact q.1, q.2⟩) (Nat.le_refl _) new2
      have hn : H s.heap.objs.size = none := I.hok.fresh (Nat.le_refl _)
      have hn2 : H h₁.objs.size = none := I.hok.fresh (by rw [hsz1]; exact Nat.le_succ _)
      refine ⟨.ref h₁.objs.size, _, I2, rfl, ⟨_, _, x, y, rfl, hn, hn2, hu1, rfl, fun l hl => by rw [SK.inj I hl hqx]; exact hx, fun l hl => by rw [SK.inj I hl hqy]; exact hy⟩, ⟨⟨Value.ref s.heap.objs.size, ?_⟩, ⟨f0', c', hF', hk2 _ _ (Ne.symm n1) hz'⟩, hk2 _ _ (Ne.symm n2) hTI', ⟨b1, b2, hk2 _ _ (Ne.symm n3) hTO'⟩, SK.it_at h1' fun o q => hk2 _ _ (Ne.symm n4) q, SK.it_at h2' fun o q => hk2 _ _ (Ne.symm n5) q⟩, fun c hcm => ?_⟩
      · have e1 : ((i + 1 : Nat) : Int) = (i : Int) + 1 := by omega
        rw [e1]; exact he'
      · have q := hlt c hcm
        have q2 : c ≠ h₁.objs.size := Nat.ne_of_lt (by rw [hsz1]; exact Nat.lt_succ_of_lt q)
        rw [upd_ne q2, upd_ne (Nat.ne_of_lt q)]
        exact (hf c hcm).1
  done := by
    intro X hP hw hK hc i pins s σ H E I hf st hg
    subst hP hw hK
    obtain ⟨⟨old, he⟩, ⟨f0, cc, hF0, hz⟩, hTI, ⟨x0, y0, hTO⟩, h1, h2⟩ := st
    obtain ⟨xs, ys, hqx, hqy, le1, le2, hend⟩ := hg
    obtain ⟨its, rv, p, _⟩ := SK.get I hqx
    obtain ⟨its2, rv2, p2, _⟩ := SK.get I hqy
    have l1 := rv.length
    have l2 := rv2.length
    refine pyNext_enumG_end (A := X.A) he (R := fun h' tk => ∀ c o, c ≠ z → c ≠ TO → c ≠ i1 → c ≠ i2 → s.heap.get? c = some o → h'.get? c = some o) (fun Q' E' q => ?_) fun h' tk hk => ⟨rfl, I.turnedL (t' := tk) (ch := [e, z, TI, TO, i1, i2]) (fun c o hb q =>
      hk c o (fun q' => hb (by simp [q'])) (fun q' => hb (by simp [q'])) (fun q' => hb (by simp [q'])) (fun q' => hb (by simp [q'])) q) hf⟩
    exact nextOf_zipG_end D (SK.draws (prog := X.prog) (w := X.w) (A := X.A.in1.in1) (show X.A.in1.in1.handled = none from I.ok.hd hc) i1 a s1 its.toArray) (SK.draws (prog := X.prog) (w := X.w) (A := X.A.in1.in1) (show X.A.in1.in1.handled = none from I.ok.hd hc) i2 b s2 its2.toArray) hz hF0 hTI hTO ⟨h1, p⟩ ⟨h2, p2⟩ (by simp; omega) (by simp; omega) (by simp; omega)
      fun h' tk e q1 q2 => q h' tk e q1 q2
  self := fun A i s Q E st h => let ⟨⟨_, he⟩, _⟩ := st; wpAny_pyIter_enum he h
def iEnz (K : PySem.W.Frag) (ta : TA) : TI := fun σ H R => ta σ H fun vs H1 => ∃ (a b : SK) (xs ys : List V), vs = [.ref a.ad, .ref b.ad] ∧ a.at K H1 xs ∧ b.at K H1 ys ∧ R (Itez K a b) H1
theorem pi_enumz {X : Cx} {e e2 : Expr} {ta : TA} {p p2 pos pos2 tpos : Pos} {elts : List Expr} {kk : Nat} (hg : Gl X "enumerate") (hm : X.mg "enumerate" = none) (hg2 : Gl X "zip") (hm2 : X.mg "zip" = none) (ha : PA X [e, e2] ta)
    (hs : starEach [e, e2] X.env = (false, eval e X.env) :: starEach [e2] X.env) (hpl : (backTo pos2 (starEach [e2] X.env)).any (·.1) = false) :
    PI X (.Tuple elts kk tpos) (.Call (.Name "enumerate" p) [.Call (.Name "zip" p2) [e, e2] [] pos2] [] pos) (iEnz X.K ta) := by
  refine ⟨fun pins s σ H R I h => ?_⟩
  refine PyProof.Rows.Call_ (ld_blt I hg hm PyProof.Rows.boot_enumerate (PyProof.Rows.callWith_type1 (PyProof.Rows.args_cons ?_ rfl) rfl rfl))
  refine PyProof.Rows.Call_ (ld_blt I hg2 hm2 PyProof.Rows.boot_zip (PyProof.Rows.callWith_type1 (thn (ha.run pos2 pins s σ H _ I h) fun us s1 ⟨vs, H1, I1, r1, q1⟩ => ?_) hs hpl))
  obtain ⟨a, b, xs, ys, ex, hqx, hqy, q⟩ := q1
  subst ex
  cases r1 with
  | cons r rr =>
    cases rr with
    | cons r' rr =>
      cases rr
      cases r
      cases r'
      obtain ⟨its, rv, p1, la⟩ := SK.get I1 hqx
      obtain ⟨its2, rv2, p2', lb⟩ := SK.get I1 hqy
      refine zip_begins2 (SK.begins a its.toArray) (SK.begins b its2.toArray) p1 p2' fun h' hz hTI hTO h1 h2 hsz hk => ?_
      refine PyProof.Rows.args_nil ?_
      refine call_enumZ (s := { s1 with heap := h' }) hz fun h'' he hk2 => wpAny_pyIter_enum he ?_
      have I2 : Inv X pins σ H1 { s1 with heap := h'' } := I1.kept (t' := s1.toks) fun b o e => hk2 b o (hk b o e)
      have hsz' : h'.objs.size = s1.heap.objs.size + 5 := hsz
      refine ⟨h'.objs.size, [h'.objs.size, s1.heap.objs.size + 4, s1.heap.objs.size + 2, s1.heap.objs.size + 3, s1.heap.objs.size, s1.heap.objs.size + 1], _, _, H1, rfl, I2, turn_enumz (zip_sep2 (fp1 := [a.ad]) (fp2 := [b.ad]) (by simpa using la) (by simpa using lb)) (Nat.ne_of_lt la) (Nat.ne_of_lt (Nat.lt_succ_of_lt lb)) ?_, ⟨⟨.none, he⟩, ⟨_, _, .inl rfl, hk2 _ _ hz⟩, hk2 _ _ hTI, ⟨_, _, hk2 _ _ hTO⟩, SK.begun (hk2 _ _ h1), SK.begun (hk2 _ _ h2)⟩, fun c hcm => ?_, q⟩
      · rw [hsz']
        exact ⟨Nat.ne_of_gt (Nat.lt_succ_self _), Nat.ne_of_gt (Nat.add_lt_add_left (by decide) _), Nat.ne_of_gt (Nat.add_lt_add_left (by decide) _), Nat.ne_of_gt (Nat.lt_add_of_pos_right (by decide)), Nat.ne_of_gt (Nat.add_lt_add_left (by decide) _)⟩
      · rw [hsz'] at hcm
        have e' : c = s1.heap.objs.size + 5 ∨ c = s1.heap.objs.size + 4 ∨ c = s1.heap.objs.size + 2 ∨ c = s1.heap.objs.size + 3 ∨ c = s1.heap.objs.size ∨ c = s1.heap.objs.size + 1 := by simpa using hcm
        have hle : s1.heap.objs.size ≤ c := by
          rcases e' with z | z | z | z | z | z
          · rw [z]; exact Nat.le_add_right _ _
          · rw [z]; exact Nat.le_add_right _ _
          · rw [z]; exact Nat.le_add_right _ _
          · rw [z]; exact Nat.le_add_right _ _
          · rw [z]; exact Nat.le_refl _
          · rw [z]; exact Nat.le_add_right _ _
        exact I1.fpOk hle (I1.hok.fresh hle)
/-- a new pair of the place and a new pair -/
def YEz (xs ys : Nat → Option V) : Nat → Hp → V → Hp → Prop := fun i H v H' => ∃ T U x y, v = .ref U ∧ H T = none ∧ H U = none ∧ T ≠ U ∧ H' = upd (upd H T (.tup [x, y])) U (.tup [.int (i : Nat), .ref T]) ∧ xs i = some x ∧ ys i = some y
theorem walk_enumz {K : PySem.W.Frag} {a b : SK} {xs ys : List V} {n : Nat} (hn : n = min xs.length ys.length) : Walk (Itez K a b) n (fun H => a.at K H xs ∧ b.at K H ys) (YEz (fun i => xs[i]?) (fun i => ys[i]?)) where
  goes := fun i H hi h => ⟨xs, ys, _, _, h.1, h.2, List.getElem?_eq_getElem (by omega), List.getElem?_eq_getElem (by omega)⟩
  stops := fun H h => ⟨xs, ys, h.1, h.2, by omega, by omega, by omega⟩
  yields := fun i H x H' hi h y => by
    obtain ⟨T, U, x', y', rfl, hT, hU, hne, rfl, f, g⟩ := y
    exact ⟨T, U, x', y', rfl, hT, hU, hne, rfl, f xs h.1, g ys h.2⟩

section
variable {Λ : Env} {n : Nat} {C : Ck} {E : XK} {X : Cx} {a b e : Expr} {pos : Pos} {ia ib ir : IR} {elts : List Expr} {kk : Nat} {tpos : Pos}
theorem snd_ienz {f f2 : Str} {p p2 pos2 : Pos} (c : XC Λ n C E X) (hf : bltOk C f "enumerate" = true) (hf2 : bltOk C f2 "zip" = true) (hs : notStar a = true) (hs2 : notStar b = true) (na : isBor ia = false) (nb : isBor ib = false) (ha : Snd Λ E X ia a) (hb : Snd Λ E X ib b) : SndI Λ E X (.Tuple elts kk tpos) (.ienz ia ib) (.Call (.Name f p) [.Call (.Name f2 p2) [a, b] [] pos2] [] pos) := by
  obtain ⟨rfl, hg, hd, hn, hm⟩ := bltOk_gl c hf
  obtain ⟨rfl, hg2, hd2, hn2, hm2⟩ := bltOk_gl c hf2
  refine ⟨PI.imp (pi_enumz hg hm hg2 hm2 (pa_cons (ha.frozen na) (pa_1 hs2 (hb.frozen nb)) (star_of hs _ _)) (star_of hs _ _) (by rw [star_of hs2]; rfl)) fun σ H R ⟨ŝ, G, T, R0, w⟩ => ?_⟩
  refine ⟨ŝ, G, T, R0, (WO.bind.mp w).mono fun p _ k v H1 G1 T1 s1 r1 => ?_⟩
  obtain ⟨rfl, dv⟩ := r1
  refine ⟨p.2, G1, _, s1.rep, (WO.bind.mp (k.step s1)).mono fun q _ k2 v2 H2 G2 T2 s2 r2 => ?_⟩
  obtain ⟨rfl, dv2⟩ := r2
  obtain ⟨l, hl, k2⟩ := WO.optb k2
  obtain ⟨m, hm, l', e', k2⟩ := WO.optb k2
  cases e'
  obtain ⟨sk, xs, rfl, hat, t⟩ := sk_of (dv.same s2.ext.gg) hl
  obtain ⟨sk2, ys, rfl, hat2, t2⟩ := sk_of dv2 hm
  refine ⟨sk, sk2, xs, ys, rfl, hat _ s2.rep.sub, hat2 _ s2.rep.sub, k2 _ H2 G2 (s1.trans s2) ?_⟩
  rw [enumL_len, zipL_len, ← t.len, ← t2.len]
  refine (walk_enumz rfl).mono (fun H h => ⟨hat _ h, hat2 _ h⟩) fun i H x H' hi _ y => ?_
  obtain ⟨T, U, x', y', rfl, hT, hU, hne, rfl, ex, ey⟩ := y
  obtain ⟨d, hd, dv'⟩ := t.getV ex
  obtain ⟨d2, hd2, dv2'⟩ := t2.getV ey
  refine ⟨.tuple [.int i, .tuple [d, d2]], by rw [enumL_get, zipL_get _ _ _ _ _ hd hd2]; simp, .inr (.inr ⟨T, U, [x', y'], [d, d2], [.int (i : Nat)], [.int (i : Nat)], hT, hU, hne, rfl, rfl, rfl, .cons dv' (.cons dv2' .nil), .cons (.int _) .nil⟩)⟩
end
end Fw

set_option Elab.async false
set_option linter.all false
set_option maxRecDepth 100000
set_option maxHeartbeats 8000000
namespace Fw
open PySem PySem.Spec L2
structure SndAll (Λ : Env) (n : Nat) (ir : IR) : Prop where
  e : ∀ (C : Ck) (E : XK) (X : Cx) (x : Expr), chk C ir x = true → XC Λ n C E X → Snd Λ E X ir x
  a : ∀ (C : Ck) (E : XK) (X : Cx) (xs : List Expr), chkA C ir xs = true → XC Λ n C E X → SndA Λ E X ir xs
  i : ∀ (C : Ck) (E : XK) (X : Cx) (tg x : Expr), chkI C tg ir x = true → XC Λ n C E X → SndI Λ E X tg ir x
theorem bnot {b : Bool} (h : (!b) = true) : b = false := by cases b <;> first | rfl | cases h
def isA : IR → Bool
  | .nil | .cons _ _ => true
  | _ => false
def isI : IR → Bool
  | .nev | .iseq _ | .irng _ | .irng2 _ _ | .izip _ _ | .ienum _ | .ienz _ _ => true
  | _ => false
theorem noA {C : Ck} {ir : IR} {xs : List Expr} (h : isA ir = false) : chkA C ir xs = false := by
  unfold chkA
  split <;> first | rfl | cases h
theorem noI {C : Ck} {ir : IR} {tg x : Expr} (h : isI ir = false) : chkI C tg ir x = false := by
  unfold chkI
  split <;> first | rfl | cases h
theorem bad {b : Bool} {P : Prop} (h : b = true) (h' : b = false) : P := by rw [h] at h'; cases h'
theorem tupT_of {e : Expr} (h : tupT e = true) : ∃ es k p, e = .Tuple es k p := by
  cases e <;> first | (exact ⟨_, _, _, rfl⟩) | cases h
section
variable {Λ : Env} {n : Nat}
theorem cstT_of {d : D} (h : cstOk d (.bool true) = true) : d = .bool true := by
  cases d with
  | bool b => cases b <;> first | rfl | (cases h; done)
  | _ => cases h
theorem PTs.nilc {C : Ck} {E : XK} {X : Cx} {ic : IR} (h : chk C ic (.Constant (.bool true) 0 ⟨0, 0, 0, 0⟩) = true) : PTs X [] (RdT (thOf X) E (sem Λ ic)) := by
  unfold chk at h
  split at h <;> first | contradiction | skip
  all_goals first | (exact ⟨fun _ _ _ _ _ _ ⟨_, _, _, _, w⟩ => w.elim⟩) | (rename_i e; cases e; done) | skip
  rename_i e
  cases e
  have e := cstT_of h
  subst e
  exact ⟨fun pins s σ H Q I ⟨ŝ, G, T, R, b, e, k⟩ => pts_nil.run pins s σ H Q I (by cases e; exact k H G (Stp.refl R))⟩
theorem all_nev : SndAll Λ n .nev := by
  have no : ∀ {E : XK} {Θ : Th} {κ : Kd} {σ : L2.St} {H : Hp} {Q : VK}, RdE Θ E κ (sem Λ .nev) σ H Q → False := fun ⟨_, _, _, _, w⟩ => w
  have noT : ∀ {E : XK} {Θ : Th} {σ : L2.St} {H : Hp} {Q : Bool → Hp → Prop}, RdT Θ E (sem Λ .nev) σ H Q → False := fun ⟨_, _, _, _, w⟩ => w
  have noI' : ∀ {E : XK} {Θ : Th} {σ : L2.St} {H : Hp} {R : It → Hp → Prop}, RdI Θ E (sem Λ .nev) σ H R → False := fun ⟨_, _, _, _, w⟩ => w
  refine ⟨fun C E X x h c => ⟨⟨fun _ _ _ _ _ _ q => (no q).elim⟩, ⟨fun _ _ _ _ _ _ q => (noT q).elim⟩, fun _ => ⟨fun _ _ _ _ _ _ _ q => (noT q).elim⟩⟩, fun C E X xs h c => bad h (noA rfl), fun C E X tg x h c => ⟨⟨fun _ _ _ _ _ _ q => (noI' q).elim⟩⟩⟩
theorem all_cst {d : D}  : SndAll Λ n (.cst d) := by
  refine ⟨fun C E X x h c => ?_, fun C E X xs h c => bad h (noA rfl), fun C E X tg x h c => bad h (noI rfl)⟩
  unfold chk at h
  split at h <;> first | contradiction | skip
  · rename_i z
    cases z
    exact snd_cst c h
theorem all_var {i : Nat}  : SndAll Λ n (.var i) := by
  refine ⟨fun C E X x h c => ?_, fun C E X xs h c => bad h (noA rfl), fun C E X tg x h c => bad h (noI rfl)⟩
  unfold chk at h
  split at h <;> first | contradiction | skip
  · rename_i z
    cases z
    exact snd_var c h
theorem all_bor {i : Nat}  : SndAll Λ n (.bor i) := by
  refine ⟨fun C E X x h c => ?_, fun C E X xs h c => bad h (noA rfl), fun C E X tg x h c => bad h (noI rfl)⟩
  unfold chk at h
  split at h <;> first | contradiction | skip
  · rename_i z
    cases z
    exact snd_bor c h
theorem all_glo {x : Str}  : SndAll Λ n (.glo x) := by
  refine ⟨fun C E X x h c => ?_, fun C E X xs h c => bad h (noA rfl), fun C E X tg x h c => bad h (noI rfl)⟩
  unfold chk at h
  split at h <;> first | contradiction | skip
  · rename_i z
    cases z
    simp only [Bool.and_eq_true, decide_eq_true_eq] at h
    obtain ⟨h1, h2⟩ := h
    subst h1
    exact snd_glo c h2
theorem all_nil : SndAll Λ n .nil := by
  refine ⟨fun C E X x h c => ?_, fun C E X xs h c => ?_, fun C E X tg x h c => bad h (noI rfl)⟩
  · cases h
  · cases xs with
    | nil => exact snd_nil
    | cons => cases h
theorem all_cons {a b : IR} (ha : SndAll Λ n a) (hb : SndAll Λ n b) : SndAll Λ n (.cons a b) := by
  refine ⟨fun C E X x h c => ?_, fun C E X xs h c => ?_, fun C E X tg x h c => bad h (noI rfl)⟩
  · cases h
  · cases xs with
    | nil => cases h
    | cons e es =>
      have h : (notStar e && !isBor a && chk C a e && chkA C b es) = true := h
      simp only [Bool.and_eq_true] at h
      obtain ⟨⟨⟨h1, h2⟩, h3⟩, h4⟩ := h
      exact snd_cons h1 (bnot h2) (ha.e _ _ _ _ h3 c) (hb.a _ _ _ _ h4 c)
theorem all_tup {a : IR} (ha : SndAll Λ n a) : SndAll Λ n (.tup a) := by
  refine ⟨fun C E X x h c => ?_, fun C E X xs h c => bad h (noA rfl), fun C E X tg x h c => bad h (noI rfl)⟩
  unfold chk at h
  split at h <;> first | contradiction | skip
  · rename_i z
    cases z
    exact snd_tup (ha.a _ _ _ _ h c)
theorem all_lst {a : IR} (ha : SndAll Λ n a) : SndAll Λ n (.lst a) := by
  refine ⟨fun C E X x h c => ?_, fun C E X xs h c => bad h (noA rfl), fun C E X tg x h c => bad h (noI rfl)⟩
  unfold chk at h
  split at h <;> first | contradiction | skip
  · rename_i z
    cases z
    exact snd_lst (ha.a _ _ _ _ h c)
theorem all_emp : SndAll Λ n .emp := by
  refine ⟨fun C E X x h c => ?_, fun C E X xs h c => bad h (noA rfl), fun C E X tg x h c => bad h (noI rfl)⟩
  unfold chk at h
  split at h <;> first | contradiction | skip
  exact snd_emp
theorem all_bin {k : BOp} {a : IR} {b : IR} (ha : SndAll Λ n a) (hb : SndAll Λ n b) : SndAll Λ n (.bin k a b) := by
  refine ⟨fun C E X x h c => ?_, fun C E X xs h c => bad h (noA rfl), fun C E X tg x h c => bad h (noI rfl)⟩
  unfold chk at h
  split at h <;> first | contradiction | skip
  · rename_i z
    cases z
    simp only [Bool.and_eq_true, decide_eq_true_eq] at h
    obtain ⟨⟨h1, h2⟩, h3⟩ := h
    exact snd_bin c h1 (ha.e _ _ _ _ h2 c) (hb.e _ _ _ _ h3 c)
theorem all_cmp {k : COp} {a : IR} {b : IR} (ha : SndAll Λ n a) (hb : SndAll Λ n b) : SndAll Λ n (.cmp k a b) := by
  refine ⟨fun C E X x h c => ?_, fun C E X xs h c => bad h (noA rfl), fun C E X tg x h c => bad h (noI rfl)⟩
  unfold chk at h
  split at h <;> first | contradiction | skip
  · rename_i z
    cases z
    simp only [Bool.and_eq_true, decide_eq_true_eq] at h
    obtain ⟨⟨⟨h1, h2⟩, h3⟩, h4⟩ := h
    exact snd_cmp c h1 h2 (ha.e _ _ _ _ h3 c) (hb.e _ _ _ _ h4 c)
theorem all_chain {k : COp} {k' : COp} {a : IR} {b : IR} {d : IR} (ha : SndAll Λ n a) (hb : SndAll Λ n b) (hd : SndAll Λ n d) : SndAll Λ n (.chain k k' a b d) := by
  refine ⟨fun C E X x h c => ?_, fun C E X xs h c => bad h (noA rfl), fun C E X tg x h c => bad h (noI rfl)⟩
  unfold chk at h
  split at h <;> first | contradiction | skip
  · rename_i z
    cases z
    simp only [Bool.and_eq_true, decide_eq_true_eq] at h
    obtain ⟨⟨⟨⟨⟨⟨⟨⟨h1, h2⟩, h3⟩, h4⟩, h5⟩, h6⟩, h7⟩, h8⟩, h9⟩ := h
    exact snd_chain c h1 h2 (bnot h3) (bnot h4) (ha.e _ _ _ _ h7 c) (hb.e _ _ _ _ h8 c) (hd.e _ _ _ _ h9 c) h5 h6
theorem all_neg {a : IR} (ha : SndAll Λ n a) : SndAll Λ n (.neg a) := by
  refine ⟨fun C E X x h c => ?_, fun C E X xs h c => bad h (noA rfl), fun C E X tg x h c => bad h (noI rfl)⟩
  unfold chk at h
  split at h <;> first | contradiction | skip
  · rename_i z
    cases z
    exact snd_neg (ha.e _ _ _ _ h c)
theorem all_not {a : IR} (ha : SndAll Λ n a) : SndAll Λ n (.not a) := by
  refine ⟨fun C E X x h c => ?_, fun C E X xs h c => bad h (noA rfl), fun C E X tg x h c => bad h (noI rfl)⟩
  unfold chk at h
  split at h <;> first | contradiction | skip
  · rename_i z
    cases z
    exact snd_not (ha.e _ _ _ _ h c)
theorem all_and {a : IR} {b : IR} (ha : SndAll Λ n a) (hb : SndAll Λ n b) : SndAll Λ n (.and a b) := by
  refine ⟨fun C E X x h c => ?_, fun C E X xs h c => bad h (noA rfl), fun C E X tg x h c => bad h (noI rfl)⟩
  unfold chk at h
  split at h <;> first | contradiction | skip
  · rename_i z
    cases z
    simp only [Bool.and_eq_true, decide_eq_true_eq] at h
    obtain ⟨h1, h2⟩ := h
    exact snd_and2 (ha.e _ _ _ _ h1 c) (hb.e _ _ _ _ h2 c)
  · rename_i z
    cases z
    simp only [Bool.and_eq_true, decide_eq_true_eq] at h
    obtain ⟨h1, h2⟩ := h
    exact snd_and (ha.e _ _ _ _ h1 c) (hb.e _ _ _ _ h2 c)
theorem all_or {a : IR} {b : IR} (ha : SndAll Λ n a) (hb : SndAll Λ n b) : SndAll Λ n (.or a b) := by
  refine ⟨fun C E X x h c => ?_, fun C E X xs h c => bad h (noA rfl), fun C E X tg x h c => bad h (noI rfl)⟩
  unfold chk at h
  split at h <;> first | contradiction | skip
  · rename_i z
    cases z
    simp only [Bool.and_eq_true, decide_eq_true_eq] at h
    obtain ⟨h1, h2⟩ := h
    exact snd_or2 (ha.e _ _ _ _ h1 c) (hb.e _ _ _ _ h2 c)
  · rename_i z
    cases z
    simp only [Bool.and_eq_true, decide_eq_true_eq] at h
    obtain ⟨h1, h2⟩ := h
    exact snd_or (ha.e _ _ _ _ h1 c) (hb.e _ _ _ _ h2 c)
theorem all_ite {t : IR} {a : IR} {b : IR} (ht : SndAll Λ n t) (ha : SndAll Λ n a) (hb : SndAll Λ n b) : SndAll Λ n (.ite t a b) := by
  refine ⟨fun C E X x h c => ?_, fun C E X xs h c => bad h (noA rfl), fun C E X tg x h c => bad h (noI rfl)⟩
  unfold chk at h
  split at h <;> first | contradiction | skip
  · rename_i z
    cases z
    simp only [Bool.and_eq_true, decide_eq_true_eq] at h
    obtain ⟨⟨⟨⟨h1, h2⟩, h3⟩, h4⟩, h5⟩ := h
    exact snd_ite (bnot h1) (bnot h2) (ht.e _ _ _ _ h3 c) (ha.e _ _ _ _ h4 c) (hb.e _ _ _ _ h5 c)
theorem all_b1 {k : B1} {a : IR} (ha : SndAll Λ n a) : SndAll Λ n (.b1 k a) := by
  refine ⟨fun C E X x h c => ?_, fun C E X xs h c => bad h (noA rfl), fun C E X tg x h c => bad h (noI rfl)⟩
  unfold chk at h
  split at h <;> first | contradiction | skip
  · rename_i z
    cases z
    simp only [Bool.and_eq_true, decide_eq_true_eq] at h
    obtain ⟨⟨⟨h1, h2⟩, h3⟩, h4⟩ := h
    exact snd_b1 c h1 h2 h3 (ha.e _ _ _ _ h4 c)
theorem all_b2 {k : B2} {a : IR} {b : IR} (ha : SndAll Λ n a) (hb : SndAll Λ n b) : SndAll Λ n (.b2 k a b) := by
  refine ⟨fun C E X x h c => ?_, fun C E X xs h c => bad h (noA rfl), fun C E X tg x h c => bad h (noI rfl)⟩
  unfold chk at h
  split at h <;> first | contradiction | skip
  · rename_i z
    cases z
    simp only [Bool.and_eq_true, decide_eq_true_eq] at h
    obtain ⟨⟨⟨⟨⟨h1, h2⟩, h3⟩, h4⟩, h5⟩, h6⟩ := h
    exact snd_b2 c h1 h2 h3 (bnot h4) (ha.e _ _ _ _ h5 c) (hb.e _ _ _ _ h6 c)
theorem all_isi {t : Ty} {a : IR} (ha : SndAll Λ n a) : SndAll Λ n (.isi t a) := by
  refine ⟨fun C E X x h c => ?_, fun C E X xs h c => bad h (noA rfl), fun C E X tg x h c => bad h (noI rfl)⟩
  unfold chk at h
  split at h <;> first | contradiction | skip
  · rename_i z
    cases z
    simp only [Bool.and_eq_true, decide_eq_true_eq] at h
    obtain ⟨⟨⟨h1, h2⟩, h3⟩, h4⟩ := h
    exact snd_isi c h1 h2 h3 (ha.e _ _ _ _ h4 c)
theorem all_idx {a : IR} {b : IR} (ha : SndAll Λ n a) (hb : SndAll Λ n b) : SndAll Λ n (.idx a b) := by
  refine ⟨fun C E X x h c => ?_, fun C E X xs h c => bad h (noA rfl), fun C E X tg x h c => bad h (noI rfl)⟩
  unfold chk at h
  split at h <;> first | contradiction | skip
  · rename_i z
    cases z
    simp only [Bool.and_eq_true, decide_eq_true_eq] at h
    obtain ⟨⟨h1, h2⟩, h3⟩ := h
    exact snd_idx c h1 (ha.e _ _ _ _ h2 c) (hb.e _ _ _ _ h3 c)
theorem all_sli {a : IR} {lo : IR} {hi : IR} (ha : SndAll Λ n a) (hlo : SndAll Λ n lo) (hhi : SndAll Λ n hi) : SndAll Λ n (.sli a lo hi) := by
  refine ⟨fun C E X x h c => ?_, fun C E X xs h c => bad h (noA rfl), fun C E X tg x h c => bad h (noI rfl)⟩
  unfold chk at h
  split at h <;> first | contradiction | skip
  · rename_i z
    cases z
    simp only [Bool.and_eq_true] at h
    obtain ⟨⟨h1, h2⟩, h3⟩ := h
    refine snd_sli (ha.e _ _ _ _ h1 c) (po_of (fun e q => ?_) (fun q => ?_)) (po_of (fun e q => ?_) (fun q => ?_))
    · subst q
      simp only [Bool.and_eq_true] at h2
      exact ⟨bnot h2.1.1, bnot h2.1.2, hlo.e _ _ _ _ h2.2 c⟩
    · subst q
      exact h2
    · subst q
      simp only [Bool.and_eq_true] at h3
      exact ⟨bnot h3.1.1, bnot h3.1.2, hhi.e _ _ _ _ h3.2 c⟩
    · subst q
      exact h3
theorem all_sliL {a : IR} {lo : IR} {hi : IR} (ha : SndAll Λ n a) (hlo : SndAll Λ n lo) (hhi : SndAll Λ n hi) : SndAll Λ n (.sliL a lo hi) := by
  refine ⟨fun C E X x h c => ?_, fun C E X xs h c => bad h (noA rfl), fun C E X tg x h c => bad h (noI rfl)⟩
  unfold chk at h
  split at h <;> first | contradiction | skip
  · rename_i z
    cases z
    simp only [Bool.and_eq_true] at h
    obtain ⟨⟨h1, h2⟩, h3⟩ := h
    refine snd_sliL (ha.e _ _ _ _ h1 c) (po_of (fun e q => ?_) (fun q => ?_)) (po_of (fun e q => ?_) (fun q => ?_))
    · subst q
      simp only [Bool.and_eq_true] at h2
      exact ⟨bnot h2.1.1, bnot h2.1.2, hlo.e _ _ _ _ h2.2 c⟩
    · subst q
      exact h2
    · subst q
      simp only [Bool.and_eq_true] at h3
      exact ⟨bnot h3.1.1, bnot h3.1.2, hhi.e _ _ _ _ h3.2 c⟩
    · subst q
      exact h3
theorem all_revT {a : IR} (ha : SndAll Λ n a) : SndAll Λ n (.revT a) := by
  refine ⟨fun C E X x h c => ?_, fun C E X xs h c => bad h (noA rfl), fun C E X tg x h c => bad h (noI rfl)⟩
  cases h
theorem all_revL {a : IR} (ha : SndAll Λ n a) : SndAll Λ n (.revL a) := by
  refine ⟨fun C E X x h c => ?_, fun C E X xs h c => bad h (noA rfl), fun C E X tg x h c => bad h (noI rfl)⟩
  unfold chk at h
  split at h <;> first | contradiction | skip
  · rename_i z
    cases z
    exact snd_revL (ha.e _ _ _ _ h c)
theorem all_call {x : Str} {fr : Bool} {a : IR} (ha : SndAll Λ n a) : SndAll Λ n (.call x fr a) := by
  refine ⟨fun C E X x h c => ?_, fun C E X xs h c => bad h (noA rfl), fun C E X tg x h c => bad h (noI rfl)⟩
  unfold chk at h
  split at h <;> first | contradiction | skip
  · rename_i z
    cases z
    simp only [Bool.and_eq_true, decide_eq_true_eq] at h
    obtain ⟨⟨⟨h1, h2⟩, h3⟩, h4⟩ := h
    subst h1
    exact snd_call c h2 h3 (ha.a _ _ _ _ h4 c)
theorem all_callc {x : Str} {fr : Bool} {i : Nat} {a : IR} (ha : SndAll Λ n a) : SndAll Λ n (.callc x fr i a) := by
  refine ⟨fun C E X x h c => ?_, fun C E X xs h c => bad h (noA rfl), fun C E X tg x h c => bad h (noI rfl)⟩
  unfold chk at h
  split at h <;> first | contradiction | skip
  · rename_i z
    cases z
    simp only [Bool.and_eq_true, decide_eq_true_eq] at h
    obtain ⟨⟨⟨⟨h1, h2⟩, h3⟩, h4⟩, h5⟩ := h
    subst h1
    exact snd_callc c h2 h3 h4 (ha.a _ _ _ _ h5 c)
theorem all_callv {i : Nat} {a : IR} (ha : SndAll Λ n a) : SndAll Λ n (.callv i a) := by
  refine ⟨fun C E X x h c => ?_, fun C E X xs h c => bad h (noA rfl), fun C E X tg x h c => bad h (noI rfl)⟩
  cases h
theorem all_app {i : Nat} {a : IR} (ha : SndAll Λ n a) : SndAll Λ n (.app i a) := by
  refine ⟨fun C E X x h c => ?_, fun C E X xs h c => bad h (noA rfl), fun C E X tg x h c => bad h (noI rfl)⟩
  unfold chk at h
  split at h <;> first | contradiction | skip
  · rename_i z
    cases z
    simp only [Bool.and_eq_true, decide_eq_true_eq] at h
    obtain ⟨⟨⟨⟨⟨h1, h2⟩, h3⟩, h4⟩, h5⟩, h6⟩ := h
    subst h1
    exact snd_app c h2 h3 (bnot h4) h5 (ha.e _ _ _ _ h6 c)
theorem all_pop {i : Nat}  : SndAll Λ n (.pop i) := by
  refine ⟨fun C E X x h c => ?_, fun C E X xs h c => bad h (noA rfl), fun C E X tg x h c => bad h (noI rfl)⟩
  unfold chk at h
  split at h <;> first | contradiction | skip
  · rename_i z
    cases z
    simp only [Bool.and_eq_true, decide_eq_true_eq] at h
    obtain ⟨⟨h1, h2⟩, h3⟩ := h
    subst h1
    exact snd_pop c h2 h3
theorem all_popi {i : Nat} {a : IR} (ha : SndAll Λ n a) : SndAll Λ n (.popi i a) := by
  refine ⟨fun C E X x h c => ?_, fun C E X xs h c => bad h (noA rfl), fun C E X tg x h c => bad h (noI rfl)⟩
  unfold chk at h
  split at h <;> first | contradiction | skip
  · rename_i z
    cases z
    simp only [Bool.and_eq_true, decide_eq_true_eq] at h
    obtain ⟨⟨⟨⟨⟨h1, h2⟩, h3⟩, h4⟩, h5⟩, h6⟩ := h
    subst h1
    exact snd_popi c h2 h3 (bnot h4) h5 (ha.e _ _ _ _ h6 c)
theorem all_upd {i : Nat} {a : IR} (ha : SndAll Λ n a) : SndAll Λ n (.upd i a) := by
  refine ⟨fun C E X x h c => ?_, fun C E X xs h c => bad h (noA rfl), fun C E X tg x h c => bad h (noI rfl)⟩
  cases h
theorem all_get {a : IR} {b : IR} (ha : SndAll Λ n a) (hb : SndAll Λ n b) : SndAll Λ n (.get a b) := by
  refine ⟨fun C E X x h c => ?_, fun C E X xs h c => bad h (noA rfl), fun C E X tg x h c => bad h (noI rfl)⟩
  cases h
theorem all_get3 {a : IR} {b : IR} {d : IR} (ha : SndAll Λ n a) (hb : SndAll Λ n b) (hd : SndAll Λ n d) : SndAll Λ n (.get3 a b d) := by
  refine ⟨fun C E X x h c => ?_, fun C E X xs h c => bad h (noA rfl), fun C E X tg x h c => bad h (noI rfl)⟩
  cases h
theorem all_iseq {a : IR} (ha : SndAll Λ n a) : SndAll Λ n (.iseq a) := by
  refine ⟨fun C E X x h c => ?_, fun C E X xs h c => bad h (noA rfl), fun C E X tg x h c => ?_⟩
  · cases h
  · have h : (!isBor a && chk C a x) = true := h
    simp only [Bool.and_eq_true] at h
    exact snd_iseq (bnot h.1) (ha.e _ _ _ _ h.2 c)
theorem all_irng {a : IR} (ha : SndAll Λ n a) : SndAll Λ n (.irng a) := by
  refine ⟨fun C E X x h c => ?_, fun C E X xs h c => bad h (noA rfl), fun C E X tg x h c => ?_⟩
  · cases h
  unfold chkI at h
  split at h <;> first | contradiction | skip
  · rename_i z
    cases z
    simp only [Bool.and_eq_true, decide_eq_true_eq] at h
    obtain ⟨⟨⟨h1, h2⟩, h3⟩, h4⟩ := h
    exact snd_irng c h1 h2 (bnot h3) (ha.e _ _ _ _ h4 c)
theorem all_irng2 {a : IR} {b : IR} (ha : SndAll Λ n a) (hb : SndAll Λ n b) : SndAll Λ n (.irng2 a b) := by
  refine ⟨fun C E X x h c => ?_, fun C E X xs h c => bad h (noA rfl), fun C E X tg x h c => ?_⟩
  · cases h
  unfold chkI at h
  split at h <;> first | contradiction | skip
  · rename_i z
    cases z
    simp only [Bool.and_eq_true, decide_eq_true_eq] at h
    obtain ⟨⟨⟨⟨⟨⟨h1, h2⟩, h3⟩, h4⟩, h5⟩, h6⟩, h7⟩ := h
    exact snd_irng2 c h1 h2 h3 (bnot h4) (bnot h5) (ha.e _ _ _ _ h6 c) (hb.e _ _ _ _ h7 c)
theorem all_ienum {a : IR} (ha : SndAll Λ n a) : SndAll Λ n (.ienum a) := by
  refine ⟨fun C E X x h c => ?_, fun C E X xs h c => bad h (noA rfl), fun C E X tg x h c => ?_⟩
  · cases h
  unfold chkI at h
  split at h <;> first | contradiction | skip
  · rename_i z
    cases z
    simp only [Bool.and_eq_true, decide_eq_true_eq] at h
    obtain ⟨⟨⟨⟨h1, h2⟩, h3⟩, h4⟩, h5⟩ := h
    obtain ⟨es, kk, tp, rfl⟩ := tupT_of h1
    exact snd_ienum c h2 h3 (bnot h4) (ha.e _ _ _ _ h5 c)
theorem all_izip {a : IR} {b : IR} (ha : SndAll Λ n a) (hb : SndAll Λ n b) : SndAll Λ n (.izip a b) := by
  refine ⟨fun C E X x h c => ?_, fun C E X xs h c => bad h (noA rfl), fun C E X tg x h c => ?_⟩
  · cases h
  unfold chkI at h
  split at h <;> first | contradiction | skip
  · rename_i z
    cases z
    simp only [Bool.and_eq_true, decide_eq_true_eq] at h
    obtain ⟨⟨⟨⟨⟨⟨⟨h1, h2⟩, h3⟩, h4⟩, h5⟩, h6⟩, h7⟩, h8⟩ := h
    obtain ⟨es, kk, tp, rfl⟩ := tupT_of h1
    exact snd_izip c h2 h3 h4 (bnot h5) (bnot h6) (ha.e _ _ _ _ h7 c) (hb.e _ _ _ _ h8 c)
theorem all_ienz {a : IR} {b : IR} (ha : SndAll Λ n a) (hb : SndAll Λ n b) : SndAll Λ n (.ienz a b) := by
  refine ⟨fun C E X x h c => ?_, fun C E X xs h c => bad h (noA rfl), fun C E X tg x h c => ?_⟩
  · cases h
  unfold chkI at h
  split at h <;> first | contradiction | skip
  · rename_i z
    cases z
    simp only [Bool.and_eq_true, decide_eq_true_eq] at h
    obtain ⟨⟨⟨⟨⟨⟨⟨⟨h1, h2⟩, h3⟩, h4⟩, h5⟩, h6⟩, h7⟩, h8⟩, h9⟩ := h
    obtain ⟨es, kk, tp, rfl⟩ := tupT_of h1
    exact snd_ienz c h2 h3 h4 h5 (bnot h6) (bnot h7) (ha.e _ _ _ _ h8 c) (hb.e _ _ _ _ h9 c)
theorem all_iitems {a : IR} (ha : SndAll Λ n a) : SndAll Λ n (.iitems a) := by
  refine ⟨fun C E X x h c => ?_, fun C E X xs h c => bad h (noA rfl), fun C E X tg x h c => bad h (noI rfl)⟩
  cases h
theorem all_ivals {a : IR} (ha : SndAll Λ n a) : SndAll Λ n (.ivals a) := by
  refine ⟨fun C E X x h c => ?_, fun C E X xs h c => bad h (noA rfl), fun C E X tg x h c => bad h (noI rfl)⟩
  cases h
theorem all_toL {a : IR} (ha : SndAll Λ n a) : SndAll Λ n (.toL a) := by
  refine ⟨fun C E X x h c => ?_, fun C E X xs h c => bad h (noA rfl), fun C E X tg x h c => bad h (noI rfl)⟩
  unfold chk at h
  split at h <;> first | contradiction | skip
  · rename_i z
    cases z
    simp only [Bool.and_eq_true, decide_eq_true_eq] at h
    obtain ⟨⟨h1, h2⟩, h3⟩ := h
    exact snd_toL c h1 h2 (ha.e _ _ _ _ h3 c)
theorem all_toT {a : IR} (ha : SndAll Λ n a) : SndAll Λ n (.toT a) := by
  refine ⟨fun C E X x h c => ?_, fun C E X xs h c => bad h (noA rfl), fun C E X tg x h c => bad h (noI rfl)⟩
  unfold chk at h
  split at h <;> first | contradiction | skip
  · rename_i z
    cases z
    simp only [Bool.and_eq_true, decide_eq_true_eq] at h
    obtain ⟨⟨h1, h2⟩, h3⟩ := h
    exact snd_toT c h1 h2 (ha.e _ _ _ _ h3 c)
theorem all_rngL {a : IR} (ha : SndAll Λ n a) : SndAll Λ n (.rngL a) := by
  refine ⟨fun C E X x h c => ?_, fun C E X xs h c => bad h (noA rfl), fun C E X tg x h c => bad h (noI rfl)⟩
  unfold chk at h
  split at h <;> first | contradiction | skip
  · rename_i z
    cases z
    simp only [Bool.and_eq_true, decide_eq_true_eq] at h
    obtain ⟨⟨⟨⟨h1, h2⟩, h3⟩, h4⟩, h5⟩ := h
    exact snd_rngL c h1 h2 h3 (ha.e _ _ _ _ h5 c)
theorem all_rngT {a : IR} (ha : SndAll Λ n a) : SndAll Λ n (.rngT a) := by
  refine ⟨fun C E X x h c => ?_, fun C E X xs h c => bad h (noA rfl), fun C E X tg x h c => bad h (noI rfl)⟩
  unfold chk at h
  split at h <;> first | contradiction | skip
  · rename_i z
    cases z
    simp only [Bool.and_eq_true, decide_eq_true_eq] at h
    obtain ⟨⟨⟨⟨h1, h2⟩, h3⟩, h4⟩, h5⟩ := h
    exact snd_rngT c h1 h2 h3 (ha.e _ _ _ _ h5 c)
theorem all_sort {a : IR} (ha : SndAll Λ n a) : SndAll Λ n (.sort a) := by
  refine ⟨fun C E X x h c => ?_, fun C E X xs h c => bad h (noA rfl), fun C E X tg x h c => bad h (noI rfl)⟩
  cases h
theorem all_set {a : IR} (ha : SndAll Λ n a) : SndAll Λ n (.set a) := by
  refine ⟨fun C E X x h c => ?_, fun C E X xs h c => bad h (noA rfl), fun C E X tg x h c => bad h (noI rfl)⟩
  unfold chk at h
  split at h <;> first | contradiction | skip
  · rename_i z
    cases z
    simp only [Bool.and_eq_true, decide_eq_true_eq] at h
    obtain ⟨⟨⟨h1, h2⟩, h3⟩, h4⟩ := h
    exact snd_lenset c h1 h2 h3 (ha.e _ _ _ _ h4 c) rfl fun _ => rfl
theorem all_dct {a : IR} (ha : SndAll Λ n a) : SndAll Λ n (.dct a) := by
  refine ⟨fun C E X x h c => ?_, fun C E X xs h c => bad h (noA rfl), fun C E X tg x h c => bad h (noI rfl)⟩
  cases h
theorem all_lc {own : List (Str × Nat)} {p : Pat} {src : IR} {cond : IR} {elt : IR} (hsrc : SndAll Λ n src) (hcond : SndAll Λ n cond) (helt : SndAll Λ n elt) : SndAll Λ n (.lc own p src cond elt) := by
  refine ⟨fun C E X x h c => ?_, fun C E X xs h c => bad h (noA rfl), fun C E X tg x h c => bad h (noI rfl)⟩
  unfold chk at h
  split at h <;> first | contradiction | skip
  · rename_i z
    cases z
    simp only [Bool.and_eq_true, decide_eq_true_eq] at h
    obtain ⟨⟨⟨⟨⟨⟨⟨⟨h1, h2⟩, h3⟩, h4⟩, h5⟩, h6⟩, h7⟩, h8⟩, h9⟩ := h
    subst h1
    refine snd_lc c h2 (fun j hj => ?_) h4 h5 (hsrc.i _ _ _ _ _ h6 c) (fun X' c' eX => ?_) (fun X' c' eX => (helt.e _ _ _ _ h9 c').frozen (bnot h8))
    · have q := List.all_eq_true.mp h3 j hj
      rw [decide_eq_true_eq] at q
      exact q
    · split at h7
      · exact PTs.nilc h7
      · exact pts_of (hcond.e _ _ _ _ h7 c').pt
      · cases h7
theorem all_lc2 {own : List (Str × Nat)} {own1 : List Nat} {p : Pat} {src : IR} {cond : IR} {p1 : Pat} {src1 : IR} {cond1 : IR} {elt : IR} (hsrc : SndAll Λ n src) (hcond : SndAll Λ n cond) (hsrc1 : SndAll Λ n src1) (hcond1 : SndAll Λ n cond1) (helt : SndAll Λ n elt) : SndAll Λ n (.lc2 own own1 p src cond p1 src1 cond1 elt) := by
  refine ⟨fun C E X x h c => ?_, fun C E X xs h c => bad h (noA rfl), fun C E X tg x h c => bad h (noI rfl)⟩
  unfold chk at h
  split at h <;> first | contradiction | skip
  · rename_i z
    cases z
    simp only [Bool.and_eq_true, decide_eq_true_eq] at h
    obtain ⟨⟨⟨⟨⟨⟨⟨⟨⟨⟨⟨⟨⟨⟨⟨h1, h1'⟩, h2⟩, h3⟩, h4⟩, h4'⟩, h5⟩, h5'⟩, h6⟩, h6'⟩, h7⟩, h7'⟩, h8⟩, h8'⟩, h9⟩, h10⟩ := h
    subst h1
    subst h1'
    refine snd_lc2 c h2 (fun j hj => ?_) (fun j hj => ?_) (fun j hj => ?_) h5 h5' h6 h6' (hsrc.i _ _ _ _ _ h7 c) (fun X' c' eX => hsrc1.i _ _ _ _ _ h7' c') (fun X' c' eX => ?_) (fun X' c' eX => ?_) (fun X' c' eX => (helt.e _ _ _ _ h10 c').frozen (bnot h9))
    · have q := List.all_eq_true.mp h3 j hj
      rw [decide_eq_true_eq] at q
      exact q
    · have q := List.all_eq_true.mp h4 j hj
      rw [decide_eq_true_eq] at q
      exact q
    · have q := List.all_eq_true.mp h4' j hj
      rw [decide_eq_true_eq] at q
      exact q
    · split at h8
      · exact PTs.nilc h8
      · exact pts_of (hcond.e _ _ _ _ h8 c').pt
      · cases h8
    · split at h8'
      · exact PTs.nilc h8'
      · exact pts_of (hcond1.e _ _ _ _ h8' c').pt
      · cases h8'
end
theorem snd_all (Λ : Env) (n : Nat) : ∀ ir : IR, SndAll Λ n ir
  | .nev  => all_nev
  | .cst d => all_cst
  | .var i => all_var
  | .bor i => all_bor
  | .glo x => all_glo
  | .nil  => all_nil
  | .cons a b => all_cons (snd_all Λ n a) (snd_all Λ n b)
  | .tup a => all_tup (snd_all Λ n a)
  | .lst a => all_lst (snd_all Λ n a)
  | .emp  => all_emp
  | .bin k a b => all_bin (snd_all Λ n a) (snd_all Λ n b)
  | .cmp k a b => all_cmp (snd_all Λ n a) (snd_all Λ n b)
  | .chain k k1 a b d => all_chain (snd_all Λ n a) (snd_all Λ n b) (snd_all Λ n d)
  | .neg a => all_neg (snd_all Λ n a)
  | .not a => all_not (snd_all Λ n a)
  | .and a b => all_and (snd_all Λ n a) (snd_all Λ n b)
  | .or a b => all_or (snd_all Λ n a) (snd_all Λ n b)
  | .ite t a b => all_ite (snd_all Λ n t) (snd_all Λ n a) (snd_all Λ n b)
  | .b1 k a => all_b1 (snd_all Λ n a)
  | .b2 k a b => all_b2 (snd_all Λ n a) (snd_all Λ n b)
  | .isi t a => all_isi (snd_all Λ n a)
  | .idx a b => all_idx (snd_all Λ n a) (snd_all Λ n b)
  | .sli a lo hi => all_sli (snd_all Λ n a) (snd_all Λ n lo) (snd_all Λ n hi)
  | .sliL a lo hi => all_sliL (snd_all Λ n a) (snd_all Λ n lo) (snd_all Λ n hi)
  | .revT a => all_revT (snd_all Λ n a)
  | .revL a => all_revL (snd_all Λ n a)
  | .call x fr a => all_call (snd_all Λ n a)
  | .callc x fr i a => all_callc (snd_all Λ n a)
  | .callv i a => all_callv (snd_all Λ n a)
  | .app i a => all_app (snd_all Λ n a)
  | .pop i => all_pop
  | .popi i a => all_popi (snd_all Λ n a)
  | .upd i a => all_upd (snd_all Λ n a)
  | .get a b => all_get (snd_all Λ n a) (snd_all Λ n b)
  | .get3 a b d => all_get3 (snd_all Λ n a) (snd_all Λ n b) (snd_all Λ n d)
  | .iseq a => all_iseq (snd_all Λ n a)
  | .irng a => all_irng (snd_all Λ n a)
  | .irng2 a b => all_irng2 (snd_all Λ n a) (snd_all Λ n b)
  | .ienum a => all_ienum (snd_all Λ n a)
  | .izip a b => all_izip (snd_all Λ n a) (snd_all Λ n b)
  | .ienz a b => all_ienz (snd_all Λ n a) (snd_all Λ n b)
  | .iitems a => all_iitems (snd_all Λ n a)
  | .ivals a => all_ivals (snd_all Λ n a)
  | .toL a => all_toL (snd_all Λ n a)
  | .toT a => all_toT (snd_all Λ n a)
  | .rngL a => all_rngL (snd_all Λ n a)
  | .rngT a => all_rngT (snd_all Λ n a)
  | .sort a => all_sort (snd_all Λ n a)
  | .set a => all_set (snd_all Λ n a)
  | .dct a => all_dct (snd_all Λ n a)
  | .lc own p src cond elt => all_lc (snd_all Λ n src) (snd_all Λ n cond) (snd_all Λ n elt)
  | .lc2 own own1 p src cond p1 src1 cond1 elt => all_lc2 (snd_all Λ n src) (snd_all Λ n cond) (snd_all Λ n src1) (snd_all Λ n cond1) (snd_all Λ n elt)
end Fw

set_option Elab.async false
set_option linter.all false
set_option maxRecDepth 100000
set_option maxHeartbeats 4000000
namespace Fw
open PySem PySem.Spec L2

/-! ### what a statement's reading says -/
structure StS (Θ : Th) (z : Bool) (σ : L2.St) (ŝ : FS) (H G : Hp) (ŝ' : FS) (σ' : L2.St) (H' G' : Hp) (T' : List (Addr × D)) : Prop where
  ext : Ext (Own ŝ σ) H G H' G'
  own : ∀ b, Own ŝ' σ' b → Own ŝ σ b ∨ H b = none
  rep : Rep Θ G' T' ŝ' σ' H'
  fx : z = true → σ'[0]? = σ[0]?
def RV (Θ : Th) (fr : Bool) (σ : L2.St) (ŝ : FS) (H : Hp) (ŝ' : FS) (σ' : L2.St) (H' G' : Hp) (v : V) (d : D) : Prop :=
  match fr with
  | true => ∃ p, v = .ref p ∧ G' p = none ∧ OV Θ G' H' p d ∧ (H p = none ∨ Own ŝ σ p) ∧ ¬ Own ŝ' σ' p
  | false => DV Θ G' v d
def FlK (Θ : Th) (z : Bool) (σ : L2.St) (ŝ : FS) (H G : Hp) (D : Ends) : Fl → Prop
  | .nx s => ∀ σ' H' G', StS Θ z σ ŝ H G s σ' H' G' [] → D.nx σ' H'
  | .rt fr d s => ∀ v σ' H' G', StS Θ z σ ŝ H G s σ' H' G' [] → RV Θ fr σ ŝ H s σ' H' G' v d → D.rt v H'
  | .bk s => ∀ σ' H' G', StS Θ z σ ŝ H G s σ' H' G' [] → D.bk σ' H'
def RdS (Θ : Th) (z : Bool) (E : XK) (f : FS → Out Fl) : TS := fun D σ H => ∃ ŝ G, Rep Θ G [] ŝ σ H ∧ WO Θ E H (Own ŝ σ) (f ŝ) (FlK Θ z σ ŝ H G D)
section
variable {Θ : Th} {z : Bool} {E : XK} {G G' G1 G2 H H' H1 H2 : Hp} {T T' T1 T2 : List (Addr × Fw.D)} {ŝ ŝ' ŝ1 ŝ2 : FS} {σ σ1 σ2 : L2.St} {v w : V} {d e : Fw.D} {D : Ends} {f : FS → Out Fl}
theorem StS.refl (R : Rep Θ G T ŝ σ H) : StS Θ z σ ŝ H G ŝ σ H G T := ⟨Ext.refl, fun _ h => .inl h, R, fun _ => rfl⟩
theorem Ext.back {O : Addr → Prop} (x : Ext O H G H1 G1) {b : Addr} (h : H1 b = none) : H b = none := by
  cases q : H b with
  | none => rfl
  | some o => obtain ⟨o', q'⟩ := x.th b o q; rw [h] at q'; cases q'
theorem StS.trans (a : StS Θ z σ ŝ H G ŝ1 σ1 H1 G1 T1) (b : StS Θ z σ1 ŝ1 H1 G1 ŝ2 σ2 H2 G2 T2) : StS Θ z σ ŝ H G ŝ2 σ2 H2 G2 T2 :=
  ⟨a.ext.trans b.ext (fun c o z q => (a.own c z).elim id (fun e => by rw [q] at e; cases e)), fun c z => (b.own c z).elim (a.own c) fun e => .inr (a.ext.back e), b.rep, fun h => (b.fx h).trans (a.fx h)⟩
theorem StS.of (s : Stp Θ σ ŝ H G ŝ1 H1 G1 T1) : StS Θ z σ ŝ H G ŝ1 σ H1 G1 T1 := ⟨s.ext, fun b z => .inl (s.own b z), s.rep, fun _ => rfl⟩
theorem StS.drop (h : T <:+ T1) (a : StS Θ z σ ŝ H G ŝ1 σ1 H1 G1 T1) : StS Θ z σ ŝ H G ŝ1 σ1 H1 G1 T := ⟨a.ext, a.own, a.rep.suffix h, a.fx⟩
theorem WO.stepS {α : Type} {x : Out α} {K : α → Prop} (h : WO Θ E H (Own ŝ σ) x K) (s : StS Θ z σ ŝ H G ŝ1 σ1 H1 G1 T1) : WO Θ E H1 (Own ŝ1 σ1) x K :=
  h.move s.ext.fr fun b o z q => (s.own b z).elim id fun e => by rw [q] at e; cases e
theorem RV.back {fr : Bool} (s : StS Θ z σ ŝ H G ŝ1 σ1 H1 G1 T1) (h : RV Θ fr σ1 ŝ1 H1 ŝ2 σ2 H2 G2 v d) : RV Θ fr σ ŝ H ŝ2 σ2 H2 G2 v d := by
  cases fr with
  | false => exact h
  | true =>
    obtain ⟨p, e, g, ov, o, n⟩ := h
    exact ⟨p, e, g, ov, o.elim (fun z => .inl (s.ext.back z)) fun z => (s.own p z).elim .inr .inl, n⟩
theorem FlK.step {fl : Fl} (s : StS Θ z σ ŝ H G ŝ1 σ1 H1 G1 T1) (h : FlK Θ z σ ŝ H G D fl) : FlK Θ z σ1 ŝ1 H1 G1 D fl := by
  cases fl with
  | nx => exact fun σ' H' G' q => h σ' H' G' (s.trans q)
  | bk => exact fun σ' H' G' q => h σ' H' G' (s.trans q)
  | rt => exact fun v σ' H' G' q r => h v σ' H' G' (s.trans q) (r.back s)
theorem RdS.go (s : StS Θ z σ ŝ H G ŝ1 σ1 H1 G1 []) (h : WO Θ E H (Own ŝ σ) (f ŝ1) (FlK Θ z σ ŝ H G D)) : RdS Θ z E f D σ1 H1 :=
  ⟨ŝ1, G1, s.rep, (h.stepS s).mono fun _ _ k => FlK.step s k⟩
end
structure SC (Λ : Env) (n : Nat) (C : Ck) (E : XK) (X : Cx) : Prop where
  xc : XC Λ n C E X
  own : PassesOwn (model X.prog X.w) X.A X.env X.xe
  tk : Takes X (fun cls d _ H => E cls d H)
  fnk : X.env.scope.kind = .function
structure SndS (Λ : Env) (z : Bool) (E : XK) (X : Cx) (i : IS) (st : Stmt) : Prop where
  ps : PS X st (RdS (thOf X) z E (semS Λ i))
structure SndB (Λ : Env) (z : Bool) (E : XK) (X : Cx) (i : IS) (st : List Stmt) : Prop where
  ps : PSs X st (RdS (thOf X) z E (semS Λ i))
theorem PS.imp {X : Cx} {st : Stmt} {t t' : TS} (h : PS X st t) (k : ∀ D σ H, t' D σ H → t D σ H) : PS X st t' := ⟨fun pins s σ H D I q => h.run pins s σ H D I (k D σ H q)⟩
theorem PSs.imp {X : Cx} {st : List Stmt} {t t' : TS} (h : PSs X st t) (k : ∀ D σ H, t' D σ H → t D σ H) : PSs X st t' := ⟨fun pins s σ H D I q => h.run pins s σ H D I (k D σ H q)⟩
section
variable {Λ : Env} {n : Nat} {C : Ck} {E : XK} {X : Cx} {e a b : Expr} {pos : Pos} {ir ia ib : IR} {i j : IS} {st : Stmt} {sts sts2 : List Stmt}
theorem snds_nil : SndB Λ C.fix E X .skip [] := ⟨PSs.imp pss_nil fun D σ H ⟨ŝ, G, R, w⟩ => w σ H G (StS.refl R)⟩
theorem snds_pass : SndS Λ C.fix E X .skip (.Pass pos) := ⟨PS.imp ps_pass fun D σ H ⟨ŝ, G, R, w⟩ => w σ H G (StS.refl R)⟩
theorem snds_cons (ha : SndS Λ C.fix E X i st) (hb : SndB Λ C.fix E X j sts) : SndB Λ C.fix E X (.seq i j) (st :: sts) := by
  refine ⟨PSs.imp (pss_cons ha.ps hb.ps) fun D σ H ⟨ŝ, G, R, w⟩ => ?_⟩
  refine ⟨ŝ, G, R, (WO.bind.mp (show WO _ _ _ _ (semS Λ i ŝ >>= _) _ from w)).mono fun fl _ k => ?_⟩
  cases fl with
  | nx s => exact fun σ' H' G' q => RdS.go q k
  | rt fr d s => exact k
  | bk s => exact k
/-- some slots are not spoken of any more -/
theorem Rep.forgetF {Θ : Th} {G H : Hp} {T : List (Addr × Fw.D)} {ŝ : FS} {σ : L2.St} {vs : List Nat} (R : Rep Θ G T ŝ σ H) : Rep Θ G T (wipeF ŝ vs) σ H :=
  ⟨R.sub, by rw [wipeF_len]; exact R.len, fun h => R.val (wipeF_some h).1, fun h => R.own (wipeF_some h).1, R.tmp, fun h1 h2 h3 h4 => R.inj (wipeF_some h1).1 (wipeF_some h2).1 h3 h4, R.tnd, fun hb ⟨j, e', z1, z2⟩ => R.tne hb ⟨j, e', (wipeF_some z1).1, z2⟩⟩
theorem snds_fgt {vs : List Nat} (hb : SndB Λ C.fix E X j sts) : SndB Λ C.fix E X (.seq (.fgt vs) j) sts :=
  ⟨PSs.imp hb.ps fun D σ H ⟨ŝ, G, R, w⟩ => RdS.go (ŝ1 := wipeF ŝ vs) ⟨Ext.refl, fun b ⟨j, e', z1, z2⟩ => .inl ⟨j, e', (wipeF_some z1).1, z2⟩, R.forgetF, fun _ => rfl⟩ w⟩
theorem snds_if {c : IR} {t : Expr} (hc : Snd Λ E X c t) (ha : SndB Λ C.fix E X i sts) (hb : SndB Λ C.fix E X j sts2) : SndS Λ C.fix E X (.iff c i j) (.If t sts sts2 pos) := by
  refine ⟨PS.imp (ps_if hc.pt ha.ps hb.ps) fun D σ H ⟨ŝ, G, R, w⟩ => ?_⟩
  refine ⟨ŝ, G, [], R, (WO.bind.mp (show WO _ _ _ _ (sem Λ c ŝ >>= _) _ from w)).mono fun p _ k => ?_⟩
  obtain ⟨t, ht, k⟩ := WO.optb k
  refine ⟨t, tstD_some ht, fun H1 G1 s1 => ?_⟩
  cases t with
  | true => exact iteT (RdS.go (StS.of s1) k)
  | false => exact iteF (RdS.go (StS.of s1) k)
theorem snds_ret {fr : Bool} (hk : fr = true → kd ir = .fresh) (hf : fr = false → isBor ir = false) (he : Snd Λ E X ir e) : SndS Λ C.fix E X (.ret fr ir) (.Return (some e) pos) := by
  cases fr with
  | true =>
    have he' := he.pe
    rw [hk rfl] at he'
    refine ⟨PS.imp (ps_ret he') fun D σ H ⟨ŝ, G, R, w⟩ => ?_⟩
    refine ⟨ŝ, G, [], R, (WO.bind.mp (show WO _ _ _ _ (sem Λ ir ŝ >>= _) _ from w)).mono fun q _ k v H1 G1 T1 s1 r1 => ?_⟩
    obtain ⟨p, rfl, rfl, n⟩ := r1
    obtain ⟨gn, ov⟩ := s1.rep.tmp List.mem_cons_self
    exact k _ σ H1 G1 ((StS.of s1).drop (List.suffix_cons _ _)) ⟨p, rfl, gn, ov, .inl n, s1.rep.tne List.mem_cons_self⟩
  | false =>
    refine ⟨PS.imp (ps_ret (he.frozen (hf rfl))) fun D σ H ⟨ŝ, G, R, w⟩ => ?_⟩
    refine ⟨ŝ, G, [], R, (WO.bind.mp (show WO _ _ _ _ (sem Λ ir ŝ >>= _) _ from w)).mono fun q _ k v H1 G1 T1 s1 r1 => ?_⟩
    obtain ⟨rfl, dv⟩ := r1
    exact k v σ H1 G1 (StS.of s1) dv
theorem snds_retN : SndS Λ C.fix E X .retN (.Return none pos) := ⟨PS.imp ps_retN fun D σ H ⟨ŝ, G, R, w⟩ => w .non σ H G (StS.refl R) .non⟩
theorem snds_retO {k : Nat} {y : Str} {p : Pos} (c : XC Λ n C E X) (hv : visOk C k y = true) : SndS Λ C.fix E X (.retO k) (.Return (some (.Name y p)) pos) := by
  obtain ⟨v1, v2, v3, v4⟩ := visOk_vis c hv
  refine ⟨PS.imp (ps_ret (pe_var v1 v2 v3 v4)) fun D σ H ⟨ŝ, G, R, w⟩ => ?_⟩
  obtain ⟨d, hd, w⟩ := WO.optb w
  have hd := readO_some hd
  obtain ⟨a, ea, gn, ov⟩ := R.own hd
  refine ⟨.ref a, ea, w _ σ H G ⟨Ext.refl, fun b z => .inl (Own.of_forget z), R.forget, fun _ => rfl⟩ ⟨a, rfl, gn, ov, .inr ⟨k, d, hd, ea⟩, fun z => ?_⟩⟩
  obtain ⟨j, e', z1, z2⟩ := z
  rcases set_get z1 with ⟨_, q, _⟩ | ⟨hne, q⟩
  · cases q
  · exact hne (R.inj hd q ea z2)
theorem snds_brk : SndS Λ C.fix E X .brk (.Break pos) := ⟨PS.imp ps_break fun D σ H ⟨ŝ, G, R, w⟩ => w σ H G (StS.refl R)⟩
/-- a value that is none of the comprehensions -/
def notComp : Expr → Bool
  | .ListComp _ _ _ _ => false
  | .SetComp _ _ _ _ => false
  | .DictComp _ _ _ _ _ => false
  | _ => true
theorem swaps_no {v : Expr} (h : notComp v = true) (t : Option Expr) (l : Nat) (env : PySem.Env) : swapsWith v t l env = pure false := by
  cases v <;> first | rfl | cases h
theorem snds_ex (hn : notComp e = true) (he : Snd Λ E X ir e) : SndS Λ C.fix E X (.ex ir) (.Expr e pos) := by
  refine ⟨PS.imp (ps_expr he.pe (swaps_no hn _ _ _)) fun D σ H ⟨ŝ, G, R, w⟩ => ?_⟩
  refine ⟨ŝ, G, [], R, (WO.bind.mp (show WO _ _ _ _ (sem Λ ir ŝ >>= _) _ from w)).mono fun q _ k v H1 G1 T1 s1 r1 => ?_⟩
  exact k σ H1 G1 (StS.of (s1.suffix r1.suffix))
theorem snds_raise {y m : Str} {jj : Nat} {p p2 pos2 : Pos} (c : SC Λ n C E X) (hg : gloOk C y = true) (hx : y ∈ C.exs) : SndS Λ C.fix E X (.raise y (.cst .none)) (.Raise (some (.Call (.Name y p) [.Constant (.str m) jj p2] [] pos)) none pos2) := by
  obtain ⟨g1, g2, g3⟩ := gloOk_gl c.xc hg
  obtain ⟨Cl, bmB, B, newId, initId, F, q, hm, hk, hs, ht⟩ := c.xc.hexs y hx
  refine ⟨PS.imp (ps_raise c.xc.calm c.tk (pmk_own F q hm hk (raises_own hs ht) g1 g2)) fun D σ H ⟨ŝ, G, R, w⟩ => ?_⟩
  exact w (.ref Cl) none H hm (fun b o z _ => z) (.inl ⟨rfl, rfl⟩)
theorem locOk_fix {i : Nat} {x : Str} (h : locOk C i x = true) (z : C.fix = true) : i ≠ 0 := fun e => by
  subst e
  unfold locOk at h
  rw [z] at h
  simp at h
mutual
theorem chkP_fix : ∀ (p : Pat) (t : Expr), chkP C p t = true → C.fix = true → 0 ∉ patSlots p
  | .nm i, t, h, z => by
    cases t with
    | Name x pos =>
      have h : locOk C i x = true := by simpa [chkP] using h
      have := locOk_fix h z
      simp only [patSlots, List.mem_singleton]
      exact fun e => this e.symm
    | _ => simp [chkP] at h
  | .tp p, t, h, z => by
    cases t with
    | Tuple es k pos =>
      have h : chkPs C p es = true := by simpa [chkP] using h
      exact chkPs_fix p es h z
    | _ => simp [chkP] at h
  | .nil, _, h, _ => by simp [chkP] at h
  | .cons _ _, _, h, _ => by simp [chkP] at h
theorem chkPs_fix : ∀ (p : Pat) (ts : List Expr), chkPs C p ts = true → C.fix = true → 0 ∉ patSlots p
  | .nil, _, _, _ => by simp [patSlots]
  | .cons p q, es, h, z => by
    cases es with
    | nil => simp [chkPs] at h
    | cons e es =>
      simp only [chkPs, Bool.and_eq_true] at h
      obtain ⟨⟨_, h2⟩, h3⟩ := h
      have a := chkP_fix p e h2 z
      have b := chkPs_fix q es h3 z
      simp only [patSlots, List.mem_append]
      exact fun q => q.elim a b
  | .nm _, _, h, _ => by simp [chkPs] at h
  | .tp _, _, h, _ => by simp [chkPs] at h
end
/-! ### loops -/
theorem snds_for {p : Pat} {src : IR} {tg it : Expr} (c : SC Λ n C E X) (hset : notSetE it = true) (hp : chkP C p tg = true) (hi : SndI Λ E X tg src it) (hb : SndB Λ C.fix E X i sts) : SndS Λ C.fix E X (.for p src i) (.For tg it sts [] pos) := by
  refine ⟨PS.imp (ps_for c.own c.xc.calm hi.pi (pg_of c.xc.hN c.xc.nd c.xc.hsc c.xc.hfn c.xc.calm p tg hp) hb.ps (setE hset X.env)) fun D σ H ⟨ŝ, G, R, w⟩ => ?_⟩
  refine ⟨ŝ, G, [], R, (WO.bind.mp (show WO _ _ _ _ (sem Λ src ŝ >>= _) _ from w)).mono fun q _ k => ?_⟩
  obtain ⟨l, hl, k1⟩ := WO.optb k
  refine ⟨l, lstD_some hl, fun J H1 G1 s1 wk => ?_⟩
  refine for_it wk (fun m σi Hi => ∃ ŝi Gi, StS (thOf X) C.fix σ ŝ H G ŝi σi Hi Gi [] ∧ Same G1 Gi ∧ WO (thOf X) E H (Own ŝ σ) (forLoop (fun d s => optO (bindP p d s) >>= fun s1 => semS Λ i s1) (l.drop m) ŝi) (FlK (thOf X) C.fix σ ŝ H G D)) ?_ ?_ ?_ ?_
  · exact ⟨q.2, G1, StS.of s1, Same.refl _, by simpa using k1⟩
  · rintro m σi Hi _ ⟨ŝi, Gi, st, gg, _⟩
    exact gg.trans st.rep.sub
  · rintro m x σi Hi Hy hm ⟨ŝi, Gi, st, gg, wi⟩ ⟨d, hd, yd⟩
    have hdrop : l.drop m = d :: l.drop (m + 1) := by
      rw [List.drop_eq_getElem_cons hm]
      have e : l[m] = d := by
        rw [List.getElem?_eq_getElem hm] at hd
        exact Option.some.inj hd
      rw [e]
    rw [hdrop] at wi
    unfold forLoop at wi
    rw [bind_assoc] at wi
    obtain ⟨s2, hb2, wi⟩ := WO.optb wi
    have wi := WO.bind.mp wi
    have item : ∃ G2, StS (thOf X) C.fix σ ŝ H G ŝi σi Hy G2 [] ∧ DV (thOf X) G2 x d ∧ Same Gi G2 := by
      obtain ⟨G2, s3, dv⟩ := YI.item yd st.rep gg
      exact ⟨_, st.trans (StS.of s3), dv, s3.ext.gg⟩
    obtain ⟨G2, st2, dv2, gg2⟩ := item
    refine bind_ok' (Θ := thOf X) p hb2 st2.rep dv2 fun σ3 R3 o3 len3 out3 => ?_
    have st3 : StS (thOf X) C.fix σ ŝ H G s2 σ3 Hy G2 [] := st2.trans ⟨Ext.refl, fun b z => .inl (o3 b z), R3, fun z => out3 0 (chkP_fix p tg hp z)⟩
    refine ⟨s2, G2, st3.rep, (wi.stepS st3).mono fun fl _ k => ?_⟩
    cases fl with
    | nx s => exact fun σ' H' G' q => ⟨s, G', st3.trans q, gg.trans (gg2.trans q.ext.gg), k⟩
    | rt fr dd s => exact FlK.step st3 k
    | bk s => exact fun σ' H' G' q => k σ' H' G' (st3.trans q)
  · rintro σi Hi ⟨ŝi, Gi, st, gg, wi⟩
    rw [List.drop_length] at wi
    exact wi σi Hi Gi st

theorem snds_whl {c : IR} {t : Expr} {m : Nat} (k : SC Λ n C E X) (hc : Snd Λ E X c t) (hb : SndB Λ C.fix E X i sts) : SndS Λ C.fix E X (.whl m c i) (.While t sts [] pos) := by
  refine ⟨PS.imp (ps_while k.own hc.pt hb.ps) fun D σ H ⟨ŝ, G, R, w⟩ => ?_⟩
  refine ⟨fun m σi Hi => ∃ ŝi Gi, StS (thOf X) C.fix σ ŝ H G ŝi σi Hi Gi [] ∧ WO (thOf X) E H (Own ŝ σ) (whileLoop (fun s => sem Λ c s >>= fun p => optO (tstD p.1) >>= fun t => .ok (t, p.2)) (semS Λ i) m ŝi) (FlK (thOf X) C.fix σ ŝ H G D), ⟨m, ŝ, G, StS.refl R, w⟩, ?_⟩
  rintro m σi Hi ⟨ŝi, Gi, st, wi⟩
  cases m with
  | zero => exact wi.elim
  | succ m =>
    unfold whileLoop at wi
    rw [bind_assoc] at wi
    refine ⟨ŝi, Gi, [], st.rep, ((WO.bind.mp wi).stepS st).mono fun p _ k => ?_⟩
    rw [bind_assoc] at k
    obtain ⟨t, ht, k⟩ := WO.optb k
    refine ⟨t, tstD_some ht, fun H1 G1 s1 => ?_⟩
    have st1 := st.trans (StS.of s1)
    cases t with
    | true =>
      refine iteT ⟨fun σ' H' => ∃ ŝi Gi, StS (thOf X) C.fix σ ŝ H G ŝi σ' H' Gi [] ∧ WO (thOf X) E H (Own ŝ σ) (whileLoop (fun s => sem Λ c s >>= fun p => optO (tstD p.1) >>= fun t => .ok (t, p.2)) (semS Λ i) m ŝi) (FlK (thOf X) C.fix σ ŝ H G D), fun σ' H' q => ⟨m, Nat.lt_succ_self _, q⟩, ?_⟩
      have k : WO (thOf X) E H (Own ŝ σ) (semS Λ i p.2 >>= fun f => match f with
        | .nx s => whileLoop (fun s => sem Λ c s >>= fun p => optO (tstD p.1) >>= fun t => .ok (t, p.2)) (semS Λ i) m s
        | .rt fr d s => .ok (.rt fr d s)
        | .bk s => .ok (.nx s)) (FlK (thOf X) C.fix σ ŝ H G D) := k
      refine ⟨p.2, G1, st1.rep, ((WO.bind.mp k).stepS st1).mono fun fl _ k => ?_⟩
      cases fl with
      | nx s => exact fun σ' H' G' q => ⟨s, G', st1.trans q, k⟩
      | rt fr dd s => exact FlK.step st1 k
      | bk s => exact fun σ' H' G' q => k σ' H' G' (st1.trans q)
    | false =>
      refine iteF ?_
      exact (show FlK (thOf X) C.fix σ ŝ H G D (.nx p.2) from k) σi H1 G1 st1
end
end Fw

set_option Elab.async false
set_option linter.all false
set_option maxRecDepth 100000
set_option maxHeartbeats 4000000
namespace Fw
open PySem PySem.Spec L2
section
variable {Λ : Env} {n : Nat} {C : Ck} {E : XK} {X : Cx} {e a b : Expr} {pos : Pos} {ir ia ib : IR} {i j : IS} {st : Stmt} {sts sts2 : List Stmt}
theorem locOk_loc {i : Nat} {x : Str} (c : XC Λ n C E X) (h : locOk C i x = true) : X.N[i]? = some x ∧ Loc X.env.scope x ∧ (X.fn x = true ∨ X.env.scope.names.lookup x = some .local) := by
  unfold locOk at h
  simp only [Bool.and_eq_true, decide_eq_true_eq] at h
  obtain ⟨⟨h1, _⟩, h2⟩ := h
  refine ⟨by rw [c.hN]; exact h1, ?_⟩
  rw [c.hsc, c.hfn]
  split at h2
  · rename_i z; exact ⟨.inl z, .inr z⟩
  · rename_i z; exact ⟨.inr z, .inl h2⟩
  · cases h2
theorem visOk_of_loc {i : Nat} {x : Str} (c : XC Λ n C E X) (h : locOk C i x = true) : Vis X.env.scope x := by
  obtain ⟨_, h2, _⟩ := locOk_loc c h
  rcases h2 with z | z
  · exact .inl z
  · exact .inr (.inl z)

/-! ### name = value -/
/-- name = [.. for ..] stores ahead of the list's end where the name is the def's own, on the line of the list -/
def lcSw (C : Ck) (y : Str) (py : Pos) (scope : Scope) (p : Pos) : Bool :=
  C.sc.names.lookup y == some .local && py.line == p.line && !(scope.names.any fun (n, k) => n == y && (k == .local || k == .cell))
theorem blockKind_fn {env : PySem.Env} (h : env.scope.kind = .function) : (env.blockKind == .function) = true := by
  unfold Env.blockKind
  rw [h]; rfl
theorem swaps_lc {y : Str} {py p : Pos} {scope : Scope} {l : Nat} {el : Expr} {gs : List Comprehension} (c : SC Λ n C E X) : swapsWith (.ListComp el gs scope p) (some (.Name y py)) l X.env = pure (lcSw C y py scope p) := by
  show (pure (X.env.blockKind == .function && X.env.kindOf y == some .local && py.line == p.line && !(scope.names.any fun (n, k) => n == y && (k == .local || k == .cell))) : Sem Bool) = _
  rw [blockKind_fn c.fnk, Bool.true_and]
  unfold lcSw Env.kindOf
  rw [c.xc.hsc]
theorem psn (c : SC Λ n C E X) {k : Nat} {y : Str} {py : Pos} (hl : locOk C k y = true) (h : chk C ir e = true) : PS X (.Assign [.Name y py] e pos) (tAsg (RdE (thOf X) E (kd ir) (sem Λ ir)) (gName k)) := by
  by_cases hnev : ir = .nev
  · subst hnev
    exact ⟨fun _ _ _ _ _ _ ⟨_, _, _, _, w⟩ => w.elim⟩
  obtain ⟨l1, l2, l3⟩ := locOk_loc c.xc hl
  have hs := (snd_all Λ n ir).e C E X e h c.xc
  by_cases hn : notComp e = true
  · exact ps_set c.xc.nd l1 l2 hs.pe (swaps_no hn _ _ _) l3
  · cases e with
    | ListComp el gs scope p =>
      cases hw : lcSw C y py scope p with
      | false => exact ps_set c.xc.nd l1 l2 hs.pe (by rw [swaps_lc c, hw]) l3
      | true =>
        unfold chk at h
        split at h <;> first | contradiction | skip
        all_goals first | (exact absurd rfl hnev) | (rename_i z; cases z; done) | skip
        · rename_i z
          cases z
          simp only [Bool.and_eq_true, decide_eq_true_eq] at h
          obtain ⟨⟨⟨⟨⟨⟨⟨⟨h1, h2⟩, h3⟩, h4⟩, h5⟩, h6⟩, h7⟩, h8⟩, h9⟩ := h
          subst h1
          rename_i ow pt sr cn et tg it fs
          have ok : BlkOk X.N X.env.scope scope ow := by
            rw [c.xc.hN, c.xc.hsc]
            exact blkOk_by h2
          have hyl : X.env.scope.names.lookup y = some .local := by
            unfold lcSw at hw
            simp only [Bool.and_eq_true, beq_iff_eq] at hw
            rw [c.xc.hsc]
            exact hw.1.1
          refine PS.imp (ps_setLc (g := gPat X.K pt) c.xc.calm c.xc.nd l1 hyl (by rw [swaps_lc c, hw]) ((snd_all Λ n _).i _ _ _ _ _ h6 c.xc).pi ok (fun s H B cl fp => ?_) (tt := RdT (thOf X) noE (sem Λ cn)) (fun s H B cl fp => ?_) (te := RdE (thOf X) noE .frozen (sem Λ et)) (fun s H B cl fp => ?_) (setE h4 X.env)) fun D σ H q => ?_
          · have c' := c.xc.blk (scope := scope) s H cl B fp
            exact pg_of c'.hN c'.nd c'.hsc c'.hfn c'.calm _ _ h5
          · have c' := c.xc.blk (scope := scope) s H cl B fp
            split at h7
            · exact PTs.nilc h7
            · exact pts_of ((snd_all Λ n _).e _ _ _ _ h7 c').pt
            · cases h7
          · exact ((snd_all Λ n _).e _ _ _ _ h9 (c.xc.blk (scope := scope) s H cl B fp)).frozen (bnot h8)
          · refine lc_rd (fun j hj => ?_) (fun _ _ _ h => h) (fun _ _ _ h => h) q
            have q := List.all_eq_true.mp h3 j hj
            rw [decide_eq_true_eq] at q
            exact q
        · rename_i z
          cases z
          simp only [Bool.and_eq_true, decide_eq_true_eq] at h
          obtain ⟨⟨⟨⟨⟨⟨⟨⟨⟨⟨⟨⟨⟨⟨⟨h1, h1'⟩, h2⟩, h3⟩, h4⟩, h4'⟩, h5⟩, h5'⟩, h6⟩, h6'⟩, h7⟩, h7'⟩, h8⟩, h8'⟩, h9⟩, h10⟩ := h
          subst h1
          subst h1'
          rename_i ow ow1 pt sr cn pt1 sr1 cn1 et tg it fs tg1 it1 fs1
          have ok : BlkOk X.N X.env.scope scope ow := by
            rw [c.xc.hN, c.xc.hsc]
            exact blkOk_by h2
          have hyl : X.env.scope.names.lookup y = some .local := by
            unfold lcSw at hw
            simp only [Bool.and_eq_true, beq_iff_eq] at hw
            rw [c.xc.hsc]
            exact hw.1.1
          have m3 : ∀ j ∈ ow1, j ∈ ow.map (·.2) := fun j hj => by
            have q := List.all_eq_true.mp h3 j hj
            rw [decide_eq_true_eq] at q
            exact q
          refine PS.imp (ps_setLc2 (g := gPat X.K pt) (g1 := gPat X.K pt1) c.xc.calm c.xc.nd l1 hyl (by rw [swaps_lc c, hw]) ((snd_all Λ n _).i _ _ _ _ _ h7 c.xc).pi ok m3 (fun s H B cl fp => ?_) (tt := RdT (thOf X) noE (sem Λ cn)) (fun s H B cl fp => ?_) (wi1 := RdI (thOf X) noE (sem Λ sr1)) (fun s H B cl fp => ?_) (fun s H B cl fp => ?_) (tt1 := RdT (thOf X) noE (sem Λ cn1)) (fun s H B cl fp => ?_) (te := RdE (thOf X) noE .frozen (sem Λ et)) (fun s H B cl fp => ?_) (setE h5 X.env) (setE h5')) fun D σ H q => ?_
          · have c' := c.xc.blk (scope := scope) s H cl B fp
            exact pg_of c'.hN c'.nd c'.hsc c'.hfn c'.calm _ _ h6
          · have c' := c.xc.blk (scope := scope) s H cl B fp
            split at h8
            · exact PTs.nilc h8
            · exact pts_of ((snd_all Λ n _).e _ _ _ _ h8 c').pt
            · cases h8
          · exact ((snd_all Λ n _).i _ _ _ _ _ h7' (c.xc.blk (scope := scope) s H cl B fp)).pi
          · have c' := c.xc.blk (scope := scope) s H cl B fp
            exact pg_of c'.hN c'.nd c'.hsc c'.hfn c'.calm _ _ h6'
          · have c' := c.xc.blk (scope := scope) s H cl B fp
            split at h8'
            · exact PTs.nilc h8'
            · exact pts_of ((snd_all Λ n _).e _ _ _ _ h8' c').pt
            · cases h8'
          · exact ((snd_all Λ n _).e _ _ _ _ h10 (c.xc.blk (scope := scope) s H cl B fp)).frozen (bnot h9)
          · refine lc2_rd (fun j hj => ?_) m3 (fun j hj => ?_) (fun _ _ _ h => h) (fun _ _ _ h => h) (fun _ _ _ h => h) (fun _ _ _ h => h) q
            · have q := List.all_eq_true.mp h4 j hj
              rw [decide_eq_true_eq] at q
              exact q
            · have q := List.all_eq_true.mp h4' j hj
              rw [decide_eq_true_eq] at q
              exact q
    | SetComp el gs scope p => unfold chk at h; split at h <;> first | contradiction | exact absurd rfl hnev
    | DictComp el gs scope p => unfold chk at h; split at h <;> first | contradiction | exact absurd rfl hnev
    | _ => exact absurd rfl hn

theorem tgt_frozen {te : Kd} {f : FS → Out (D × FS)} {g : TG} (hk : ∀ i, te ≠ .bor i) (D : Ends) (σ : L2.St) (H : Hp) (h : tAsg (RdE (thOf X) E .frozen f) g D σ H) : tAsg (RdE (thOf X) E te f) g D σ H := by
  cases te with
  | frozen => exact h
  | fresh => exact RdE.freeze h
  | bor i => exact absurd rfl (hk i)
theorem set_rd {f : FS → Out (Fw.D × FS)} {p : Pat} {D : Ends} {σ : L2.St} {H : Hp} {ŝ : FS} {G : Hp} (R : Rep (thOf X) G [] ŝ σ H)
    (hz : C.fix = true → 0 ∉ patSlots p) (w : WO (thOf X) E H (Own ŝ σ) (f ŝ >>= fun q => optO (bindP p q.1 q.2) >>= fun s => .ok (.nx s)) (FlK (thOf X) C.fix σ ŝ H G D)) : tAsg (RdE (thOf X) E .frozen f) (gPat X.K p) D σ H := by
  refine ⟨ŝ, G, [], R, (WO.bind.mp w).mono fun q _ k v H1 G1 T1 s1 r1 => ?_⟩
  obtain ⟨rfl, dv⟩ := r1
  obtain ⟨s2, hb, k⟩ := WO.optb k
  exact bind_ok' (Θ := thOf X) p hb s1.rep dv fun σ3 R3 o3 len3 out3 => k σ3 H1 G1 ⟨s1.ext, fun b z => .inl (s1.own b (o3 b z)), R3, fun z => out3 0 (hz z)⟩
theorem snds_setn (c : SC Λ n C E X) {k : Nat} {y : Str} {py : Pos} (hl : locOk C k y = true) (nb : isBor ir = false) (h : chk C ir e = true) : SndS Λ C.fix E X (.set (.nm k) ir) (.Assign [.Name y py] e pos) :=
  ⟨PS.imp (psn c hl h) fun D σ H ⟨_, _, R, w⟩ => tgt_frozen (kd_nb nb) D σ H (set_rd (p := .nm k) R (fun z => by simp only [patSlots, List.mem_singleton]; exact fun e => locOk_fix hl z e.symm) w)⟩
theorem snds_seto (c : SC Λ n C E X) {k : Nat} {y : Str} {py : Pos} (hl : locOk C k y = true) (hk : kd ir = .fresh) (h : chk C ir e = true) : SndS Λ C.fix E X (.seto k ir) (.Assign [.Name y py] e pos) := by
  have hp := psn (pos := pos) (py := py) c hl h
  rw [hk] at hp
  refine ⟨PS.imp hp fun D σ H ⟨ŝ, G, R, w⟩ => ?_⟩
  refine ⟨ŝ, G, [], R, (WO.bind.mp (show WO _ _ _ _ (sem Λ ir ŝ >>= _) _ from w)).mono fun q _ k' v H1 G1 T1 s1 r1 => ?_⟩
  obtain ⟨a, rfl, rfl, hn⟩ := r1
  refine k' _ H1 G1 ⟨s1.ext, fun b z => ?_, s1.rep.seto, fun z => get_set_ne (locOk_fix hl z)⟩
  rcases Own.of_seto z with z | z
  · exact .inl (s1.own b z)
  · subst z; exact .inr hn
/-! ### several names -/
def swNone (C : Ck) : Expr → Expr → Bool
  | .Tuple ts _ _, .Tuple vs _ _ => !(ts.length == 2 || ts.length == 3) || vs.length != ts.length || (vs.any fun | .Starred .. => true | _ => false) ||
      (let line := (ts.head?.map (·.pos.line)).getD 0
       let names := ts.filterMap fun
        | .Name id pos => if C.sc.names.lookup id == some .local && pos.line == line then some id else none
        | _ => none
       names.length != ts.length || names.eraseDups.length != names.length) || vs.all (foldedForSure 8)
  | .List _ _, .Tuple _ _ _ => false
  | .Tuple _ _ _, _ => true
  | .Subscript _ _ _, _ => true
  | _, _ => false
theorem swNone_of {t v : Expr} (c : SC Λ n C E X) (h : swNone C t v = true) : swappedStores [t] v X.env = pure none := by
  cases t with
  | Tuple ts k1 k2 =>
    cases v with
    | Tuple vs k3 k4 =>
      unfold swNone at h
      unfold swappedStores
      have hb : (X.env.blockKind != .function) = false := by
        have := blockKind_fn c.fnk
        unfold bne
        rw [this]; rfl
      have hk : ∀ x, X.env.kindOf x = C.sc.names.lookup x := fun x => by unfold Env.kindOf; rw [c.xc.hsc]
      simp only [hb, hk, Bool.or_false, pure_bind]
      simp only [Bool.or_eq_true] at h
      split
      · rfl
      · rename_i h1
        split
        · rfl
        · rename_i h2
          split
          · rfl
          · rename_i h3
            split
            · rfl
            · rename_i h4
              exfalso
              simp only [Bool.or_eq_true] at h1 h3
              rcases h with (((h | h) | h) | h) | h
              · exact h1 (.inl h)
              · exact h1 (.inr h)
              · exact h2 h
              · exact h3 h
              · exact h4 h
    | _ => rfl
  | Subscript => cases v <;> rfl
  | _ => cases v <;> cases h
theorem swaps_tgt {t v : Expr} (ht : ∀ x p, t ≠ .Name x p) (l : Nat) (env : PySem.Env) : swapsWithSole [t] v l env = pure false := by
  show swapsWith v (some t) l env = pure false
  cases v <;> first | rfl | (cases t <;> first | rfl | exact absurd rfl (ht _ _))
theorem snds_setp (c : SC Λ n C E X) {p : Pat} {es : List Expr} {kk : Nat} {tp : Pos} (hp : chkP C (.tp p) (.Tuple es kk tp) = true) (hw : swNone C (.Tuple es kk tp) e = true) (nb : isBor ir = false) (he : Snd Λ E X ir e) : SndS Λ C.fix E X (.set (.tp p) ir) (.Assign [.Tuple es kk tp] e pos) :=
  ⟨PS.imp (ps_asg (he.frozen nb) (pg_of c.xc.hN c.xc.nd c.xc.hsc c.xc.hfn c.xc.calm (.tp p) _ hp) (swaps_tgt (fun _ _ z => by cases z) _ _) (swNone_of c hw) rfl) fun D σ H ⟨_, _, R, w⟩ => set_rd (p := .tp p) R (fun z => chkP_fix _ _ hp z) w⟩
/-! ### items, in place -/
theorem set_or {t u : TSet} (h : PSet X t) (h' : PSet X u) : PSet X (fun o i v H Q => t o i v H Q ∨ u o i v H Q) := by
  intro pins s σ H o i v ov iv uv Q I ro ri rv q
  rcases q with q | q
  · exact h pins s σ H o i v ov iv uv Q I ro ri rv q
  · exact h' pins s σ H o i v ov iv uv Q I ro ri rv q
theorem asg_sub {o k : Expr} {p : Pos} (hp : plainIx k = true) (env : PySem.Env) (v : Value) : assign (.Subscript o k p) env v = (do
      let ov ← holding [v] (eval o env)
      let iv ← holding [v, ov] (eval k env)
      standAt p
      holding [v, ov, iv] (setItem ov iv v)
      release [v, ov, iv] []) := by
  cases k <;> first | rfl | cases hp
theorem snds_setix (c : SC Λ n C E X) {k : Nat} {y : Str} {py sp : Pos} {kx : Expr} {ik : IR} (hv : visOk C k y = true) (hx : plainIx kx = true) (nk : isBor ik = false) (nb : isBor ir = false) (hk : Snd Λ E X ik kx) (he : Snd Λ E X ir e) :
    SndS Λ C.fix E X (.setix k ik ir) (.Assign [.Subscript (.Name y py) kx sp] e pos) := by
  obtain ⟨v1, v2, v3, v4⟩ := visOk_vis c.xc hv
  refine ⟨PS.imp (ps_asg (he.frozen nb) (pg_sub (pe_var v1 v2 v3 v4) (hk.frozen nk) (set_or set_list (set_dct (room65 c.xc))) (asg_sub hx X.env)) (swaps_tgt (fun _ _ z => by cases z) _ _) rfl rfl) fun D σ H ⟨ŝ, G, R, w⟩ => ?_⟩
  refine ⟨ŝ, G, [], R, (WO.bind.mp (show WO _ _ _ _ (sem Λ ir ŝ >>= _) _ from w)).mono fun p _ w v H1 G1 T1 s1 r1 => ?_⟩
  obtain ⟨rfl, dv⟩ := r1
  obtain ⟨c0, hc0, w⟩ := WO.optb w
  obtain ⟨a, ea, _, _⟩ := s1.rep.own (readO_some hc0)
  refine ⟨.ref a, ea, p.2, G1, [], s1.rep, (WO.bind.mp (w.step s1)).mono fun q _ w u H2 G2 T2 s2 r2 => ?_⟩
  obtain ⟨rfl, du⟩ := r2
  obtain ⟨cc, hcc, w⟩ := WO.optb w
  have hcs := readO_some hcc
  obtain ⟨a', ea', gn, ov⟩ := s2.rep.own hcs
  rw [ea] at ea'
  cases ea'
  have s12 := s1.trans s2
  have dv2 := dv.same s2.ext.gg
  have owna : Own q.2 σ a := ⟨k, _, hcs, ea⟩
  obtain ⟨dk, sk⟩ := q
  have fin : ∀ (o : HO) (d' : Fw.D), (∃ u, H2 a = some u) → OV (thOf X) G2 (upd H2 a o) a d' → StS (thOf X) C.fix σ ŝ H G (sk.set k (some (.o d'))) σ (upd H2 a o) G2 [] := fun o d' ho ov' =>
    ⟨s12.ext.trans (Ext.mut owna ho) (fun b o z _ => s12.own b z), fun b z => .inl (s12.own b (Own.of_set_o hcs z)), s2.rep.mut hcs ea ov', fun _ => rfl⟩
  cases ov with
  | @lst xs l hq t =>
    cases dk with
    | int z =>
      obtain ⟨j, hj, w⟩ := WO.optb w
      cases du
      refine .inl ⟨a, xs, z, j, rfl, rfl, hq, by rw [t.len]; exact hj, w σ _ G2 (fin _ _ ⟨_, hq⟩ (.lst upd_same (t.set j dv2)))⟩
    | _ => exact w.elim
  | @dct o kxs xs kvs hq ent tk tx =>
    obtain ⟨hh, w⟩ := WO.ite w
    rw [Bool.and_eq_true] at hh
    unfold fitsL at hh
    rw [decide_eq_true_eq] at hh
    exact .inr ⟨G2, a, o, kxs, xs, kvs, dk, p.1, rfl, hq, gn, s2.rep.sub, ent, tk, tx, du, dv2, hh.1, by omega, fun ob' kxs' xs' e1 e2 e3 => w σ _ G2 (fin _ _ ⟨_, hq⟩ (.dct upd_same e1 e2 e3))⟩
theorem snds_aug (c : SC Λ n C E X) {k : Nat} {y : Str} {py : Pos} {sub : Bool} {op : Operator} (hl : locOk C k y = true) (ho : bopE (if sub then .Sub else .Add) op = true) (nb : isBor ir = false) (he : Snd Λ E X ir e) : SndS Λ C.fix E X (.aug k sub ir) (.AugAssign (.Name y py) op e pos) := by
  obtain ⟨l1, l2, l3⟩ := locOk_loc c.xc hl
  have e := bopE_eq ho
  subst e
  have hop : PIp X (if sub then .Sub else .Add) (ipI fun i j => if sub = true then i - j else i + j) := by
    cases sub with
    | true => exact ip_sub
    | false => exact ip_add
  refine ⟨PS.imp (ps_aug c.xc.nd l1 l2 (he.frozen nb) hop l3) fun D σ H ⟨ŝ, G, R, w⟩ => ?_⟩
  obtain ⟨d, hd, w⟩ := WO.optb w
  unfold readS at hd
  have hx : ∃ x, σ[k]? = some (some x) ∧ (∀ i, d = .int i → x = .int i) := by
    split at hd
    · rename_i hc; obtain ⟨x, ex, dv⟩ := R.val hc; cases hd; exact ⟨x, ex, fun i z => by subst z; cases dv; rfl⟩
    · rename_i hc; obtain ⟨x, ex, _, ov⟩ := R.own hc; cases hd; exact ⟨_, ex, fun i z => by subst z; cases ov⟩
    · cases hd
  obtain ⟨x, ex, hxi⟩ := hx
  refine ⟨x, ex, ŝ, G, [], R, (WO.bind.mp w).mono fun q _ w v H1 G1 T1 s1 r1 => ?_⟩
  obtain ⟨rfl, dv⟩ := r1
  obtain ⟨r, hr, w⟩ := WO.optb w
  obtain ⟨dq, sq⟩ := q
  have hr : augD sub d dq = some r := hr
  cases d with
  | int i =>
    cases dq with
    | int j =>
      cases hr
      cases dv
      exact ⟨i, j, hxi i rfl, rfl, w _ H1 G1 ⟨s1.ext, fun b z => .inl (s1.own b (Own.of_setv z)), s1.rep.setv (.int _), fun z => get_set_ne (locOk_fix hl z)⟩⟩
    | _ => cases hr
  | _ => cases hr
theorem snds_ext (c : SC Λ n C E X) {k : Nat} {y : Str} {py : Pos} (hl : locOk C k y = true) (nb : isBor ir = false) (he : Snd Λ E X ir e) : SndS Λ C.fix E X (.ext k ir) (.AugAssign (.Name y py) .Add e pos) := by
  obtain ⟨l1, l2, l3⟩ := locOk_loc c.xc hl
  refine ⟨PS.imp (ps_aug c.xc.nd l1 l2 (he.frozen nb) (ti := rExt2) iop_ext l3) fun D σ H ⟨ŝ, G, R, w⟩ => ?_⟩
  obtain ⟨c0, hc0, w⟩ := WO.optb w
  obtain ⟨a, ea, _, _⟩ := R.own (readO_some hc0)
  refine ⟨.ref a, ea, ŝ, G, [], R, (WO.bind.mp w).mono fun q _ w v H1 G1 T1 s1 r1 => ?_⟩
  obtain ⟨rfl, dv⟩ := r1
  obtain ⟨cc, hcc, w⟩ := WO.optb w
  obtain ⟨l, hl, w⟩ := WO.optb w
  obtain ⟨m, hm, w⟩ := WO.optb w
  obtain ⟨hz, w⟩ := WO.ite w
  rw [lstD_some hl] at hcc
  have hcs := readO_some hcc
  obtain ⟨a', ea', gn, ov⟩ := s1.rep.own hcs
  rw [ea] at ea'
  cases ea'
  rw [lstD_some hm] at dv
  cases ov with
  | @lst xs _ hq t =>
    cases dv with
    | @lst b zs _ hq2 t2 =>
      unfold fitsL at hz
      rw [decide_eq_true_eq] at hz
      have owna : Own q.2 σ a := ⟨k, _, hcs, ea⟩
      refine ⟨a, b, xs, zs, rfl, rfl, hq, s1.rep.sub _ _ hq2, by rw [t.len, t2.len]; exact hz, ?_⟩
      have e : σ.set k (some (.ref a)) = σ := by
        refine List.ext_getElem? fun j => ?_
        by_cases h : k = j
        · subst h; rw [get_set_self (lt_get ea), ea]
        · rw [get_set_ne h]
      show D.nx (σ.set k (some (.ref a))) _
      rw [e]
      exact w σ _ G1 ⟨s1.ext.trans (Ext.mut owna ⟨_, hq⟩) (fun b o z _ => s1.own b z), fun b z => .inl (s1.own b (Own.of_set_o hcs z)), s1.rep.mut hcs ea (.lst upd_same (t.append t2)), fun _ => rfl⟩
end
end Fw

set_option Elab.async false
set_option linter.all false
set_option maxRecDepth 100000
set_option maxHeartbeats 4000000
namespace Fw
open PySem PySem.Spec L2
/-! ### a, b = x, y -/
def kf : Bool → Kd
  | true => .fresh
  | false => .frozen
def isFresh (a : IR) : Bool := match kd a with
  | .fresh => true
  | _ => false
def kOk (f : Bool) (a : IR) : Bool := match f with
  | true => isFresh a
  | false => !isBor a
section
variable {Θ : Th} {z : Bool} {G G' G1 G2 H H' H1 H2 : Hp} {T T' T1 T2 : List (Addr × Fw.D)} {ŝ ŝ' ŝ1 ŝ2 : FS} {σ σ1 σ2 : L2.St} {v w : V} {d e : Fw.D}
theorem isFresh_kd {a : IR} (h : isFresh a = true) : kd a = .fresh := by
  unfold isFresh at h
  split at h
  · assumption
  · cases h
theorem put {f : Bool} {i : Nat} (hz : z = true → i ≠ 0) (s : StS Θ z σ ŝ H G ŝ1 σ1 H1 G1 T1) (h : RK Θ (kf f) G1 H T T1 ŝ2 σ2 v d) : StS Θ z σ ŝ H G (ŝ1.set i (some (if f then .o d else .v d))) (σ1.set i (some v)) H1 G1 T := by
  cases f with
  | true =>
    obtain ⟨a, rfl, rfl, hn⟩ := h
    refine ⟨s.ext, fun b z => ?_, s.rep.seto, fun q => (get_set_ne (hz q)).trans (s.fx q)⟩
    rcases Own.of_seto z with z | z
    · exact s.own b z
    · subst z; exact .inr hn
  | false =>
    obtain ⟨rfl, dv⟩ := h
    exact ⟨s.ext, fun b z => s.own b (Own.of_setv z), s.rep.setv dv, fun q => (get_set_ne (hz q)).trans (s.fx q)⟩
theorem RK.grow {f : Bool} (h : RK Θ (kf f) G1 H T T1 ŝ1 σ v d) (e : Same G1 G2) : RK Θ (kf f) G2 H T T1 ŝ1 σ v d := by
  cases f with
  | true => exact h
  | false => exact ⟨h.1, h.2.same e⟩
end
section
variable {Λ : Env} {n : Nat} {C : Ck} {E : XK} {X : Cx} {e a b d : Expr} {pos : Pos} {ir ia ib ic : IR}
theorem Snd.kf {f : Bool} (h : Snd Λ E X ia a) (hk : kOk f ia = true) : PE X a (RdE (thOf X) E (kf f) (sem Λ ia)) := by
  cases f with
  | true =>
    have q := h.pe
    rw [isFresh_kd hk] at q
    exact q
  | false => exact h.frozen (bnot hk)
def locS (C : Ck) (i : Nat) (x : Str) : Bool := decide (C.N[i]? = some x) && !(C.fix && i == 0) && C.sc.names.lookup x == some .local
theorem locS_of {i : Nat} {x : Str} (c : XC Λ n C E X) (h : locS C i x = true) : X.N[i]? = some x ∧ X.env.scope.names.lookup x = some .local := by
  unfold locS at h
  simp only [Bool.and_eq_true, decide_eq_true_eq, beq_iff_eq] at h
  exact ⟨by rw [c.hN]; exact h.1.1, by rw [c.hsc]; exact h.2⟩
theorem locS_fix {i : Nat} {x : Str} (h : locS C i x = true) (z : C.fix = true) : i ≠ 0 := fun e => by
  subst e
  unfold locS at h
  rw [z] at h
  simp at h
theorem sw2 {x y : Str} {px py pt pt2 : Pos} {kt k2 : Nat} (c : SC Λ n C E X) (hx : X.env.scope.names.lookup x = some .local) (hy : X.env.scope.names.lookup y = some .local) (hxy : x ≠ y) (hl : (py.line == px.line) = true) (s1 : notStar a = true) (s2 : notStar b = true)
    (hf : ([a, b].all (foldedForSure 8)) = false) (hc : ([a, b].all (constantsAlone 8)) = false) : swappedStores [.Tuple [.Name x px, .Name y py] kt pt] (.Tuple [a, b] k2 pt2) X.env = pure (some [x, y]) := by
  have hb : (X.env.blockKind != .function) = false := by
    have := blockKind_fn c.fnk
    unfold bne
    rw [this]; rfl
  have st : ([a, b].any fun | .Starred .. => true | _ => false) = false := by
    cases a <;> first | (cases s1; done) | (cases b <;> first | (cases s2; done) | rfl)
  have hl1 : ((Expr.Name y py).pos.line == px.line) = true := hl
  have q1 : (X.env.kindOf x == some .local) = true := by unfold Env.kindOf; rw [hx]; rfl
  have q2 : (X.env.kindOf y == some .local) = true := by unfold Env.kindOf; rw [hy]; rfl
  have nm : ([Expr.Name x px, Expr.Name y py].filterMap fun
    | .Name id pos => if X.env.kindOf id == some .local && pos.line == px.line then some id else none
    | _ => none) = [x, y] := by
    simp only [List.filterMap_cons, List.filterMap_nil, q1, q2, hl, Bool.and_self, if_true, beq_self_eq_true]
  have ed : [x, y].eraseDups = [x, y] := by
    have : (y == x) = false := by simpa using Ne.symm hxy
    simp [List.eraseDups, List.eraseDupsBy, List.eraseDupsBy.loop, this]
  show (do
    if !(2 == 2 || 2 == 3) || 2 != 2 || X.env.blockKind != .function then return none
    if [a, b].any fun | .Starred .. => true | _ => false then return none
    let line := px.line
    let names := [Expr.Name x px, Expr.Name y py].filterMap fun
      | .Name id pos => if X.env.kindOf id == some .local && pos.line == line then some id else none
      | _ => none
    if names.length != 2 || names.eraseDups.length != names.length then return none
    if [a, b].all (foldedForSure 8) then return none
    if [a, b].all (constantsAlone 8) then unsupported "assign.tuple-of-constant-expressions:order-of-the-stores"
    return some names : Sem (Option (List Str))) = _
  rw [st, hf, hc, hb]
  simp only [nm, ed]
  rfl

theorem sw3 {x y z : Str} {px py pz pt pt2 : Pos} {kt k2 : Nat} (c : SC Λ n C E X) (hx : X.env.scope.names.lookup x = some .local) (hy : X.env.scope.names.lookup y = some .local) (hz : X.env.scope.names.lookup z = some .local) (hxy : x ≠ y) (hxz : x ≠ z) (hyz : y ≠ z)
    (hl : (py.line == px.line) = true) (hl2 : (pz.line == px.line) = true) (s1 : notStar a = true) (s2 : notStar b = true) (s3 : notStar d = true)
    (hf : ([a, b, d].all (foldedForSure 8)) = false) (hc : ([a, b, d].all (constantsAlone 8)) = false) : swappedStores [.Tuple [.Name x px, .Name y py, .Name z pz] kt pt] (.Tuple [a, b, d] k2 pt2) X.env = pure (some [x, y, z]) := by
  have hb : (X.env.blockKind != .function) = false := by
    have := blockKind_fn c.fnk
    unfold bne
    rw [this]; rfl
  have st : ([a, b, d].any fun | .Starred .. => true | _ => false) = false := by
    have k : ∀ {e : Expr}, notStar e = true → (match e with | .Starred .. => true | _ => false) = false := fun {e} h => by
      cases e <;> first | rfl | cases h
    simp only [List.any_cons, List.any_nil, k s1, k s2, k s3, Bool.or_false]
  have q1 : (X.env.kindOf x == some .local) = true := by unfold Env.kindOf; rw [hx]; rfl
  have q2 : (X.env.kindOf y == some .local) = true := by unfold Env.kindOf; rw [hy]; rfl
  have q3 : (X.env.kindOf z == some .local) = true := by unfold Env.kindOf; rw [hz]; rfl
  have nm : ([Expr.Name x px, Expr.Name y py, Expr.Name z pz].filterMap fun
    | .Name id pos => if X.env.kindOf id == some .local && pos.line == px.line then some id else none
    | _ => none) = [x, y, z] := by
    simp only [List.filterMap_cons, List.filterMap_nil, q1, q2, q3, hl, hl2, Bool.and_self, if_true, beq_self_eq_true]
  have ed : [x, y, z].eraseDups = [x, y, z] := by
    have e1 : (y == x) = false := by simpa using Ne.symm hxy
    have e2 : (z == x) = false := by simpa using Ne.symm hxz
    have e3 : (z == y) = false := by simpa using Ne.symm hyz
    simp [List.eraseDups, List.eraseDupsBy, List.eraseDupsBy.loop, e1, e2, e3]
  show (do
    if !(3 == 2 || 3 == 3) || 3 != 3 || X.env.blockKind != .function then return none
    if [a, b, d].any fun | .Starred .. => true | _ => false then return none
    let line := px.line
    let names := [Expr.Name x px, Expr.Name y py, Expr.Name z pz].filterMap fun
      | .Name id pos => if X.env.kindOf id == some .local && pos.line == line then some id else none
      | _ => none
    if names.length != 3 || names.eraseDups.length != names.length then return none
    if [a, b, d].all (foldedForSure 8) then return none
    if [a, b, d].all (constantsAlone 8) then unsupported "assign.tuple-of-constant-expressions:order-of-the-stores"
    return some names : Sem (Option (List Str))) = _
  rw [st, hf, hc, hb]
  simp only [nm, ed]
  rfl
theorem nth_ne {i j : Nat} {x y : Str} (h : X.N[i]? = some x) (h' : X.N[j]? = some y) (hxy : x ≠ y) : i ≠ j := fun e => by
  subst e
  rw [h] at h'
  exact hxy (Option.some.inj h')
theorem snds_par2 {x y : Str} {i j : Nat} {f g : Bool} {px py pt pt2 : Pos} {kt k2 : Nat} (c : SC Λ n C E X) (hx : locS C i x = true) (hy : locS C j y = true) (hxy : x ≠ y) (hl : (py.line == px.line) = true) (s1 : notStar a = true) (s2 : notStar b = true)
    (ka : kOk f ia = true) (kb : kOk g ib = true) (hf : ([a, b].all (foldedForSure 8)) = false) (hc : ([a, b].all (constantsAlone 8)) = false) (ha : Snd Λ E X ia a) (hb : Snd Λ E X ib b) :
    SndS Λ C.fix E X (.par [(i, f), (j, g)] (.cons ia (.cons ib .nil))) (.Assign [.Tuple [.Name x px, .Name y py] kt pt] (.Tuple [a, b] k2 pt2) pos) := by
  obtain ⟨nx, lx⟩ := locS_of c.xc hx
  obtain ⟨ny, ly⟩ := locS_of c.xc hy
  have hij : i ≠ j := nth_ne nx ny hxy
  refine ⟨PS.imp (ps_par c.xc.calm c.xc.nd nx ny hij lx ly (pa_cons (ha.kf ka) (pa_cons (hb.kf kb) pa_nil (star_of s2 _ _)) (star_of s1 _ _)) (sw2 c lx ly hxy hl s1 s2 hf hc)) fun D σ H ⟨ŝ, G, R, w⟩ => ?_⟩
  have w : WO (thOf X) E H (Own ŝ σ) (sem Λ (.cons ia (.cons ib .nil)) ŝ >>= fun q => optO (tupD q.1) >>= fun l => optO (setPar [(i, f), (j, g)] l q.2) >>= fun s => .ok (.nx s)) (FlK (thOf X) C.fix σ ŝ H G D) := w
  have w := WO.bind.mp w
  refine ⟨ŝ, G, [], R, (WO.bind.mp w).mono fun p _ w v H1 G1 T1 st1 r1 => ?_⟩
  refine ⟨p.2, G1, T1, st1.rep, (WO.bind.mp (WO.bind.mp (w.step st1))).mono fun q _ w u H2 G2 T2 st2 r2 => ?_⟩
  have w : FlK (thOf X) C.fix σ ŝ H G D (.nx ((q.2.set i (some (if f then .o p.1 else .v p.1))).set j (some (if g then .o q.1 else .v q.1)))) := w
  have s12 := (StS.of (z := C.fix) st1).trans (StS.of st2)
  have e2 := put (i := j) (locS_fix hy) s12 (r2.back st1.ext)
  have e1 := put (i := i) (locS_fix hx) e2 (r1.grow (f := f) st2.ext.gg)
  rw [List.set_comm _ _ hij.symm, List.set_comm _ _ hij.symm] at e1
  exact ⟨v, u, rfl, w _ H2 G2 e1⟩
theorem snds_par3 {x y z : Str} {i j l : Nat} {f g h : Bool} {px py pz pt pt2 : Pos} {kt k2 : Nat} (c : SC Λ n C E X) (hx : locS C i x = true) (hy : locS C j y = true) (hz : locS C l z = true) (hxy : x ≠ y) (hxz : x ≠ z) (hyz : y ≠ z) (hl : (py.line == px.line) = true) (hl2 : (pz.line == px.line) = true)
    (s1 : notStar a = true) (s2 : notStar b = true) (s3 : notStar d = true)
    (ka : kOk f ia = true) (kb : kOk g ib = true) (kc : kOk h ic = true) (hf : ([a, b, d].all (foldedForSure 8)) = false) (hc : ([a, b, d].all (constantsAlone 8)) = false) (ha : Snd Λ E X ia a) (hb : Snd Λ E X ib b) (hd : Snd Λ E X ic d) :
    SndS Λ C.fix E X (.par [(i, f), (j, g), (l, h)] (.cons ia (.cons ib (.cons ic .nil)))) (.Assign [.Tuple [.Name x px, .Name y py, .Name z pz] kt pt] (.Tuple [a, b, d] k2 pt2) pos) := by
  obtain ⟨nx, lx⟩ := locS_of c.xc hx
  obtain ⟨ny, ly⟩ := locS_of c.xc hy
  obtain ⟨nz, lz⟩ := locS_of c.xc hz
  have hij : i ≠ j := nth_ne nx ny hxy
  have hil : i ≠ l := nth_ne nx nz hxz
  have hjl : j ≠ l := nth_ne ny nz hyz
  refine ⟨PS.imp (ps_par3 c.xc.calm c.xc.nd nx ny nz hij hil hjl lx ly lz (pa_cons (ha.kf ka) (pa_cons (hb.kf kb) (pa_cons (hd.kf kc) pa_nil (star_of s3 _ _)) (star_of s2 _ _)) (star_of s1 _ _)) (sw3 c lx ly lz hxy hxz hyz hl hl2 s1 s2 s3 hf hc)) fun D σ H ⟨ŝ, G, R, w⟩ => ?_⟩
  have w : WO (thOf X) E H (Own ŝ σ) (sem Λ (.cons ia (.cons ib (.cons ic .nil))) ŝ >>= fun q => optO (tupD q.1) >>= fun m => optO (setPar [(i, f), (j, g), (l, h)] m q.2) >>= fun s => .ok (.nx s)) (FlK (thOf X) C.fix σ ŝ H G D) := w
  have w := WO.bind.mp w
  refine ⟨ŝ, G, [], R, (WO.bind.mp w).mono fun p _ w v H1 G1 T1 st1 r1 => ?_⟩
  refine ⟨p.2, G1, T1, st1.rep, (WO.bind.mp (WO.bind.mp (w.step st1))).mono fun q _ w u H2 G2 T2 st2 r2 => ?_⟩
  refine ⟨q.2, G2, T2, st2.rep, (WO.bind.mp (WO.bind.mp (w.step st2))).mono fun r _ w t H3 G3 T3 st3 r3 => ?_⟩
  have w : FlK (thOf X) C.fix σ ŝ H G D (.nx (((r.2.set i (some (if f then .o p.1 else .v p.1))).set j (some (if g then .o q.1 else .v q.1))).set l (some (if h then .o r.1 else .v r.1)))) := w
  have s12 := (StS.of (z := C.fix) st1).trans (StS.of st2)
  have s13 := s12.trans (StS.of st3)
  have e3 := put (i := l) (locS_fix hz) s13 (r3.back s12.ext)
  have e2 := put (i := j) (locS_fix hy) e3 ((r2.back st1.ext).grow (f := g) st3.ext.gg)
  have e1 := put (i := i) (locS_fix hx) e2 (r1.grow (f := f) (st2.ext.gg.trans st3.ext.gg))
  have ec : ∀ {α : Type} (xs : List α) (A B C : α), ((xs.set l C).set j B).set i A = ((xs.set i A).set j B).set l C := fun xs A B C => by
    rw [List.set_comm (i := l) (j := j) _ _ hjl.symm, List.set_comm (i := l) (j := i) _ _ hil.symm, List.set_comm (i := j) (j := i) _ _ hij.symm]
  rw [ec, ec] at e1
  exact ⟨v, u, t, rfl, w _ H3 G3 e1⟩

/-! ### .. where a name is a cell: the tuple is made, then taken apart -/
theorem StS.grown {Θ : Th} {z : Bool} {σ σ1 : L2.St} {ŝ ŝ1 : FS} {H G H1 G1 : Hp} {T1 : List (Addr × Fw.D)} {q : Addr} {o : HO} (s : StS Θ z σ ŝ H G ŝ1 σ1 H1 G1 T1) (hq : H1 q = none) : StS Θ z σ ŝ H G ŝ1 σ1 (upd H1 q o) G1 T1 :=
  ⟨s.ext.trans (Ext.made (O := fun _ => False) hq) (fun b o z _ => z.elim), s.own, s.rep.grow (same_upd hq), s.fx⟩
theorem snds_par2c {x y : Str} {i j : Nat} {f g : Bool} {px py pt pt2 : Pos} {kt k2 : Nat} (c : SC Λ n C E X) (hx : locOk C i x = true) (hy : locOk C j y = true) (hxy : x ≠ y) (s1 : notStar a = true) (s2 : notStar b = true)
    (ka : kOk f ia = true) (kb : kOk g ib = true) (hw : swNone C (.Tuple [.Name x px, .Name y py] kt pt) (.Tuple [a, b] k2 pt2) = true) (ha : Snd Λ E X ia a) (hb : Snd Λ E X ib b) :
    SndS Λ C.fix E X (.par [(i, f), (j, g)] (.cons ia (.cons ib .nil))) (.Assign [.Tuple [.Name x px, .Name y py] kt pt] (.Tuple [a, b] k2 pt2) pos) := by
  have nx := (locOk_loc c.xc hx).1
  have ny := (locOk_loc c.xc hy).1
  have hij : i ≠ j := nth_ne nx ny hxy
  have hp : chkP C (.tp (.cons (.nm i) (.cons (.nm j) .nil))) (.Tuple [.Name x px, .Name y py] kt pt) = true := by simp [chkP, chkPs, notStar, hx, hy]
  refine ⟨PS.imp (ps_asg (pe_tup (pa_cons (ha.kf ka) (pa_cons (hb.kf kb) pa_nil (star_of s2 _ _)) (star_of s1 _ _))) (pg_of c.xc.hN c.xc.nd c.xc.hsc c.xc.hfn c.xc.calm _ _ hp) (swaps_tgt (fun _ _ z => by cases z) _ _) (swNone_of c hw) rfl) fun D σ H ⟨ŝ, G, R, w⟩ => ?_⟩
  have w : WO (thOf X) E H (Own ŝ σ) (sem Λ (.cons ia (.cons ib .nil)) ŝ >>= fun q => optO (tupD q.1) >>= fun l => optO (setPar [(i, f), (j, g)] l q.2) >>= fun s => .ok (.nx s)) (FlK (thOf X) C.fix σ ŝ H G D) := w
  have w := WO.bind.mp w
  refine ⟨ŝ, G, [], R, (WO.bind.mp w).mono fun p _ w v H1 G1 T1 st1 r1 => ?_⟩
  refine ⟨p.2, G1, T1, st1.rep, (WO.bind.mp (WO.bind.mp (w.step st1))).mono fun q _ w u H2 G2 T2 st2 r2 => ?_⟩
  have w : FlK (thOf X) C.fix σ ŝ H G D (.nx ((q.2.set i (some (if f then .o p.1 else .v p.1))).set j (some (if g then .o q.1 else .v q.1)))) := w
  have s12 := (StS.of (z := C.fix) st1).trans (StS.of st2)
  refine ⟨by show 2 ≤ sizeLine; decide, fun t ht => ?_⟩
  have e2 := put (i := j) (locOk_fix hy) (s12.grown (o := .tup [v, u]) ht) (r2.back st1.ext)
  have e1 := put (i := i) (locOk_fix hx) e2 (r1.grow (f := f) st2.ext.gg)
  rw [List.set_comm _ _ hij.symm, List.set_comm _ _ hij.symm] at e1
  exact ⟨t, [v, u], rfl, .of upd_same, rfl, v, [u], rfl, u, [], rfl, rfl, w _ _ G2 e1⟩
theorem snds_par3c {x y z : Str} {i j l : Nat} {f g h : Bool} {px py pz pt pt2 : Pos} {kt k2 : Nat} (c : SC Λ n C E X) (hx : locOk C i x = true) (hy : locOk C j y = true) (hz : locOk C l z = true) (hxy : x ≠ y) (hxz : x ≠ z) (hyz : y ≠ z)
    (s1 : notStar a = true) (s2 : notStar b = true) (s3 : notStar d = true)
    (ka : kOk f ia = true) (kb : kOk g ib = true) (kc : kOk h ic = true) (hw : swNone C (.Tuple [.Name x px, .Name y py, .Name z pz] kt pt) (.Tuple [a, b, d] k2 pt2) = true) (ha : Snd Λ E X ia a) (hb : Snd Λ E X ib b) (hd : Snd Λ E X ic d) :
    SndS Λ C.fix E X (.par [(i, f), (j, g), (l, h)] (.cons ia (.cons ib (.cons ic .nil)))) (.Assign [.Tuple [.Name x px, .Name y py, .Name z pz] kt pt] (.Tuple [a, b, d] k2 pt2) pos) := by
  have nx := (locOk_loc c.xc hx).1
  have ny := (locOk_loc c.xc hy).1
  have nz := (locOk_loc c.xc hz).1
  have hij : i ≠ j := nth_ne nx ny hxy
  have hil : i ≠ l := nth_ne nx nz hxz
  have hjl : j ≠ l := nth_ne ny nz hyz
  have hp : chkP C (.tp (.cons (.nm i) (.cons (.nm j) (.cons (.nm l) .nil)))) (.Tuple [.Name x px, .Name y py, .Name z pz] kt pt) = true := by simp [chkP, chkPs, notStar, hx, hy, hz]
  refine ⟨PS.imp (ps_asg (pe_tup (pa_cons (ha.kf ka) (pa_cons (hb.kf kb) (pa_cons (hd.kf kc) pa_nil (star_of s3 _ _)) (star_of s2 _ _)) (star_of s1 _ _))) (pg_of c.xc.hN c.xc.nd c.xc.hsc c.xc.hfn c.xc.calm _ _ hp) (swaps_tgt (fun _ _ z => by cases z) _ _) (swNone_of c hw) rfl) fun D σ H ⟨ŝ, G, R, w⟩ => ?_⟩
  have w : WO (thOf X) E H (Own ŝ σ) (sem Λ (.cons ia (.cons ib (.cons ic .nil))) ŝ >>= fun q => optO (tupD q.1) >>= fun m => optO (setPar [(i, f), (j, g), (l, h)] m q.2) >>= fun s => .ok (.nx s)) (FlK (thOf X) C.fix σ ŝ H G D) := w
  have w := WO.bind.mp w
  refine ⟨ŝ, G, [], R, (WO.bind.mp w).mono fun p _ w v H1 G1 T1 st1 r1 => ?_⟩
  refine ⟨p.2, G1, T1, st1.rep, (WO.bind.mp (WO.bind.mp (w.step st1))).mono fun q _ w u H2 G2 T2 st2 r2 => ?_⟩
  refine ⟨q.2, G2, T2, st2.rep, (WO.bind.mp (WO.bind.mp (w.step st2))).mono fun r _ w t H3 G3 T3 st3 r3 => ?_⟩
  have w : FlK (thOf X) C.fix σ ŝ H G D (.nx (((r.2.set i (some (if f then .o p.1 else .v p.1))).set j (some (if g then .o q.1 else .v q.1))).set l (some (if h then .o r.1 else .v r.1)))) := w
  have s12 := (StS.of (z := C.fix) st1).trans (StS.of st2)
  have s13 := s12.trans (StS.of st3)
  refine ⟨by show 3 ≤ sizeLine; decide, fun m hm => ?_⟩
  have e3 := put (i := l) (locOk_fix hz) (s13.grown (o := .tup [v, u, t]) hm) (r3.back s12.ext)
  have e2 := put (i := j) (locOk_fix hy) e3 ((r2.back st1.ext).grow (f := g) st3.ext.gg)
  have e1 := put (i := i) (locOk_fix hx) e2 (r1.grow (f := f) (st2.ext.gg.trans st3.ext.gg))
  have ec : ∀ {α : Type} (xs : List α) (A B C : α), ((xs.set l C).set j B).set i A = ((xs.set i A).set j B).set l C := fun xs A B C => by
    rw [List.set_comm (i := l) (j := j) _ _ hjl.symm, List.set_comm (i := l) (j := i) _ _ hil.symm, List.set_comm (i := j) (j := i) _ _ hij.symm]
  rw [ec, ec] at e1
  exact ⟨m, [v, u, t], rfl, .of upd_same, rfl, v, [u, t], rfl, u, [t], rfl, t, [], rfl, rfl, w _ _ G3 e1⟩
end
end Fw

set_option Elab.async false
set_option linter.all false
set_option maxRecDepth 100000
set_option maxHeartbeats 4000000
namespace Fw
open PySem PySem.Spec L2
mutual
def chkS (C : Ck) : IS → Stmt → Bool
  | .nevS, _ => true
  | .skip, .Pass _ => true
  | .set (.nm i) e, .Assign [.Name y _] v _ => locOk C i y && !isBor e && chk C e v
  | .set (.tp p) e, .Assign [.Tuple es k tp] v _ => chkP C (.tp p) (.Tuple es k tp) && swNone C (.Tuple es k tp) v && !isBor e && chk C e v
  | .seto i e, .Assign [.Name y _] v _ => locOk C i y && isFresh e && chk C e v
  | .par [(i, f), (j, g)] (.cons a (.cons b .nil)), .Assign [.Tuple [.Name x px, .Name y py] kt pt] (.Tuple [u, v] k2 pt2) _ =>
      decide (x ≠ y) && notStar u && notStar v && kOk f a && kOk g b && chk C a u && chk C b v &&
        ((locS C i x && locS C j y && py.line == px.line && !([u, v].all (foldedForSure 8)) && !([u, v].all (constantsAlone 8))) || (locOk C i x && locOk C j y && swNone C (.Tuple [.Name x px, .Name y py] kt pt) (.Tuple [u, v] k2 pt2)))
  | .par [(i, f), (j, g), (l, h)] (.cons a (.cons b (.cons c .nil))), .Assign [.Tuple [.Name x px, .Name y py, .Name z pz] kt pt] (.Tuple [u, v, w] k2 pt2) _ =>
      decide (x ≠ y) && decide (x ≠ z) && decide (y ≠ z) && notStar u && notStar v && notStar w && kOk f a && kOk g b && kOk h c && chk C a u && chk C b v && chk C c w &&
        ((locS C i x && locS C j y && locS C l z && py.line == px.line && pz.line == px.line && !([u, v, w].all (foldedForSure 8)) && !([u, v, w].all (constantsAlone 8))) || (locOk C i x && locOk C j y && locOk C l z && swNone C (.Tuple [.Name x px, .Name y py, .Name z pz] kt pt) (.Tuple [u, v, w] k2 pt2)))
  | .setix i k e, .Assign [.Subscript (.Name y _) kx _] v _ => visOk C i y && plainIx kx && !isBor k && !isBor e && chk C k kx && chk C e v
  | .aug i sub e, .AugAssign (.Name y _) op v _ => locOk C i y && bopE (if sub then .Sub else .Add) op && !isBor e && chk C e v
  | .ext i e, .AugAssign (.Name y _) .Add v _ => locOk C i y && !isBor e && chk C e v
  | .ex e, .Expr v _ => notComp v && chk C e v
  | .iff c a b, .If t x y _ => chk C c t && chkB C a x && chkB C b y
  | .whl _ c b, .While t x [] _ => chk C c t && chkB C b x
  | .for p src b, .For tg it x [] _ => notSetE it && chkP C p tg && chkI C tg src it && chkB C b x
  | .ret fr e, .Return (some v) _ => kOk fr e && chk C e v
  | .retO i, .Return (some (.Name y _)) _ => visOk C i y
  | .retN, .Return none _ => true
  | .raise c (.cst .none), .Raise (some (.Call (.Name y _) [.Constant (.str _) _ _] [] _)) none _ => decide (y = c) && gloOk C c && decide (c ∈ C.exs)
  | .brk, .Break _ => true
  | _, _ => false
termination_by structural i _ => i
def chkB (C : Ck) : IS → List Stmt → Bool
  | .skip, [] => true
  | .seq (.fgt _) b, r => chkB C b r
  | .seq a b, st :: r => chkS C a st && chkB C b r
  | _, _ => false
termination_by structural i _ => i
end
structure SndAS (Λ : Env) (n : Nat) (i : IS) : Prop where
  s : ∀ (C : Ck) (E : XK) (X : Cx) (st : Stmt), chkS C i st = true → SC Λ n C E X → SndS Λ C.fix E X i st
  b : ∀ (C : Ck) (E : XK) (X : Cx) (st : List Stmt), chkB C i st = true → SC Λ n C E X → SndB Λ C.fix E X i st
section
variable {Λ : Env} {n : Nat}
def isB : IS → Bool
  | .skip | .seq _ _ => true
  | _ => false
theorem noB {C : Ck} {i : IS} {st : List Stmt} (h : isB i = false) : chkB C i st = false := by
  unfold chkB
  split <;> first | rfl | cases h
theorem kOk_1 {fr : Bool} {e : IR} (h : kOk fr e = true) : fr = true → kd e = .fresh := fun z => by subst z; exact isFresh_kd h
theorem kOk_0 {fr : Bool} {e : IR} (h : kOk fr e = true) : fr = false → isBor e = false := fun z => by subst z; exact bnot h
theorem as_nev : SndAS Λ n .nevS := ⟨fun C E X st h c => ⟨PS.imp ps_never fun D σ H ⟨_, _, _, w⟩ => w⟩, fun C E X st h c => bad h (noB rfl)⟩
theorem as_skip : SndAS Λ n .skip := by
  refine ⟨fun C E X st h c => ?_, fun C E X st h c => ?_⟩
  · unfold chkS at h
    split at h <;> first | contradiction | (cases h; done) | exact snds_pass
  · unfold chkB at h
    split at h <;> first | contradiction | (cases h; done) | exact snds_nil
theorem as_fgt {vs : List Nat} : SndAS Λ n (.fgt vs) := ⟨fun C E X st h c => (by cases h), fun C E X st h c => bad h (noB rfl)⟩
theorem as_seq {a b : IS} (ha : SndAS Λ n a) (hb : SndAS Λ n b) : SndAS Λ n (.seq a b) := by
  refine ⟨fun C E X st h c => ?_, fun C E X st h c => ?_⟩
  · cases h
  · unfold chkB at h
    split at h <;> first | contradiction | skip
    all_goals first | (rename_i z; cases z; done) | skip
    · rename_i z
      cases z
      exact snds_fgt (hb.b _ _ _ _ h c)
    · rename_i z
      cases z
      rw [Bool.and_eq_true] at h
      exact snds_cons (ha.s _ _ _ _ h.1 c) (hb.b _ _ _ _ h.2 c)
theorem as_set {p : Pat} {e : IR} : SndAS Λ n (.set p e) := by
  refine ⟨fun C E X st h c => ?_, fun C E X st h c => bad h (noB rfl)⟩
  unfold chkS at h
  split at h <;> first | contradiction | skip
  all_goals first | (rename_i z; cases z; done) | skip
  · rename_i z
    cases z
    simp only [Bool.and_eq_true] at h
    obtain ⟨⟨h1, h2⟩, h3⟩ := h
    exact snds_setn c h1 (bnot h2) h3
  · rename_i z
    cases z
    simp only [Bool.and_eq_true] at h
    obtain ⟨⟨⟨h1, h2⟩, h3⟩, h4⟩ := h
    exact snds_setp c h1 h2 (bnot h3) ((snd_all Λ n _).e _ _ _ _ h4 c.xc)
theorem as_seto {i : Nat} {e : IR} : SndAS Λ n (.seto i e) := by
  refine ⟨fun C E X st h c => ?_, fun C E X st h c => bad h (noB rfl)⟩
  unfold chkS at h
  split at h <;> first | contradiction | skip
  all_goals first | (rename_i z; cases z; done) | skip
  rename_i z
  cases z
  simp only [Bool.and_eq_true] at h
  obtain ⟨⟨h1, h2⟩, h3⟩ := h
  exact snds_seto c h1 (isFresh_kd h2) h3
theorem as_par {ps : List (Nat × Bool)} {e : IR} : SndAS Λ n (.par ps e) := by
  refine ⟨fun C E X st h c => ?_, fun C E X st h c => bad h (noB rfl)⟩
  unfold chkS at h
  split at h <;> first | contradiction | skip
  all_goals first | (rename_i z; cases z; done) | skip
  · rename_i z
    cases z
    simp only [Bool.and_eq_true, Bool.or_eq_true, decide_eq_true_eq] at h
    obtain ⟨⟨⟨⟨⟨⟨⟨h1, h2⟩, h3⟩, h4⟩, h5⟩, h6⟩, h7⟩, h8⟩ := h
    have ha := (snd_all Λ n _).e _ _ _ _ h6 c.xc
    have hb := (snd_all Λ n _).e _ _ _ _ h7 c.xc
    rcases h8 with ⟨⟨⟨⟨q1, q2⟩, q3⟩, q4⟩, q5⟩ | ⟨⟨q1, q2⟩, q3⟩
    · exact snds_par2 c q1 q2 h1 q3 h2 h3 h4 h5 (bnot q4) (bnot q5) ha hb
    · exact snds_par2c c q1 q2 h1 h2 h3 h4 h5 q3 ha hb
  · rename_i z
    cases z
    simp only [Bool.and_eq_true, Bool.or_eq_true, decide_eq_true_eq] at h
    obtain ⟨⟨⟨⟨⟨⟨⟨⟨⟨⟨⟨⟨h1, h2⟩, h3⟩, h4⟩, h5⟩, h6⟩, h7⟩, h8⟩, h9⟩, h10⟩, h11⟩, h12⟩, h13⟩ := h
    have ha := (snd_all Λ n _).e _ _ _ _ h10 c.xc
    have hb := (snd_all Λ n _).e _ _ _ _ h11 c.xc
    have hd := (snd_all Λ n _).e _ _ _ _ h12 c.xc
    rcases h13 with ⟨⟨⟨⟨⟨⟨q1, q2⟩, q3⟩, q4⟩, q5⟩, q6⟩, q7⟩ | ⟨⟨⟨q1, q2⟩, q3⟩, q4⟩
    · exact snds_par3 c q1 q2 q3 h1 h2 h3 q4 q5 h4 h5 h6 h7 h8 h9 (bnot q6) (bnot q7) ha hb hd
    · exact snds_par3c c q1 q2 q3 h1 h2 h3 h4 h5 h6 h7 h8 h9 q4 ha hb hd
theorem as_setix {i : Nat} {k e : IR} : SndAS Λ n (.setix i k e) := by
  refine ⟨fun C E X st h c => ?_, fun C E X st h c => bad h (noB rfl)⟩
  unfold chkS at h
  split at h <;> first | contradiction | skip
  all_goals first | (rename_i z; cases z; done) | skip
  rename_i z
  cases z
  simp only [Bool.and_eq_true] at h
  obtain ⟨⟨⟨⟨⟨h1, h2⟩, h3⟩, h4⟩, h5⟩, h6⟩ := h
  exact snds_setix c h1 h2 (bnot h3) (bnot h4) ((snd_all Λ n _).e _ _ _ _ h5 c.xc) ((snd_all Λ n _).e _ _ _ _ h6 c.xc)
theorem as_aug {i : Nat} {s : Bool} {e : IR} : SndAS Λ n (.aug i s e) := by
  refine ⟨fun C E X st h c => ?_, fun C E X st h c => bad h (noB rfl)⟩
  unfold chkS at h
  split at h <;> first | contradiction | skip
  all_goals first | (rename_i z; cases z; done) | skip
  rename_i z
  cases z
  simp only [Bool.and_eq_true] at h
  obtain ⟨⟨⟨h1, h2⟩, h3⟩, h4⟩ := h
  exact snds_aug c h1 h2 (bnot h3) ((snd_all Λ n _).e _ _ _ _ h4 c.xc)
theorem as_ext {i : Nat} {e : IR} : SndAS Λ n (.ext i e) := by
  refine ⟨fun C E X st h c => ?_, fun C E X st h c => bad h (noB rfl)⟩
  unfold chkS at h
  split at h <;> first | contradiction | skip
  all_goals first | (rename_i z; cases z; done) | skip
  rename_i z
  cases z
  simp only [Bool.and_eq_true] at h
  obtain ⟨⟨h1, h3⟩, h4⟩ := h
  exact snds_ext c h1 (bnot h3) ((snd_all Λ n _).e _ _ _ _ h4 c.xc)
theorem as_ex {e : IR} : SndAS Λ n (.ex e) := by
  refine ⟨fun C E X st h c => ?_, fun C E X st h c => bad h (noB rfl)⟩
  unfold chkS at h
  split at h <;> first | contradiction | skip
  all_goals first | (rename_i z; cases z; done) | skip
  rename_i z
  cases z
  simp only [Bool.and_eq_true] at h
  exact snds_ex h.1 ((snd_all Λ n _).e _ _ _ _ h.2 c.xc)
theorem as_iff {k : IR} {a b : IS} (ha : SndAS Λ n a) (hb : SndAS Λ n b) : SndAS Λ n (.iff k a b) := by
  refine ⟨fun C E X st h c => ?_, fun C E X st h c => bad h (noB rfl)⟩
  unfold chkS at h
  split at h <;> first | contradiction | skip
  all_goals first | (rename_i z; cases z; done) | skip
  rename_i z
  cases z
  simp only [Bool.and_eq_true] at h
  exact snds_if ((snd_all Λ n _).e _ _ _ _ h.1.1 c.xc) (ha.b _ _ _ _ h.1.2 c) (hb.b _ _ _ _ h.2 c)
theorem as_whl {m : Nat} {k : IR} {b : IS} (hb : SndAS Λ n b) : SndAS Λ n (.whl m k b) := by
  refine ⟨fun C E X st h c => ?_, fun C E X st h c => bad h (noB rfl)⟩
  unfold chkS at h
  split at h <;> first | contradiction | skip
  all_goals first | (rename_i z; cases z; done) | skip
  rename_i z
  cases z
  simp only [Bool.and_eq_true] at h
  exact snds_whl c ((snd_all Λ n _).e _ _ _ _ h.1 c.xc) (hb.b _ _ _ _ h.2 c)
theorem as_for {p : Pat} {k : IR} {b : IS} (hb : SndAS Λ n b) : SndAS Λ n (.for p k b) := by
  refine ⟨fun C E X st h c => ?_, fun C E X st h c => bad h (noB rfl)⟩
  unfold chkS at h
  split at h <;> first | contradiction | skip
  all_goals first | (rename_i z; cases z; done) | skip
  rename_i z
  cases z
  simp only [Bool.and_eq_true] at h
  exact snds_for c h.1.1.1 h.1.1.2 ((snd_all Λ n _).i _ _ _ _ _ h.1.2 c.xc) (hb.b _ _ _ _ h.2 c)
theorem as_ret {f : Bool} {e : IR} : SndAS Λ n (.ret f e) := by
  refine ⟨fun C E X st h c => ?_, fun C E X st h c => bad h (noB rfl)⟩
  unfold chkS at h
  split at h <;> first | contradiction | skip
  all_goals first | (rename_i z; cases z; done) | skip
  rename_i z
  cases z
  simp only [Bool.and_eq_true] at h
  exact snds_ret (kOk_1 h.1) (kOk_0 h.1) ((snd_all Λ n _).e _ _ _ _ h.2 c.xc)
theorem as_retO {i : Nat} : SndAS Λ n (.retO i) := by
  refine ⟨fun C E X st h c => ?_, fun C E X st h c => bad h (noB rfl)⟩
  unfold chkS at h
  split at h <;> first | contradiction | skip
  all_goals first | (rename_i z; cases z; done) | skip
  rename_i z
  cases z
  exact snds_retO c.xc h
theorem as_retN : SndAS Λ n .retN := by
  refine ⟨fun C E X st h c => ?_, fun C E X st h c => bad h (noB rfl)⟩
  unfold chkS at h
  split at h <;> first | contradiction | skip
  exact snds_retN
theorem as_raise {y : Str} {x : IR} : SndAS Λ n (.raise y x) := by
  refine ⟨fun C E X st h c => ?_, fun C E X st h c => bad h (noB rfl)⟩
  unfold chkS at h
  split at h <;> first | contradiction | skip
  all_goals first | (rename_i z; cases z; done) | skip
  rename_i z
  cases z
  simp only [Bool.and_eq_true, decide_eq_true_eq] at h
  obtain ⟨⟨rfl, h2⟩, h3⟩ := h
  exact snds_raise c h2 h3
theorem as_brk : SndAS Λ n .brk := by
  refine ⟨fun C E X st h c => ?_, fun C E X st h c => bad h (noB rfl)⟩
  unfold chkS at h
  split at h <;> first | contradiction | skip
  exact snds_brk
end
theorem snds_all (Λ : Env) (n : Nat) : ∀ i : IS, SndAS Λ n i
  | .nevS => as_nev
  | .skip => as_skip
  | .fgt _ => as_fgt
  | .seq a b => as_seq (snds_all Λ n a) (snds_all Λ n b)
  | .set _ _ => as_set
  | .seto _ _ => as_seto
  | .par _ _ => as_par
  | .setix _ _ _ => as_setix
  | .aug _ _ _ => as_aug
  | .ext _ _ => as_ext
  | .ex _ => as_ex
  | .iff _ a b => as_iff (snds_all Λ n a) (snds_all Λ n b)
  | .whl _ _ b => as_whl (snds_all Λ n b)
  | .for _ _ b => as_for (snds_all Λ n b)
  | .ret _ _ => as_ret
  | .retO _ => as_retO
  | .retN => as_retN
  | .raise _ _ => as_raise
  | .brk => as_brk
end Fw

set_option Elab.async false
set_option linter.all false
set_option maxRecDepth 100000
set_option maxHeartbeats 4000000
namespace Fw
open PySem PySem.Spec L2
/-- the slots at a def's entry -/
def enter (lent : Bool) (N : Nat) (c : D) (ds : List D) : FS :=
  (if lent = true then [some (.o c)] else []) ++ ds.map (fun d => some (.v d)) ++ List.replicate (N - ((if lent = true then 1 else 0) + ds.length)) none
def leave (lent : Bool) (d : D) (s : FS) : Out (D × D) := if lent = true then optO (readO s 0) >>= fun c => .ok (d, c) else .ok (d, .none)
/-- what a def computes -/
def runF (Λ : Env) (i : IS) (N : Nat) (lent fresh : Bool) (c : D) (ds : List D) : Out (D × D) := semS Λ i (enter lent N c ds) >>= fun fl => match fl with
  | .rt fr d s => if fr = fresh then leave lent d s else .bad
  | .nx s => if fresh = false then leave lent .none s else .bad
  | .bk _ => .bad
section
variable {Θ : Th} {G H : Hp} {vs : List V} {ds : List D} {a : Addr} {c : D}
theorem enter_len {lent : Bool} {N : Nat} (h : (if lent = true then 1 else 0) + ds.length ≤ N) : (enter lent N c ds).length = N := by
  unfold enter
  simp only [List.length_append, List.length_map, List.length_replicate]
  cases lent <;> simp at h ⊢ <;> omega
theorem rep0 {N : List Str} (sub : Same G H) (t : DVs Θ G vs ds) (hl : vs.length ≤ N.length) : Rep Θ G [] (enter false N.length c ds) (start N vs) H ∧ ∀ b, ¬ Own (enter false N.length c ds) (start N vs) b := by
  have get : ∀ {i : Nat} {x : Cell}, (enter false N.length c ds)[i]? = some (some x) → ∃ d, ds[i]? = some d ∧ x = .v d := fun {i x} h => by
    unfold enter at h
    simp only [Bool.false_eq_true, if_false, List.nil_append] at h
    by_cases hi : i < ds.length
    · rw [List.getElem?_append_left (by rw [List.length_map]; exact hi), List.getElem?_map] at h
      rw [List.getElem?_eq_getElem hi] at h ⊢
      simp at h
      exact ⟨_, rfl, h.symm⟩
    · rw [List.getElem?_append_right (by rw [List.length_map]; omega)] at h
      rw [List.getElem?_replicate] at h
      split at h <;> cases h
  have no : ∀ {i : Nat} {d : D}, (enter false N.length c ds)[i]? ≠ some (some (.o d)) := fun h => by
    obtain ⟨d, _, e⟩ := get h
    cases e
  refine ⟨⟨sub, ?_, fun {i d} h => ?_, fun h => absurd h no, fun h => (by cases h), fun h _ _ _ => absurd h no, List.nodup_nil, fun h => (by cases h)⟩, fun b ⟨i, d, h, _⟩ => no h⟩
  · rw [enter_len (by simp; rw [← t.len]; exact hl)]
    unfold L2.start
    simp; omega
  · obtain ⟨d', hd, e⟩ := get h
    cases e
    obtain ⟨v, hv, dv⟩ := t.get hd
    refine ⟨v, ?_, dv⟩
    unfold L2.start
    have hi := lt_get hv
    rw [List.getElem?_append_left (by rw [List.length_map]; exact hi), List.getElem?_map, hv]
    rfl
theorem rep1 {N : List Str} (sub : Same G H) (gn : G a = none) (ov : OV Θ G H a c) (t : DVs Θ G vs ds) (hl : vs.length + 1 ≤ N.length) :
    Rep Θ G [] (enter true N.length c ds) (start N (.ref a :: vs)) H ∧ (∀ b, Own (enter true N.length c ds) (start N (.ref a :: vs)) b → b = a) ∧ (start N (.ref a :: vs))[0]? = some (some (.ref a)) := by
  have e0 : enter true N.length c ds = some (.o c) :: (ds.map (fun d => some (.v d)) ++ List.replicate (N.length - (1 + ds.length)) none) := by
    unfold enter
    simp
  have s0 : start N (.ref a :: vs) = some (.ref a) :: (vs.map some ++ List.replicate (N.length - (vs.length + 1)) none) := by
    unfold L2.start
    simp
  have get : ∀ {i : Nat} {x : Cell}, (enter true N.length c ds)[i]? = some (some x) → (i = 0 ∧ x = .o c) ∨ ∃ j d, i = j + 1 ∧ ds[j]? = some d ∧ x = .v d := fun {i x} h => by
    rw [e0] at h
    cases i with
    | zero => simp at h; exact .inl ⟨rfl, h.symm⟩
    | succ i =>
      rw [List.getElem?_cons_succ] at h
      by_cases hi : i < ds.length
      · rw [List.getElem?_append_left (by rw [List.length_map]; exact hi), List.getElem?_map] at h
        rw [List.getElem?_eq_getElem hi] at h
        simp at h
        exact .inr ⟨i, _, rfl, List.getElem?_eq_getElem hi, h.symm⟩
      · rw [List.getElem?_append_right (by rw [List.length_map]; omega)] at h
        rw [List.getElem?_replicate] at h
        split at h <;> cases h
  have own : ∀ {i : Nat} {d : D}, (enter true N.length c ds)[i]? = some (some (.o d)) → i = 0 ∧ d = c := fun h => by
    rcases get h with ⟨e, q⟩ | ⟨_, _, _, _, q⟩
    · cases q; exact ⟨e, rfl⟩
    · cases q
  refine ⟨⟨sub, ?_, fun {i d} h => ?_, fun h => ?_, fun h => (by cases h), fun h h' _ _ => (own h).1.trans (own h').1.symm, List.nodup_nil, fun h => (by cases h)⟩, fun b ⟨i, d, h, e⟩ => ?_, by rw [s0]; rfl⟩
  · rw [enter_len (by simp; rw [← t.len]; omega), s0]
    simp; omega
  · rcases get h with ⟨_, q⟩ | ⟨j, d', rfl, hd, q⟩
    · cases q
    · cases q
      obtain ⟨v, hv, dv⟩ := t.get hd
      refine ⟨v, ?_, dv⟩
      have hi := lt_get hv
      rw [s0, List.getElem?_cons_succ, List.getElem?_append_left (by rw [List.length_map]; exact hi), List.getElem?_map, hv]
      rfl
  · obtain ⟨rfl, rfl⟩ := own h
    exact ⟨a, by rw [s0]; rfl, gn, ov⟩
  · obtain ⟨rfl, rfl⟩ := own h
    rw [s0] at e
    cases e
    rfl
end
section
variable {Λ : Env} {n : Nat} {P : Program} {w : World} {K : PySem.W.Frag} {mg : Str → Option Value} {base : Heap}
def ckOf (N : List Str) (st : Stmt) (fns exs : List Str) (lent : Bool) : Ck := ⟨N, defScope st, fun _ => true, fns, exs, lent⟩
theorem fnok {x qual : Str} {st : Stmt} {i : IS} {N fns exs : List Str} {f : Addr} {fdata : FuncData} {fd : Fd} (g : Glb Λ n ⟨P, w, K, mg⟩ base) (hf : ∀ x ∈ fns, (Λ.Φ.find x).isSome = true) (hx : ∀ x ∈ exs, ExcG ⟨P, w, K, mg⟩ x)
    (F : Fun K x qual st f fdata) (S : FnScope N fd.ps (defScope st)) (hps : fd.ps.length ≤ N.length) (hc : chkB (ckOf N st fns exs fd.lent) i (defBody st) = true) (hF : ∀ c ds, fd.F c ds = .bad ∨ runF Λ i N.length fd.lent fd.fresh c ds = fd.F c ds) :
    FnOk P w K mg base (L2.CX P w) (n + 1) f fdata fd.ps (spF ⟨P, w, K, mg⟩ fd) := by
  refine F.okX S (spF_len) fun cdv A outer s H vs Q E hr h => ?_
  have sc : SC Λ n (ckOf N st fns exs fd.lent) E (cxOf (L2.CX P w) P w K mg base N qual (defScope st) f cdv A outer s H E) :=
    have tk : Takes (cxOf (L2.CX P w) P w K mg base N qual (defScope st) f cdv A outer s H E) (fun cls d _ H => E cls d H) := takes_of rfl rfl rfl rfl
    ⟨⟨g, rfl, S.nd, rfl, rfl, hf, hx, rfl, hr, passes_call tk fun _ _ _ _ h => h⟩, passes_of rfl, tk, S.kind⟩
  refine ⟨_, ((snds_all Λ n i).b _ _ _ _ hc sc).ps, ?_⟩
  obtain ⟨hlen, G, d0, ds, sub, h⟩ := h
  have hw : ∀ {O : Addr → Prop} {k : D × D → Prop} {c : D} {es : List D}, WO ⟨P, w, K, mg⟩ E H O (fd.F c es) k → WO ⟨P, w, K, mg⟩ E H O (runF Λ i N.length fd.lent fd.fresh c es) k := fun {O k c es} q => by
    rcases hF c es with e | e
    · rw [e] at q; exact q.elim
    · rw [e]; exact q
  cases hl : fd.lent with
  | false =>
    rw [hl] at h
    obtain ⟨rfl, t, wf⟩ := h
    obtain ⟨R0, no⟩ := rep0 (c := .none) (N := N) sub t (by rw [hlen]; exact hps)
    have wf := hw wf
    rw [hl] at wf
    refine ⟨_, G, R0, ((WO.bind.mp wf).move (fun b o q _ => q) (fun b o z _ => (no b z).elim)).mono fun fl _ k => ?_⟩
    have fin : ∀ (v : V) (σ' : L2.St) (H' G' : Hp) (s' : FS) (d : D), StS ⟨P, w, K, mg⟩ false (start N vs) (enter false N.length .none ds) H G s' σ' H' G' [] → RV ⟨P, w, K, mg⟩ fd.fresh (start N vs) (enter false N.length .none ds) H s' σ' H' G' v d →
        (∀ (v : V) (H' G' : Hp), Ext (fun _ => False) H G H' G' → Same G' H' → (match fd.fresh with
         | false => DV ⟨P, w, K, mg⟩ G' v d
         | true => ∃ p, v = .ref p ∧ H p = none ∧ G' p = none ∧ OV ⟨P, w, K, mg⟩ G' H' p d) → Q v H') → Q v H' := fun v σ' H' G' s' d st rv k => by
      refine k v H' G' (st.ext.mono fun b o z _ => (no b z).elim) st.rep.sub ?_
      cases hfr : fd.fresh with
      | false => rw [hfr] at rv; exact rv
      | true =>
        rw [hfr] at rv
        obtain ⟨p, e, gp, ov, hp, _⟩ := rv
        exact ⟨p, e, hp.elim id fun z => (no p z).elim, gp, ov⟩
    cases fl with
    | nx s' =>
      obtain ⟨hfr, k⟩ := WO.ite k
      intro σ' H' G' st
      exact fin .non σ' H' G' s' .none st (by rw [hfr]; exact .non) k
    | rt fr d s' =>
      obtain ⟨hfr, k⟩ := WO.ite k
      intro v σ' H' G' st rv
      rw [hfr] at rv
      exact fin v σ' H' G' s' d st rv k
    | bk s' => exact k.elim
  | true =>
    rw [hl] at h
    obtain ⟨a, vs', rfl, gn, ov, t, wf⟩ := h
    obtain ⟨R0, own, s0⟩ := rep1 (N := N) sub gn ov t (by rw [List.length_cons] at hlen; rw [hlen]; exact hps)
    have wf := hw wf
    rw [hl] at wf
    refine ⟨_, G, R0, ((WO.bind.mp wf).move (fun b o q _ => q) (fun b o z _ => own b z)).mono fun fl _ k => ?_⟩
    obtain ⟨oa, ha⟩ := ov.there
    have fin : ∀ (v : V) (σ' : L2.St) (H' G' : Hp) (s' : FS) (d c' : D), readO s' 0 = some c' → StS ⟨P, w, K, mg⟩ true (start N (.ref a :: vs')) (enter true N.length d0 ds) H G s' σ' H' G' [] → RV ⟨P, w, K, mg⟩ fd.fresh (start N (.ref a :: vs')) (enter true N.length d0 ds) H s' σ' H' G' v d →
        (∀ (v : V) (H' G' : Hp), Ext (fun b => b = a) H G H' G' → Same G' H' → G' a = none → OV ⟨P, w, K, mg⟩ G' H' a c' → (match fd.fresh with
         | false => DV ⟨P, w, K, mg⟩ G' v d
         | true => ∃ p, v = .ref p ∧ p ≠ a ∧ H p = none ∧ G' p = none ∧ OV ⟨P, w, K, mg⟩ G' H' p d) → Q v H') → Q v H' := fun v σ' H' G' s' d c' hc' st rv k => by
      have hs := readO_some hc'
      obtain ⟨a', ea, ga, ov'⟩ := st.rep.own hs
      rw [st.fx rfl, s0] at ea
      cases ea
      refine k v H' G' (st.ext.mono fun b o z _ => own b z) st.rep.sub ga ov' ?_
      cases hfr : fd.fresh with
      | false => rw [hfr] at rv; exact rv
      | true =>
        rw [hfr] at rv
        obtain ⟨p, e, gp, ovp, hp, nown⟩ := rv
        have pa : p ≠ a := fun z => by
          subst z
          exact nown ⟨0, c', hs, (st.fx rfl).trans s0⟩
        exact ⟨p, e, pa, hp.elim id fun z => absurd (own p z) pa, gp, ovp⟩
    cases fl with
    | nx s' =>
      obtain ⟨hfr, k⟩ := WO.ite k
      obtain ⟨c', hc', k⟩ := WO.optb (show WO _ _ _ _ (optO (readO s' 0) >>= fun c => .ok (PyData.none, c)) _ from k)
      intro σ' H' G' st
      exact fin .non σ' H' G' s' .none c' hc' st (by rw [hfr]; exact .non) k
    | rt fr d s' =>
      obtain ⟨hfr, k⟩ := WO.ite k
      obtain ⟨c', hc', k⟩ := WO.optb (show WO _ _ _ _ (optO (readO s' 0) >>= fun c => .ok (d, c)) _ from k)
      intro v σ' H' G' st rv
      rw [hfr] at rv
      exact fin v σ' H' G' s' d c' hc' st rv k
    | bk s' => exact k.elim
end
end Fw

set_option Elab.async false
set_option linter.all false
set_option maxRecDepth 100000
set_option maxHeartbeats 4000000
namespace Fw
open PySem PySem.Spec L2
/-- a def of the module, at its place -/
structure DefAt (Θ : Th) (x : Str) (st : Stmt) (ps : List Str) : Prop where
  ex : ∃ (f : Addr) (fdata : FuncData), Θ.M x = some (.ref f) ∧ PySem.W.keepIn Θ.K (.ref f) = true ∧ Fun Θ.K x x st f fdata ∧ Binds Θ.K fdata ps []
/-- .. keeps its contract -/
structure OkAt (Θ : Th) (base : Heap) (n : Nat) (fd : Fd) : Prop where
  ex : ∃ (f : Addr) (fdata : FuncData), Θ.M fd.name = some (.ref f) ∧ PySem.W.keepIn Θ.K (.ref f) = true ∧ Binds Θ.K fdata fd.ps [] ∧ FnOk Θ.P Θ.w Θ.K Θ.M base (L2.CX Θ.P Θ.w) n f fdata fd.ps (spF Θ fd)
/-- the module's constants, and the built-in names that it leaves alone -/
structure ModOk (Γ : Str → Option D) (Θ : Th) : Prop where
  con : ∀ x d, Γ x = some d → ∃ v u, Θ.M x = some u ∧ RelV v u ∧ ∀ G, DV Θ G v d
  blt : ∀ x ∈ bltNames, Θ.M x = none
section
variable {Γ : Str → Option D} {Θ : Th} {base : Heap} {n m : Nat} {fd : Fd}
theorem OkAt.mono (h : OkAt Θ base n fd) (hm : n ≤ m) : OkAt Θ base m fd := by
  obtain ⟨f, fdata, h1, h2, h3, h4⟩ := h.ex
  exact ⟨f, fdata, h1, h2, h3, h4.mono hm⟩
theorem find_some {Φ : Tab} {x : Str} {fd : Fd} (h : Φ.find x = some fd) : fd ∈ Φ ∧ fd.name = x := by
  unfold Tab.find at h
  exact ⟨List.mem_of_find?_eq_some h, by simpa using List.find?_some h⟩
theorem glb_of {Φ : Tab} (mo : ModOk Γ Θ) (h : ∀ fd ∈ Φ, OkAt Θ base n fd) : Glb ⟨Φ, Γ⟩ n Θ base where
  tab := fun x fd hx => by
    obtain ⟨h1, rfl⟩ := find_some hx
    exact (h fd h1).ex
  con := mo.con
  blt := mo.blt
theorem ok_def {Φ : Tab} {st : Stmt} {i : IS} {N fns exs : List Str} (mo : ModOk Γ Θ) (hd : DefAt Θ fd.name st fd.ps) (h : ∀ g ∈ Φ, OkAt Θ base n g) (hf : (fns.all fun x => (Tab.find Φ x).isSome) = true) (hx : ∀ x ∈ exs, ExcG Θ x)
    (S : FnScope N fd.ps (defScope st)) (hps : fd.ps.length ≤ N.length) (hc : chkB (ckOf N st fns exs fd.lent) i (defBody st) = true) (hF : ∀ c ds, fd.F c ds = .bad ∨ runF ⟨Φ, Γ⟩ i N.length fd.lent fd.fresh c ds = fd.F c ds) : OkAt Θ base (n + 1) fd := by
  obtain ⟨f, fdata, h1, h2, h3, h4⟩ := hd.ex
  exact ⟨f, fdata, h1, h2, h4, fnok (Λ := ⟨Φ, Γ⟩) (glb_of mo h) (fun x hx' => List.all_eq_true.mp hf x hx') hx h3 S hps hc hF⟩
/-- nothing is said -/
theorem ok_none {st : Stmt} (hd : DefAt Θ fd.name st fd.ps) (hF : ∀ c ds, fd.F c ds = .bad) : OkAt Θ base n fd := by
  obtain ⟨f, fdata, h1, h2, h3, h4⟩ := hd.ex
  refine ⟨f, fdata, h1, h2, h4, ⟨spF_len, fun A outer s H args us vs Q E _ _ _ _ h => ?_⟩⟩
  obtain ⟨_, G, d0, ds, _, h⟩ := h
  split at h
  · obtain ⟨_, _, w⟩ := h
    rw [hF] at w; exact w.elim
  · obtain ⟨a, vs', _, _, _, _, w⟩ := h
    rw [hF] at w; exact w.elim
theorem ok_fn {Φ : Tab} {f : Addr} {fdata : FuncData} {x qual : Str} {st : Stmt} {i : IS} {N fns exs : List Str} (mo : ModOk Γ Θ) (F : Fun Θ.K x qual st f fdata) (h : ∀ g ∈ Φ, OkAt Θ base n g) (hf : (fns.all fun x => (Tab.find Φ x).isSome) = true) (hx : ∀ x ∈ exs, ExcG Θ x)
    (S : FnScope N fd.ps (defScope st)) (hps : fd.ps.length ≤ N.length) (hc : chkB (ckOf N st fns exs fd.lent) i (defBody st) = true) (hF : ∀ c ds, fd.F c ds = .bad ∨ runF ⟨Φ, Γ⟩ i N.length fd.lent fd.fresh c ds = fd.F c ds) : FnOk Θ.P Θ.w Θ.K Θ.M base (L2.CX Θ.P Θ.w) (n + 1) f fdata fd.ps (spF Θ fd) :=
  fnok (Λ := ⟨Φ, Γ⟩) (glb_of mo h) (fun x hx' => List.all_eq_true.mp hf x hx') hx F S hps hc hF
theorem okd {x : Str} {st : Stmt} {f : Addr} {oc : Value} {od an : Option Addr} {osl : Array (Option Value)} {kV doc pm cdv ct : Value} {ps : List Str} {h : Heap} (X : Θ.K.In h) (G : h.Ns mainGlobals Θ.M) (a : PySem.W.nsIn Θ.K mainGlobals x = some (some (.ref f)))
    (l : Θ.K.lookup f = some ⟨oc, od, .func (PySem.W.fnOf x x (defArgs st) (defBody st) (defScope st) .none kV doc pm an cdv ct), osl⟩) (c : PySem.W.codeIn Θ.K cdv x = true) (k : PySem.W.keepIn Θ.K (.ref f) = true)
    (hb : ∀ (kV doc pm : Value) (an : Option Addr) (cdv ct : Value) (us : List Value), us.length = ps.length → bindArgs (PySem.W.fnOf x x (defArgs st) (defBody st) (defScope st) .none kV doc pm an cdv ct) ⟨us, []⟩ = pure (ps.zip us)) : DefAt Θ x st ps :=
  ⟨f, _, PySem.W.mg_of X G a, k, fun_mk l c k, (fun_mk (st := st) l c k).binds hb⟩
/-- the law's promise -/
def spLaw (K : PySem.W.Frag) : Sp := fun vs H Q _ => ∃ (a : Addr) (ns : List Int), vs = [.ref a] ∧ SqL K H a (ns.map V.int) ∧ ns.length ≤ 63 ∧ ∀ H', Q (.bl true) H'
theorem law_sp {K : PySem.W.Frag} {w : World} {P : Program} {mg : Str → Option Value} (hl : fd.lent = false) (hfr : fd.fresh = false) (hps : fd.ps.length = 1)
    (hT : ∀ ns : List Int, ns.length ≤ 63 → fd.F .none [scrD (ns.map PyData.int)] = .ok (.bool true, .none)) (vs : List V) (H : Hp) (Q : VK) (E : XK) (h : spLaw K vs H Q E) : spF ⟨P, w, K, mg⟩ fd vs H Q E := by
  obtain ⟨a, ns, rfl, hS, hl63, k⟩ := h
  refine ⟨by rw [hps]; rfl, H, .none, [scrD (ns.map PyData.int)], Same.refl H, ?_⟩
  rw [hl]
  refine ⟨rfl, .cons (.scr hS (DVs.ints ns)) .nil, ?_⟩
  rw [hT ns hl63]
  intro v H' G' _ _ r
  rw [hfr] at r
  cases r
  exact k H'
end
theorem walkF {l : PySem.W.OpenLaw} {n lv : Nat} {q : Program} {loose : List Str} {XP : (Str → Option Value) → Heap → Prop} {YP : World → Heap → Prop} {d : DefRec} {K : Params → PySem.W.Frag} (hn : l.most = some n) (hn2 : n ≤ sizeLine) (hn3 : n ≤ 63) (hdf : d.params.defaults = []) (hr : Room lv callerA)
    (hY : ∀ (w : World) (h : Heap), YP w h → (K w.params).In h)
    (F : ∀ (w : World) (mg : Str → Option Value) (fa : Addr) (h : Heap), (K w.params).In h → h.Ns mainGlobals mg → mg d.name = some (.ref fa) →
      ∃ fd : FuncData, (∀ (s : Shared) (u : Value), BindsTo s fd ⟨[u], []⟩ [("script", u)]) ∧ ∀ base : Heap, (K w.params).In base → base.Ns mainGlobals mg → FnOk l.prog w (K w.params) mg base (L2.CX l.prog w) lv fa fd ["script"] (spLaw (K w.params))) :
    PySem.W.WalkO q loose XP YP l.row.toRowW d [] (fun f vs => PySem.call f vs) :=
  L2.walk_of (n := n) (k := lv) (x := "script") (CX := fun w => L2.CX l.prog w) (sp := fun w => spLaw (K w.params)) hn hn2 hdf hr hY F (fun _ _ a ns h63 _ hS => ⟨a, ns, rfl, hS, Nat.le_trans h63 hn3, fun _ => rfl⟩) fun _ _ _ _ _ ⟨_, _, _, _, _, _, _, _, _, _, _, _, z⟩ => z
end Fw

set_option Elab.async false
set_option linter.all false
set_option maxRecDepth 100000
set_option maxHeartbeats 4000000
namespace Fw
open PySem
/-! ### typed readings: how typed things lie in data -/
abbrev eI : Int → D := PyData.int
abbrev eB : Bool → D := PyData.bool
abbrev eS : Str → D := PyData.str
abbrev eX : D → D := id
def eN (_ : Unit) : D := .none
def eO {α : Type} (e : α → D) : Option α → D
  | none => .none
  | some a => e a
def eU {α : Type} (e : α → D) (l : List α) : D := .tuple (l.map e)
def eL {α : Type} (e : α → D) (l : List α) : D := .list (l.map e)
def e1 {α : Type} (e : α → D) (a : α) : D := .tuple [e a]
def e2 {α β : Type} (e : α → D) (f : β → D) (p : α × β) : D := .tuple [e p.1, f p.2]
def e3 {α β γ : Type} (e : α → D) (f : β → D) (g : γ → D) (p : α × β × γ) : D := .tuple [e p.1, f p.2.1, g p.2.2]
def e4 {α β γ δ : Type} (e : α → D) (f : β → D) (g : γ → D) (h : δ → D) (p : α × β × γ × δ) : D := .tuple [e p.1, f p.2.1, g p.2.2.1, h p.2.2.2]
def e5 {α β γ δ ε : Type} (e : α → D) (f : β → D) (g : γ → D) (h : δ → D) (k : ε → D) (p : α × β × γ × δ × ε) : D := .tuple [e p.1, f p.2.1, g p.2.2.1, h p.2.2.2.1, k p.2.2.2.2]
def eD {κ α : Type} (ek : κ → D) (e : α → D) (l : List (κ × α)) : D := .dict (l.map fun p => (ek p.1, e p.2))
/-- arguments -/
def a0 (_ : Unit) : List D := []
def ac {α β : Type} (e : α → D) (es : β → List D) (p : α × β) : List D := e p.1 :: es p.2

section
variable {β γ β2 γ2 δ : Type}
def Le (o : Out β) (t : Out γ) (k : γ → β) : Prop := match t with
  | .ok c => o = .ok (k c)
  | .err c x => o = .err c x
  | .bad => True
theorem Le.ok {o : Out β} {c : γ} {k : γ → β} (h : o = .ok (k c)) : Le o (.ok c) k := h
theorem Le.bad {o : Out β} {k : γ → β} : Le o .bad k := trivial
theorem Le.bind {o : Out β} {t : Out γ} {k : γ → β} {o2 : β → Out β2} {t2 : γ → Out γ2} {k2 : γ2 → β2} (h : Le o t k) (h2 : ∀ c, Le (o2 (k c)) (t2 c) k2) : Le (o >>= o2) (t >>= t2) k2 := by
  cases t with
  | ok c => have h : o = .ok (k c) := h; subst h; exact h2 c
  | err c x => have h : o = .err c x := h; subst h; exact rfl
  | bad => trivial
theorem Le.map {o : Out β} {t : Out γ} {k : γ → β} {o2 : β → Out β2} {k2 : γ → β2} (h : Le o t k) (h2 : ∀ c, o2 (k c) = .ok (k2 c)) : Le (o >>= o2) t k2 := by
  cases t with
  | ok c => have h : o = .ok (k c) := h; subst h; exact h2 c
  | err c x => have h : o = .err c x := h; subst h; exact rfl
  | bad => trivial
theorem Le.refl {o : Out β} : Le o o id := by cases o <;> first | rfl | trivial
theorem Le.of_eq {o : Out β} {t : Out γ} {k : γ → β} (h : o = (t >>= fun c => .ok (k c))) : Le o t k := by
  cases t <;> first | exact h | trivial
end

section
variable (Λ : Env) {S S1 S2 S3 α β γ δ : Type}
/-- a reading that never fails -/
def XT (w : S → FS) (ir : IR) (e : α → D) (g : S → α) : Prop := ∀ s, sem Λ ir (w s) = .ok (e (g s), w s)
/-- .. that may fail -/
def XQ (w : S → FS) (ir : IR) (e : α → D) (f : S → Out α) : Prop := ∀ s, Le (sem Λ ir (w s)) (f s) fun a => (e a, w s)
/-- .. that changes what stands in slots -/
def XG (w : S → FS) (w1 : S1 → FS) (ir : IR) (e : α → D) (f : S → Out (α × S1)) : Prop := ∀ s, Le (sem Λ ir (w s)) (f s) fun p => (e p.1, w1 p.2)
end
section
variable {Λ : Env} {S S1 S2 S3 α β γ δ : Type} {w : S → FS} {w1 : S1 → FS} {w2 : S2 → FS} {w3 : S3 → FS} {a b c : IR} {ea : α → D} {eb : β → D} {ec : γ → D} {ed : δ → D}
theorem XT.p {g : S → α} (h : XT Λ w a ea g) : XQ Λ w a ea fun s => .ok (g s) := fun s => h s
theorem XQ.g {f : S → Out α} (h : XQ Λ w a ea f) : XG Λ w w a ea fun s => f s >>= fun x => .ok (x, s) := fun s => by
  have q := h s
  show Le _ (f s >>= fun x => .ok (x, s)) _
  cases hf : f s with
  | ok c => rw [hf] at q; exact q
  | err c x => rw [hf] at q; exact q
  | bad => trivial
theorem XT.g {g : S → α} (h : XT Λ w a ea g) : XG Λ w w a ea fun s => .ok (g s, s) := fun s => h s
/-- seen as another kind of thing -/
theorem XT.up {g : S → α} (h : XT Λ w a ea g) (k : α → β) (hk : ∀ x, eb (k x) = ea x) : XT Λ w a eb fun s => k (g s) := fun s => by rw [hk]; exact h s
theorem XQ.up {f : S → Out α} (h : XQ Λ w a ea f) (k : α → β) (hk : ∀ x, eb (k x) = ea x) : XQ Λ w a eb fun s => f s >>= fun x => .ok (k x) := fun s => by
  have q := h s
  show Le _ (f s >>= fun x => .ok (k x)) _
  cases hf : f s with
  | ok c => rw [hf] at q; exact q.trans (by show Out.ok (ea c, w s) = Out.ok (eb (k c), w s); rw [hk])
  | err c x => rw [hf] at q; exact q
  | bad => trivial
theorem XG.up {f : S → Out (α × S1)} (h : XG Λ w w1 a ea f) (k : α → β) (hk : ∀ x, eb (k x) = ea x) : XG Λ w w1 a eb fun s => f s >>= fun x => .ok (k x.1, x.2) := fun s => by
  have q := h s
  show Le _ (f s >>= fun x => .ok (k x.1, x.2)) _
  cases hf : f s with
  | ok c => rw [hf] at q; exact q.trans (by show Out.ok (ea c.1, w1 c.2) = Out.ok (eb (k c.1), w1 c.2); rw [hk])
  | err c x => rw [hf] at q; exact q
  | bad => trivial
/-- seen as another kind of thing, if it is one -/
theorem XQ.cast {f : S → Out α} (h : XQ Λ w a ea f) (k : α → Out β) (hk : ∀ x y, k x = .ok y → eb y = ea x) (hb : ∀ x, (∃ y, k x = .ok y) ∨ k x = .bad) : XQ Λ w a eb fun s => f s >>= k := fun s => by
  have q := h s
  show Le _ (f s >>= k) _
  cases hf : f s with
  | ok c =>
    rw [hf] at q
    show Le _ (k c) _
    rcases hb c with ⟨y, e⟩ | e
    · rw [e]; exact q.trans (by show Out.ok (ea c, w s) = Out.ok (eb y, w s); rw [hk _ _ e])
    · rw [e]; trivial
  | err c x => rw [hf] at q; exact q
  | bad => trivial
/-! leaves -/
theorem xt_cst {d : D} {x : α} (h : ea x = d) : XT Λ w (.cst d) ea fun _ => x := fun s => by rw [h]; rfl
theorem xt_var {i : Nat} {g : S → α} (h : ∀ s, escS (w s) i = some (ea (g s), w s)) : XT Λ w (.var i) ea g := fun s => by
  show optO (escS (w s) i) = _
  rw [h]; rfl
theorem xt_bor {i : Nat} {g : S → α} (h : ∀ s, readS (w s) i = some (ea (g s))) : XT Λ w (.bor i) ea g := fun s => by
  show (optO (readS (w s) i) >>= fun d => (.ok (d, w s) : Out (D × FS))) = _
  rw [h]; rfl
theorem xt_glo {x : Str} {v : α} (h : Λ.Γ x = some (ea v)) : XT Λ w (.glo x) ea fun _ => v := fun s => by
  show (optO (Λ.Γ x) >>= fun d => (.ok (d, w s) : Out (D × FS))) = _
  rw [h]; rfl
/-- a slot's own object goes elsewhere -/
theorem xg_esc {i : Nat} {g : S → α} {h : S → S1} (q : ∀ s, escS (w s) i = some (ea (g s), w1 (h s))) : XG Λ w w1 (.var i) ea fun s => .ok (g s, h s) := fun s => by
  show optO (escS (w s) i) = _
  rw [q]; rfl
/-! two operands -/
theorem late_pure {ŝ : FS} {d : D} (h : sem Λ a ŝ = .ok (d, ŝ)) : late a ŝ d = some d := by
  cases a with
  | bor i =>
    have h : (optO (readS ŝ i) >>= fun d => (.ok (d, ŝ) : Out (D × FS))) = .ok (d, ŝ) := h
    show readS ŝ i = some d
    cases e : readS ŝ i with
    | none => rw [e] at h; cases h
    | some x => rw [e] at h; cases h; rfl
  | _ => rfl
theorem late_nb {ŝ : FS} {d : D} (h : isBor a = false) : late a ŝ d = some d := by
  cases a <;> first | rfl | cases h
def sem2 (Λ : Env) (op : D → D → Option D) (a b : IR) (ŝ : FS) : Out (D × FS) := sem Λ a ŝ >>= fun p => sem Λ b p.2 >>= fun q => optO (late a q.2 p.1) >>= fun d => optO (op d q.1) >>= fun r => .ok (r, q.2)
variable {op : D → D → Option D}
theorem xt2 {ga : S → α} {gb : S → β} {h : α → β → γ} (ho : ∀ x y, op (ea x) (eb y) = some (ec (h x y))) (ha : XT Λ w a ea ga) (hb : XT Λ w b eb gb) : ∀ s, sem2 Λ op a b (w s) = .ok (ec (h (ga s) (gb s)), w s) := fun s => by
  unfold sem2
  rw [ha s]
  show (sem Λ b (w s) >>= _) = _
  rw [hb s]
  show (optO (late a (w s) (ea (ga s))) >>= _) = _
  rw [late_pure (ha s)]
  show (optO (op _ _) >>= _) = _
  rw [ho]; rfl
theorem xt2c {ga : S → α} {gb : S → β} {h : α → β → γ} (y0 : β) (hy : ∀ s, gb s = y0) (ho : ∀ x, op (ea x) (eb y0) = some (ec (h x y0))) (ha : XT Λ w a ea ga) (hb : XT Λ w b eb gb) : ∀ s, sem2 Λ op a b (w s) = .ok (ec (h (ga s) (gb s)), w s) := fun s => by
  unfold sem2
  rw [ha s]
  show (sem Λ b (w s) >>= _) = _
  rw [hb s]
  show (optO (late a (w s) (ea (ga s))) >>= _) = _
  rw [late_pure (ha s)]
  show (optO (op _ _) >>= _) = _
  rw [hy, ho]; rfl
theorem xt2d {ga : S → α} {gb : S → β} {h : α → β → γ} (y0 : α) (hy : ∀ s, ga s = y0) (ho : ∀ x, op (ea y0) (eb x) = some (ec (h y0 x))) (ha : XT Λ w a ea ga) (hb : XT Λ w b eb gb) : ∀ s, sem2 Λ op a b (w s) = .ok (ec (h (ga s) (gb s)), w s) := fun s => by
  unfold sem2
  rw [ha s]
  show (sem Λ b (w s) >>= _) = _
  rw [hb s]
  show (optO (late a (w s) (ea (ga s))) >>= _) = _
  rw [late_pure (ha s)]
  show (optO (op _ _) >>= _) = _
  rw [hy, ho]; rfl
theorem xp2 {fa : S → Out α} {fb : S → Out β} {h : α → β → Out γ} (ho : ∀ x y, Le (optO (op (ea x) (eb y))) (h x y) ec) (ha : XQ Λ w a ea fa) (hb : XQ Λ w b eb fb) : ∀ s, Le (sem2 Λ op a b (w s)) (fa s >>= fun x => fb s >>= fun y => h x y) fun z => (ec z, w s) := fun s => by
  unfold sem2
  have qa := ha s
  cases hf : fa s with
  | bad => trivial
  | err c x => rw [hf] at qa; have qa : sem Λ a (w s) = .err c x := qa; rw [qa]; exact rfl
  | ok x =>
    rw [hf] at qa
    have qa : sem Λ a (w s) = .ok (ea x, w s) := qa
    rw [qa]
    refine (hb s).bind fun y => ?_
    show Le (optO (late a (w s) (ea x)) >>= _) _ _
    rw [late_pure qa]
    exact (ho x y).map fun _ => rfl
theorem xg2 {fa : S → Out (α × S1)} {fb : S1 → Out (β × S2)} {h : α → β → Out γ} (hn : isBor a = false) (ho : ∀ x y, Le (optO (op (ea x) (eb y))) (h x y) ec) (ha : XG Λ w w1 a ea fa) (hb : XG Λ w1 w2 b eb fb) :
    ∀ s, Le (sem2 Λ op a b (w s)) (fa s >>= fun p => fb p.2 >>= fun q => h p.1 q.1 >>= fun z => .ok (z, q.2)) fun z => (ec z.1, w2 z.2) := fun s => by
  unfold sem2
  refine (ha s).bind fun p => ?_
  refine (hb p.2).bind fun q => ?_
  show Le (optO (late a _ _) >>= _) _ _
  rw [late_nb hn]
  exact (ho p.1 q.1).bind fun _ => rfl
/-- .. read behind the other one -/
theorem xg2b {i : Nat} {g : S1 → α} {fb : S → Out (β × S1)} {h : α → β → Out γ} {g0 : S → D} (h0 : ∀ s, readS (w s) i = some (g0 s)) (hr : ∀ s, readS (w1 s) i = some (ea (g s))) (ho : ∀ x y, Le (optO (op (ea x) (eb y))) (h x y) ec) (hb : XG Λ w w1 b eb fb) :
    ∀ s, Le (sem2 Λ op (.bor i) b (w s)) (fb s >>= fun q => h (g q.2) q.1 >>= fun z => .ok (z, q.2)) fun z => (ec z.1, w1 z.2) := fun s => by
  unfold sem2
  show Le ((optO (readS (w s) i) >>= fun d => (.ok (d, w s) : Out (D × FS))) >>= _) _ _
  rw [h0]
  refine (hb s).bind fun q => ?_
  show Le (optO (readS (w1 q.2) i) >>= _) _ _
  rw [hr]
  exact (ho _ q.1).bind fun _ => rfl
theorem sem_bin {k : BOp} : sem Λ (.bin k a b) = sem2 Λ (appBin k) a b := rfl
theorem sem_cmp {k : COp} : sem Λ (.cmp k a b) = sem2 Λ (appCmp k) a b := rfl
theorem sem_idx : sem Λ (.idx a b) = sem2 Λ appIdx a b := rfl
/-! one operand -/
def sem1 (Λ : Env) (op : D → Option D) (a : IR) (ŝ : FS) : Out (D × FS) := sem Λ a ŝ >>= fun p => optO (op p.1) >>= fun r => .ok (r, p.2)
variable {op1 : D → Option D}
theorem xt1 {ga : S → α} {h : α → β} (ho : ∀ x, op1 (ea x) = some (eb (h x))) (ha : XT Λ w a ea ga) : ∀ s, sem1 Λ op1 a (w s) = .ok (eb (h (ga s)), w s) := fun s => by
  unfold sem1
  rw [ha s]
  show (optO (op1 _) >>= _) = _
  rw [ho]; rfl
theorem xp1 {fa : S → Out α} {h : α → Out β} (ho : ∀ x, Le (optO (op1 (ea x))) (h x) eb) (ha : XQ Λ w a ea fa) : ∀ s, Le (sem1 Λ op1 a (w s)) (fa s >>= h) fun z => (eb z, w s) := fun s => by
  unfold sem1
  refine (ha s).bind fun x => ?_
  exact (ho x).map fun _ => rfl
theorem xg1 {fa : S → Out (α × S1)} {h : α → Out β} (ho : ∀ x, Le (optO (op1 (ea x))) (h x) eb) (ha : XG Λ w w1 a ea fa) : ∀ s, Le (sem1 Λ op1 a (w s)) (fa s >>= fun p => h p.1 >>= fun z => .ok (z, p.2)) fun z => (eb z.1, w1 z.2) := fun s => by
  unfold sem1
  refine (ha s).bind fun x => ?_
  exact (ho x.1).bind fun _ => rfl
def boolO1 (t : Ty) (d : D) : Option D := (isTy t d).map PyData.bool
theorem sem_b1 {k : B1} : sem Λ (.b1 k a) = sem1 Λ (app1 k) a := rfl
theorem sem_toL : sem Λ (.toL a) = sem1 Λ toLD a := rfl
theorem sem_toT : sem Λ (.toT a) = sem1 Λ toTD a := rfl
theorem sem_revL : sem Λ (.revL a) = sem1 Λ revLD a := rfl
theorem sem_isi {t : Ty} : sem Λ (.isi t a) = sem1 Λ (boolO1 t) a := by
  funext ŝ
  show (sem Λ a ŝ >>= fun p => optO (isTy t p.1) >>= fun r => (.ok (PyData.bool r, p.2) : Out (D × FS))) = (sem Λ a ŝ >>= fun p => optO (boolO1 t p.1) >>= fun r => .ok (r, p.2))
  cases sem Λ a ŝ with
  | ok p =>
    show (optO (isTy t p.1) >>= fun r => (.ok (PyData.bool r, p.2) : Out (D × FS))) = (optO (boolO1 t p.1) >>= fun r => .ok (r, p.2))
    unfold boolO1
    cases isTy t p.1 <;> rfl
  | err c x => rfl
  | bad => rfl
def notD (d : D) : Option D := (tstD d).map fun b => .bool (!b)
theorem sem_not : sem Λ (.not a) = sem1 Λ notD a := by
  funext ŝ
  show (sem Λ a ŝ >>= fun p => optO (tstD p.1) >>= fun t => (.ok (PyData.bool (!t), p.2) : Out (D × FS))) = (sem Λ a ŝ >>= fun p => optO (notD p.1) >>= fun r => .ok (r, p.2))
  cases sem Λ a ŝ with
  | ok p =>
    show (optO (tstD p.1) >>= fun r => (.ok (PyData.bool (!r), p.2) : Out (D × FS))) = (optO (notD p.1) >>= fun r => .ok (r, p.2))
    unfold notD
    cases tstD p.1 <;> rfl
  | err c x => rfl
  | bad => rfl
def negD : D → Option D
  | .int i => some (.int (-i))
  | _ => none
theorem sem_neg : sem Λ (.neg a) = sem1 Λ negD a := by
  funext ŝ
  show (sem Λ a ŝ >>= fun p => match p.1 with
      | .int i => (.ok (.int (-i), p.2) : Out (D × FS))
      | _ => .bad) = (sem Λ a ŝ >>= fun p => optO (negD p.1) >>= fun r => .ok (r, p.2))
  cases sem Λ a ŝ with
  | ok p =>
    obtain ⟨d, s⟩ := p
    cases d <;> rfl
  | err c x => rfl
  | bad => rfl
/-! tests -/
theorem xt_not {g : S → Bool} (h : XT Λ w a eB g) : XT Λ w (.not a) eB fun s => !(g s) := fun s => by rw [sem_not]; exact xt1 (ea := eB) (eb := eB) (h := fun b => !b) (fun _ => rfl) h s
theorem xp_not {f : S → Out Bool} (h : XQ Λ w a eB f) : XQ Λ w (.not a) eB fun s => f s >>= fun b => .ok (!b) := fun s => by rw [sem_not]; exact xp1 (op1 := notD) (ea := eB) (eb := eB) (h := fun b => .ok (!b)) (fun _ => Le.ok rfl) h s
theorem xg_not {f : S → Out (Bool × S1)} (h : XG Λ w w1 a eB f) : XG Λ w w1 (.not a) eB fun s => f s >>= fun p => .ok (!p.1, p.2) := fun s => by rw [sem_not]; exact xg1 (op1 := notD) (ea := eB) (eb := eB) (h := fun b => .ok (!b)) (fun _ => Le.ok rfl) h s
theorem xt_and {g h : S → Bool} (ha : XT Λ w a eB g) (hb : XT Λ w b eB h) : XT Λ w (.and a b) eB fun s => g s && h s := fun s => by
  show (sem Λ a (w s) >>= _) = Out.ok (eB (g s && h s), w s)
  rw [ha s]
  show (if g s = true then _ else _) = _
  cases g s with
  | true => show (sem Λ b (w s) >>= _) = _; rw [hb s]; rfl
  | false => rfl
theorem xt_or {g h : S → Bool} (ha : XT Λ w a eB g) (hb : XT Λ w b eB h) : XT Λ w (.or a b) eB fun s => g s || h s := fun s => by
  show (sem Λ a (w s) >>= _) = Out.ok (eB (g s || h s), w s)
  rw [ha s]
  show (if g s = true then _ else _) = _
  cases g s with
  | false => show (sem Λ b (w s) >>= _) = _; rw [hb s]; rfl
  | true => rfl
theorem xp_and {f g : S → Out Bool} (ha : XQ Λ w a eB f) (hb : XQ Λ w b eB g) : XQ Λ w (.and a b) eB fun s => f s >>= fun x => if x = true then g s else .ok false := fun s => by
  refine (ha s).bind fun x => ?_
  show Le (if x = true then _ else _) _ _
  cases x with
  | true => exact (hb s).map fun _ => rfl
  | false => exact rfl
theorem xp_or {f g : S → Out Bool} (ha : XQ Λ w a eB f) (hb : XQ Λ w b eB g) : XQ Λ w (.or a b) eB fun s => f s >>= fun x => if x = true then .ok true else g s := fun s => by
  refine (ha s).bind fun x => ?_
  show Le (if x = true then _ else _) _ _
  cases x with
  | false => exact (hb s).map fun _ => rfl
  | true => exact rfl
theorem xg_and {f : S → Out (Bool × S1)} {g : S1 → Out (Bool × S1)} (ha : XG Λ w w1 a eB f) (hb : XG Λ w1 w1 b eB g) : XG Λ w w1 (.and a b) eB fun s => f s >>= fun x => if x.1 = true then g x.2 else .ok (false, x.2) := fun s => by
  refine (ha s).bind fun x => ?_
  show Le (if x.1 = true then _ else _) _ _
  cases x.1 with
  | true => exact (hb x.2).map fun _ => rfl
  | false => exact rfl
theorem xg_or {f : S → Out (Bool × S1)} {g : S1 → Out (Bool × S1)} (ha : XG Λ w w1 a eB f) (hb : XG Λ w1 w1 b eB g) : XG Λ w w1 (.or a b) eB fun s => f s >>= fun x => if x.1 = true then .ok (true, x.2) else g x.2 := fun s => by
  refine (ha s).bind fun x => ?_
  show Le (if x.1 = true then _ else _) _ _
  cases x.1 with
  | false => exact (hb x.2).map fun _ => rfl
  | true => exact rfl
theorem xt_ite {c : IR} {t : S → Bool} {g h : S → α} (hc : XT Λ w c eB t) (ha : XT Λ w a ea g) (hb : XT Λ w b ea h) : XT Λ w (.ite c a b) ea fun s => if t s = true then g s else h s := fun s => by
  show (sem Λ c (w s) >>= _) = Out.ok (ea (if t s = true then g s else h s), w s)
  rw [hc s]
  show (if t s = true then _ else _) = _
  cases t s with
  | true => exact ha s
  | false => exact hb s
theorem xp_ite {c : IR} {t : S → Out Bool} {g h : S → Out α} (hc : XQ Λ w c eB t) (ha : XQ Λ w a ea g) (hb : XQ Λ w b ea h) : XQ Λ w (.ite c a b) ea fun s => t s >>= fun x => if x = true then g s else h s := fun s => by
  refine (hc s).bind fun x => ?_
  show Le (if x = true then _ else _) _ _
  cases x with
  | true => exact ha s
  | false => exact hb s
theorem xg_ite {c : IR} {t : S → Out (Bool × S1)} {g h : S1 → Out (α × S2)} (hc : XG Λ w w1 c eB t) (ha : XG Λ w1 w2 a ea g) (hb : XG Λ w1 w2 b ea h) : XG Λ w w2 (.ite c a b) ea fun s => t s >>= fun x => if x.1 = true then g x.2 else h x.2 := fun s => by
  refine (hc s).bind fun x => ?_
  show Le (if x.1 = true then _ else _) _ _
  cases x.1 with
  | true => exact ha x.2
  | false => exact hb x.2
/-- x <= y <= z -/
theorem xt_chain {k k' : COp} {ga : S → α} {gb : S → β} {gc : S → γ} {h : α → β → Bool} {h' : β → γ → Bool} (ho : ∀ x y, appCmp k (ea x) (eb y) = some (.bool (h x y))) (ho' : ∀ x y, appCmp k' (eb x) (ec y) = some (.bool (h' x y)))
    (ha : XT Λ w a ea ga) (hb : XT Λ w b eb gb) (hc : XT Λ w c ec gc) : XT Λ w (.chain k k' a b c) eB fun s => h (ga s) (gb s) && h' (gb s) (gc s) := fun s => by
  show (sem Λ a (w s) >>= _) = Out.ok (eB (h (ga s) (gb s) && h' (gb s) (gc s)), w s)
  rw [ha s]
  show (sem Λ b (w s) >>= _) = _
  rw [hb s]
  show (optO (appCmp k _ _) >>= _) = _
  rw [ho]
  show (if h (ga s) (gb s) = true then _ else _) = _
  cases h (ga s) (gb s) with
  | false => rfl
  | true =>
    show (sem Λ c (w s) >>= _) = _
    rw [hc s]
    show (optO (appCmp k' _ _) >>= _) = _
    rw [ho']; rfl
theorem xp_chain {k k' : COp} {fa : S → Out α} {fb : S → Out β} {fc : S → Out γ} {h : α → β → Out Bool} {h' : β → γ → Out Bool} (ho : ∀ x y, Le (optO (appCmp k (ea x) (eb y))) (h x y) eB) (ho' : ∀ x y, Le (optO (appCmp k' (eb x) (ec y))) (h' x y) eB)
    (ha : XQ Λ w a ea fa) (hb : XQ Λ w b eb fb) (hc : XQ Λ w c ec fc) : XQ Λ w (.chain k k' a b c) eB fun s => fa s >>= fun x => fb s >>= fun y => h x y >>= fun t => if t = true then fc s >>= fun z => h' y z else .ok false := fun s => by
  refine (ha s).bind fun x => (hb s).bind fun y => (ho x y).bind fun t => ?_
  show Le (if t = true then _ else _) _ _
  cases t with
  | false => exact rfl
  | true => exact (hc s).bind fun z => (ho' y z).map fun _ => rfl
end
end Fw

set_option Elab.async false
set_option linter.all false
set_option maxRecDepth 100000
set_option maxHeartbeats 4000000
namespace Fw
open PySem
/-! ### equality of typed things -/
structure EqE {α : Type} [DecidableEq α] (e : α → D) (n : Nat) : Prop where
  eq : ∀ a b, eqD (e a) (e b) = decide (a = b)
  lay : ∀ a, (e a).canLay0 = true
  dep : ∀ a, (e a).depth ≤ n
theorem EqE.shp {α : Type} [DecidableEq α] {e : α → D} {n : Nat} (h : EqE e n) (hn : n ≤ 64) (a : α) : shp (e a) = true := by
  unfold Fw.shp SeqAt.shaped
  rw [Bool.and_eq_true, decide_eq_true_eq]
  exact ⟨h.lay a, Nat.le_trans (h.dep a) hn⟩
theorem q_int : EqE eI 0 where
  eq a b := by
    show PyData.eqv (.int a) (.int b) = _
    unfold PyData.eqv
    by_cases h : a = b <;> simp [h]
  lay _ := rfl
  dep _ := Nat.le_refl 0
theorem q_bool : EqE eB 0 where
  eq a b := by cases a <;> cases b <;> rfl
  lay _ := rfl
  dep _ := Nat.le_refl 0
theorem q_unit : EqE eN 0 where
  eq a b := rfl
  lay _ := rfl
  dep _ := Nat.le_refl 0
def notNone (d : D) : Prop := isNone d = false
theorem eqv_none_l {d : D} (h : isNone d = false) : PyData.eqv .none d = false := by cases d <;> first | rfl | cases h
theorem eqv_none_r {d : D} (h : isNone d = false) : PyData.eqv d .none = false := by cases d <;> first | rfl | cases h
theorem q_opt {α : Type} [DecidableEq α] {e : α → D} {n : Nat} (h : EqE e n) (hn : ∀ a, isNone (e a) = false) : EqE (eO e) n where
  eq a b := by
    cases a with
    | none => cases b with
      | none => rfl
      | some b => show PyData.eqv .none (e b) = _; rw [eqv_none_l (hn b)]; simp
    | some a => cases b with
      | none => show PyData.eqv (e a) .none = _; rw [eqv_none_r (hn a)]; simp
      | some b => show eqD (e a) (e b) = _; rw [h.eq]; simp
  lay a := by cases a <;> first | rfl | exact h.lay _
  dep a := by cases a <;> first | exact Nat.zero_le _ | exact h.dep _
theorem eqvAll_map {α : Type} [DecidableEq α] {e : α → D} {n : Nat} (h : EqE e n) : ∀ l m : List α, PyData.eqvAll (l.map e) (m.map e) = decide (l = m)
  | [], [] => rfl
  | [], _ :: _ => rfl
  | _ :: _, [] => rfl
  | a :: l, b :: m => by
    show (PyData.eqv (e a) (e b) && PyData.eqvAll (l.map e) (m.map e)) = _
    rw [eqvAll_map h l m]
    have := h.eq a b
    unfold eqD at this
    rw [this]
    by_cases h1 : a = b <;> by_cases h2 : l = m <;> simp [h1, h2]
theorem layAll_map {α : Type} [DecidableEq α] {e : α → D} {n : Nat} (h : EqE e n) : ∀ l : List α, PyData.canLayAll0 (l.map e) = true
  | [] => rfl
  | a :: l => by
    show ((e a).canLay0 && PyData.canLayAll0 (l.map e)) = true
    rw [h.lay, layAll_map h l]; rfl
theorem depAll_map {α : Type} [DecidableEq α] {e : α → D} {n : Nat} (h : EqE e n) : ∀ l : List α, PyData.depthAll (l.map e) ≤ n
  | [] => Nat.zero_le _
  | a :: l => by
    show max (e a).depth (PyData.depthAll (l.map e)) ≤ n
    exact Nat.max_le.mpr ⟨h.dep a, depAll_map h l⟩
theorem q_tup {α : Type} [DecidableEq α] {e : α → D} {n : Nat} (h : EqE e n) : EqE (eU e) (n + 1) where
  eq a b := eqvAll_map h a b
  lay a := layAll_map h a
  dep a := Nat.succ_le_succ (depAll_map h a)
theorem q_lst {α : Type} [DecidableEq α] {e : α → D} {n : Nat} (h : EqE e n) : EqE (eL e) (n + 1) where
  eq a b := eqvAll_map h a b
  lay a := layAll_map h a
  dep a := Nat.succ_le_succ (depAll_map h a)
theorem q_1 {α : Type} [DecidableEq α] {e : α → D} {n : Nat} (h : EqE e n) : EqE (e1 e) (n + 1) where
  eq a b := by
    show (PyData.eqv (e a) (e b) && true) = _
    have := h.eq a b; unfold eqD at this; rw [this, Bool.and_true]
  lay a := by show ((e a).canLay0 && true) = true; rw [h.lay]; rfl
  dep a := by show max (e a).depth 0 + 1 ≤ n + 1; have := h.dep a; omega
theorem q_2 {α β : Type} [DecidableEq α] [DecidableEq β] {e : α → D} {f : β → D} {n m : Nat} (h : EqE e n) (k : EqE f m) : EqE (e2 e f) (max n m + 1) where
  eq a b := by
    show (PyData.eqv (e a.1) (e b.1) && (PyData.eqv (f a.2) (f b.2) && true)) = _
    have h1 := h.eq a.1 b.1; have h2 := k.eq a.2 b.2
    unfold eqD at h1 h2
    rw [h1, h2, Bool.and_true]
    obtain ⟨a1, a2⟩ := a; obtain ⟨b1, b2⟩ := b
    by_cases q1 : a1 = b1 <;> by_cases q2 : a2 = b2 <;> simp [q1, q2]
  lay a := by show ((e a.1).canLay0 && ((f a.2).canLay0 && true)) = true; rw [h.lay, k.lay]; rfl
  dep a := by show max (e a.1).depth (max (f a.2).depth 0) + 1 ≤ _; have := h.dep a.1; have := k.dep a.2; omega
theorem q_3 {α β γ : Type} [DecidableEq α] [DecidableEq β] [DecidableEq γ] {e : α → D} {f : β → D} {g : γ → D} {n m k : Nat} (h1 : EqE e n) (h2 : EqE f m) (h3 : EqE g k) : EqE (e3 e f g) (max n (max m k) + 1) where
  eq a b := by
    show (PyData.eqv (e a.1) (e b.1) && (PyData.eqv (f a.2.1) (f b.2.1) && (PyData.eqv (g a.2.2) (g b.2.2) && true))) = _
    have q1 := h1.eq a.1 b.1; have q2 := h2.eq a.2.1 b.2.1; have q3 := h3.eq a.2.2 b.2.2
    unfold eqD at q1 q2 q3
    rw [q1, q2, q3, Bool.and_true]
    obtain ⟨a1, a2, a3⟩ := a; obtain ⟨b1, b2, b3⟩ := b
    by_cases r1 : a1 = b1 <;> by_cases r2 : a2 = b2 <;> by_cases r3 : a3 = b3 <;> simp [r1, r2, r3]
  lay a := by show ((e a.1).canLay0 && ((f a.2.1).canLay0 && ((g a.2.2).canLay0 && true))) = true; rw [h1.lay, h2.lay, h3.lay]; rfl
  dep a := by show max (e a.1).depth (max (f a.2.1).depth (max (g a.2.2).depth 0)) + 1 ≤ _; have := h1.dep a.1; have := h2.dep a.2.1; have := h3.dep a.2.2; omega
theorem q_4 {α β γ δ : Type} [DecidableEq α] [DecidableEq β] [DecidableEq γ] [DecidableEq δ] {e : α → D} {f : β → D} {g : γ → D} {u : δ → D} {n m k l : Nat} (h1 : EqE e n) (h2 : EqE f m) (h3 : EqE g k) (h4 : EqE u l) : EqE (e4 e f g u) (max n (max m (max k l)) + 1) where
  eq a b := by
    show (PyData.eqv (e a.1) (e b.1) && (PyData.eqv (f a.2.1) (f b.2.1) && (PyData.eqv (g a.2.2.1) (g b.2.2.1) && (PyData.eqv (u a.2.2.2) (u b.2.2.2) && true)))) = _
    have q1 := h1.eq a.1 b.1; have q2 := h2.eq a.2.1 b.2.1; have q3 := h3.eq a.2.2.1 b.2.2.1; have q4 := h4.eq a.2.2.2 b.2.2.2
    unfold eqD at q1 q2 q3 q4
    rw [q1, q2, q3, q4, Bool.and_true]
    obtain ⟨a1, a2, a3, a4⟩ := a; obtain ⟨b1, b2, b3, b4⟩ := b
    by_cases r1 : a1 = b1 <;> by_cases r2 : a2 = b2 <;> by_cases r3 : a3 = b3 <;> by_cases r4 : a4 = b4 <;> simp [r1, r2, r3, r4]
  lay a := by show ((e a.1).canLay0 && ((f a.2.1).canLay0 && ((g a.2.2.1).canLay0 && ((u a.2.2.2).canLay0 && true)))) = true; rw [h1.lay, h2.lay, h3.lay, h4.lay]; rfl
  dep a := by show max (e a.1).depth (max (f a.2.1).depth (max (g a.2.2.1).depth (max (u a.2.2.2).depth 0))) + 1 ≤ _; have := h1.dep a.1; have := h2.dep a.2.1; have := h3.dep a.2.2.1; have := h4.dep a.2.2.2; omega

section
variable {α β γ : Type} {ea : α → D} {eb : β → D}
/-! ### operations on typed things -/
theorem o_add (x y : Int) : appBin .add (eI x) (eI y) = some (eI (x + y)) := rfl
theorem o_sub (x y : Int) : appBin .sub (eI x) (eI y) = some (eI (x - y)) := rfl
@[irreducible] def fits {α : Type} (l : List α) : Out (List α) := if fitsL l.length = true then .ok l else .bad
theorem p_catU (x y : List α) : Le (optO (appBin .add (eU ea x) (eU ea y))) (fits (x ++ y)) (eU ea) := by
  show Le (optO (guardO (fitsL ((x.map ea).length + (y.map ea).length)) (.tuple (x.map ea ++ y.map ea)))) _ _
  unfold fits
  rw [List.length_append, List.length_map, List.length_map]
  cases fitsL (x.length + y.length) with
  | true => show Out.ok _ = _; rw [← List.map_append]; rfl
  | false => trivial
theorem p_catL (x y : List α) : Le (optO (appBin .addL (eL ea x) (eL ea y))) (fits (x ++ y)) (eL ea) := by
  show Le (optO (guardO (fitsL ((x.map ea).length + (y.map ea).length)) (.list (x.map ea ++ y.map ea)))) _ _
  unfold fits
  rw [List.length_append, List.length_map, List.length_map]
  cases fitsL (x.length + y.length) with
  | true => show Out.ok _ = _; rw [← List.map_append]; rfl
  | false => trivial
@[irreducible] def mulG (x y : Int) : Out Int := if mulOk x y = true then .ok (x * y) else .bad
theorem p_mul (x y : Int) : Le (optO (appBin .mul (eI x) (eI y))) (mulG x y) eI := by
  show Le (optO (guardO (mulOk x y) (.int (x * y)))) _ _
  unfold mulG
  cases mulOk x y <;> first | rfl | trivial
theorem o_mulc (c : Int) (h : decide (-(2 ^ 64) < c ∧ c < 2 ^ 64) = true) (x : Int) : appBin .mul (eI x) (eI c) = some (eI (x * c)) := by
  show guardO (mulOk x c) (.int (x * c)) = _
  have : mulOk x c = true := by unfold mulOk; rw [decide_eq_true_eq] at h ⊢; exact .inr h
  rw [this]; rfl
theorem o_mulc' (c : Int) (h : decide (-(2 ^ 64) < c ∧ c < 2 ^ 64) = true) (x : Int) : appBin .mul (eI c) (eI x) = some (eI (c * x)) := by
  show guardO (mulOk c x) (.int (c * x)) = _
  have : mulOk c x = true := by unfold mulOk; rw [decide_eq_true_eq] at h ⊢; exact .inl h
  rw [this]; rfl
@[irreducible] def repG {α : Type} (l : List α) (k : Int) : Out (List α) := if repOk l.length k = true then .ok (List.replicate k.toNat l).flatten else .bad
theorem map_rep (k : Nat) (l : List α) : ((List.replicate k l).flatten).map ea = (List.replicate k (l.map ea)).flatten := by
  induction k with
  | zero => rfl
  | succ k ih => rw [List.replicate_succ, List.replicate_succ, List.flatten_cons, List.flatten_cons, List.map_append, ih]
theorem p_repU (x : List α) (k : Int) : Le (optO (appBin .mul (eU ea x) (eI k))) (repG x k) (eU ea) := by
  show Le (optO (guardO (repOk (x.map ea).length k) (.tuple (rep k (x.map ea))))) _ _
  unfold repG
  rw [List.length_map]
  cases repOk x.length k with
  | true => show Out.ok _ = Out.ok (PyData.tuple _); rw [map_rep]; rfl
  | false => trivial
theorem p_repL (x : List α) (k : Int) : Le (optO (appBin .mulL (eL ea x) (eI k))) (repG x k) (eL ea) := by
  show Le (optO (guardO (repOk (x.map ea).length k) (.list (rep k (x.map ea))))) _ _
  unfold repG
  rw [List.length_map]
  cases repOk x.length k with
  | true => show Out.ok _ = Out.ok (PyData.list _); rw [map_rep]; rfl
  | false => trivial
@[irreducible] def fdivG (x y : Int) : Out Int := if divOk y = true then .ok (x / y) else .bad
theorem p_fdiv (x y : Int) : Le (optO (appBin .fdiv (eI x) (eI y))) (fdivG x y) eI := by
  show Le (optO (guardO (divOk y) (.int (x / y)))) _ _
  unfold fdivG
  cases divOk y <;> first | rfl | trivial
theorem o_fdivc (c : Int) (h : divOk c = true) (x : Int) : appBin .fdiv (eI x) (eI c) = some (eI (x / c)) := by
  show guardO (divOk c) (.int (x / c)) = _
  rw [h]; rfl
@[irreducible] def modG (x y : Int) : Out Int := if decide (0 < y) = true then .ok (x % y) else .bad
theorem p_mod (x y : Int) : Le (optO (appBin .mod (eI x) (eI y))) (modG x y) eI := by
  show Le (optO (guardO (decide (0 < y)) (.int (x % y)))) _ _
  unfold modG
  cases decide (0 < y) <;> first | rfl | trivial
theorem o_modc (c : Int) (h : decide (0 < c) = true) (x : Int) : appBin .mod (eI x) (eI c) = some (eI (x % c)) := by
  show guardO (decide (0 < c)) (.int (x % c)) = _
  rw [h]; rfl
@[irreducible] def powG (x y : Int) : Out Int := if powOk x y = true then .ok (x ^ y.toNat) else .bad
theorem p_pow (x y : Int) : Le (optO (appBin .pow (eI x) (eI y))) (powG x y) eI := by
  show Le (optO (guardO (powOk x y) (.int (x ^ y.toNat)))) _ _
  unfold powG
  cases powOk x y <;> first | rfl | trivial
/-! comparisons -/
def eqT {α : Type} [DecidableEq α] (x y : α) : Bool := decide (x = y)
def memT {α : Type} [DecidableEq α] (x : α) (l : List α) : Bool := decide (x ∈ l)
theorem o_eq [DecidableEq α] {n : Nat} (q : EqE ea n) (hn : n ≤ 64 := by decide) (x y : α) : appCmp .eq (ea x) (ea y) = some (eB (eqT x y)) := by
  show guardO (shp (ea x) && shp (ea y)) (.bool (eqD (ea x) (ea y))) = _
  rw [q.shp hn, q.shp hn, q.eq]; rfl
theorem o_ne [DecidableEq α] {n : Nat} (q : EqE ea n) (hn : n ≤ 64 := by decide) (x y : α) : appCmp .ne (ea x) (ea y) = some (eB (!eqT x y)) := by
  show guardO (shp (ea x) && shp (ea y)) (.bool (!eqD (ea x) (ea y))) = _
  rw [q.shp hn, q.shp hn, q.eq]; rfl
theorem o_lt (x y : Int) : appCmp .lt (eI x) (eI y) = some (eB (decide (x < y))) := rfl
theorem o_le (x y : Int) : appCmp .le (eI x) (eI y) = some (eB (decide (x ≤ y))) := rfl
theorem o_gt (x y : Int) : appCmp .gt (eI x) (eI y) = some (eB (decide (y < x))) := rfl
theorem o_ge (x y : Int) : appCmp .ge (eI x) (eI y) = some (eB (decide (y ≤ x))) := rfl
theorem memD_map [DecidableEq α] {n : Nat} (q : EqE ea n) (x : α) (l : List α) : memD (ea x) (l.map ea) = decide (x ∈ l) := by
  unfold memD
  induction l with
  | nil => simp
  | cons a r ih =>
    rw [List.map_cons, List.any_cons, ih, q.eq]
    by_cases h1 : a = x
    · simp [h1]
    · have h1' : x ≠ a := fun z => h1 z.symm
      simp [h1, h1']
theorem o_inU [DecidableEq α] {n : Nat} (q : EqE ea n) (hn : n + 1 ≤ 64 := by decide) (x : α) (l : List α) : appCmp .isin (ea x) (eU ea l) = some (eB (memT x l)) := by
  show boolO (if (shp (ea x) && shp (eU ea l)) = true then some (memD (ea x) (l.map ea)) else none) = _
  rw [q.shp (by omega), (q_tup q).shp hn, memD_map q]; rfl
theorem o_niU [DecidableEq α] {n : Nat} (q : EqE ea n) (hn : n + 1 ≤ 64 := by decide) (x : α) (l : List α) : appCmp .notin (ea x) (eU ea l) = some (eB (!memT x l)) := by
  show boolO ((if (shp (ea x) && shp (eU ea l)) = true then some (memD (ea x) (l.map ea)) else none) >>= fun c => some (!c)) = _
  rw [q.shp (by omega), (q_tup q).shp hn, memD_map q]; rfl
theorem o_inL [DecidableEq α] {n : Nat} (q : EqE ea n) (hn : n + 1 ≤ 64 := by decide) (x : α) (l : List α) : appCmp .isin (ea x) (eL ea l) = some (eB (memT x l)) := by
  show boolO (if (shp (ea x) && shp (eL ea l)) = true then some (memD (ea x) (l.map ea)) else none) = _
  rw [q.shp (by omega), (q_lst q).shp hn, memD_map q]; rfl
theorem o_niL [DecidableEq α] {n : Nat} (q : EqE ea n) (hn : n + 1 ≤ 64 := by decide) (x : α) (l : List α) : appCmp .notin (ea x) (eL ea l) = some (eB (!memT x l)) := by
  show boolO ((if (shp (ea x) && shp (eL ea l)) = true then some (memD (ea x) (l.map ea)) else none) >>= fun c => some (!c)) = _
  rw [q.shp (by omega), (q_lst q).shp hn, memD_map q]; rfl
theorem o_isN (hn : ∀ a, isNone (ea a) = false) (x : Option α) (y : Unit) : appCmp .is (eO ea x) (eN y) = some (eB x.isNone) := by
  show boolO (some (isNone (eO ea x))) = _
  cases x with
  | none => rfl
  | some a => show boolO (some (isNone (ea a))) = _; rw [hn]; rfl
theorem o_nsN (hn : ∀ a, isNone (ea a) = false) (x : Option α) (y : Unit) : appCmp .isnot (eO ea x) (eN y) = some (eB x.isSome) := by
  show boolO (some (isNone (eO ea x)) >>= fun c => some (!c)) = _
  cases x with
  | none => rfl
  | some a => show boolO (some (isNone (ea a)) >>= fun c => some (!c)) = _; rw [hn]; rfl
theorem o_isB (x y : Bool) : appCmp .is (eB x) (eB y) = some (eB (x == y)) := rfl
theorem o_nsB (x y : Bool) : appCmp .isnot (eB x) (eB y) = some (eB (!(x == y))) := rfl
/-! dicts -/
theorem keys_I (kvs : List (Int × α)) (k : Int) : keysOk (kvs.map fun p => (eI p.1, ea p.2)) (eI k) = true := by
  unfold keysOk
  rw [Bool.or_eq_true]
  left
  show (true && _) = true
  rw [Bool.true_and, List.all_map, List.all_eq_true]
  intro p _; rfl
/-- keys that are tuples -/
def KeyE {κ : Type} (ek : κ → D) : Prop := ∀ k, keyT (ek k) = true
theorem keys_T {κ : Type} {ek : κ → D} (h : KeyE ek) (kvs : List (κ × α)) (k : κ) : keysOk (kvs.map fun p => (ek p.1, ea p.2)) (ek k) = true := by
  unfold keysOk
  rw [Bool.or_eq_true]
  right
  rw [h k, Bool.true_and, List.all_map, List.all_eq_true]
  intro p _; exact h p.1
/-- what a dict holds at a key: the first entry of it -/
def dGet {κ α : Type} [DecidableEq κ] (k : κ) : List (κ × α) → Option α
  | [] => none
  | (a, b) :: r => if a = k then some b else dGet k r
def dPut {κ α : Type} [DecidableEq κ] (k : κ) (v : α) (kvs : List (κ × α)) : List (κ × α) :=
  if (dGet k kvs).isSome = true then kvs.map fun p => if p.1 = k then (p.1, v) else p else kvs ++ [(k, v)]
theorem findK_map {κ : Type} [DecidableEq κ] {ek : κ → D} {n : Nat} (q : EqE ek n) (k : κ) : ∀ kvs : List (κ × α), findK (ek k) (kvs.map fun p => (ek p.1, ea p.2)) = (dGet k kvs).map ea
  | [] => rfl
  | (a, b) :: r => by
    show (if eqD (ek a) (ek k) = true then some (ea b) else findK (ek k) (r.map fun p => (ek p.1, ea p.2))) = _
    rw [q.eq, findK_map q k r]
    show _ = (if a = k then some b else dGet k r).map ea
    by_cases h : a = k <;> simp [h]
theorem putK_map {κ : Type} [DecidableEq κ] {ek : κ → D} {n : Nat} (q : EqE ek n) (k : κ) (v : α) (kvs : List (κ × α)) : putK (ek k) (ea v) (kvs.map fun p => (ek p.1, ea p.2)) = (dPut k v kvs).map fun p => (ek p.1, ea p.2) := by
  unfold putK dPut
  rw [findK_map q, Option.isSome_map]
  cases (dGet k kvs).isSome with
  | true =>
    rw [if_pos rfl, if_pos rfl, List.map_map, List.map_map]
    refine List.map_congr_left fun p _ => ?_
    show (if eqD (ek p.1) (ek k) = true then _ else _) = _
    rw [q.eq]
    by_cases h : p.1 = k <;> simp [h]
  | false =>
    rw [if_neg (by decide), if_neg (by decide), List.map_append]; rfl
theorem o_inDI (x : Int) (l : List (Int × α)) : appCmp .isin (eI x) (eD eI ea l) = some (eB (dGet x l).isSome) := by
  show boolO (if keysOk (l.map fun p => (eI p.1, ea p.2)) (eI x) = true then some (findK (eI x) (l.map fun p => (eI p.1, ea p.2))).isSome else none) = _
  rw [if_pos (keys_I l x), findK_map q_int, Option.isSome_map]; rfl
theorem o_niDI (x : Int) (l : List (Int × α)) : appCmp .notin (eI x) (eD eI ea l) = some (eB (!(dGet x l).isSome)) := by
  show boolO ((if keysOk (l.map fun p => (eI p.1, ea p.2)) (eI x) = true then some (findK (eI x) (l.map fun p => (eI p.1, ea p.2))).isSome else none) >>= fun c => some (!c)) = _
  rw [if_pos (keys_I l x), findK_map q_int, Option.isSome_map]; rfl
theorem o_inDT {κ : Type} [DecidableEq κ] {ek : κ → D} {n : Nat} (q : EqE ek n) (hk : KeyE ek) (x : κ) (l : List (κ × α)) : appCmp .isin (ek x) (eD ek ea l) = some (eB (dGet x l).isSome) := by
  show boolO (if keysOk (l.map fun p => (ek p.1, ea p.2)) (ek x) = true then some (findK (ek x) (l.map fun p => (ek p.1, ea p.2))).isSome else none) = _
  rw [if_pos (keys_T hk l x), findK_map q, Option.isSome_map]; rfl
theorem o_niDT {κ : Type} [DecidableEq κ] {ek : κ → D} {n : Nat} (q : EqE ek n) (hk : KeyE ek) (x : κ) (l : List (κ × α)) : appCmp .notin (ek x) (eD ek ea l) = some (eB (!(dGet x l).isSome)) := by
  show boolO ((if keysOk (l.map fun p => (ek p.1, ea p.2)) (ek x) = true then some (findK (ek x) (l.map fun p => (ek p.1, ea p.2))).isSome else none) >>= fun c => some (!c)) = _
  rw [if_pos (keys_T hk l x), findK_map q, Option.isSome_map]; rfl
/-! items -/
theorem atI_map (l : List α) (i : Int) : L2.atI (l.map ea) i = (L2.atI l i).map ea := by
  unfold L2.atI
  rw [List.length_map]
  cases L2.ixN l.length i with
  | none => rfl
  | some j => show (l.map ea)[j]? = (l[j]?).map ea; rw [List.getElem?_map]
def atG {α : Type} (l : List α) (i : Int) : Out α := optO (L2.atI l i)
theorem le_opt {o : Option D} {t : Option α} (h : o = t.map ea) : Le (optO o) (optO t) ea := by
  subst h
  cases t <;> first | rfl | trivial
theorem p_atU (l : List α) (i : Int) : Le (optO (appIdx (eU ea l) (eI i))) (atG l i) ea := le_opt (atI_map l i)
theorem p_atL (l : List α) (i : Int) : Le (optO (appIdx (eL ea l) (eI i))) (atG l i) ea := le_opt (atI_map l i)
def atD {κ α : Type} [DecidableEq κ] (l : List (κ × α)) (k : κ) : Out α := optO (dGet k l)
theorem p_atDI (l : List (Int × α)) (k : Int) : Le (optO (appIdx (eD eI ea l) (eI k))) (atD l k) ea := by
  show Le (optO (if keysOk (l.map fun p => (eI p.1, ea p.2)) (eI k) = true then findK (eI k) (l.map fun p => (eI p.1, ea p.2)) else none)) _ _
  rw [if_pos (keys_I l k)]
  exact le_opt (findK_map q_int k l)
theorem p_atDT {κ : Type} [DecidableEq κ] {ek : κ → D} {n : Nat} (q : EqE ek n) (hk : KeyE ek) (l : List (κ × α)) (k : κ) : Le (optO (appIdx (eD ek ea l) (ek k))) (atD l k) ea := by
  show Le (optO (if keysOk (l.map fun p => (ek p.1, ea p.2)) (ek k) = true then findK (ek k) (l.map fun p => (ek p.1, ea p.2)) else none)) _ _
  rw [if_pos (keys_T hk l k)]
  exact le_opt (findK_map q k l)
/-! one operand -/
theorem o_lenU (l : List α) : app1 .len (eU ea l) = some (eI (l.length : Int)) := by show some (PyData.int ((l.map ea).length : Int)) = _; rw [List.length_map]
theorem o_lenL (l : List α) : app1 .len (eL ea l) = some (eI (l.length : Int)) := by show some (PyData.int ((l.map ea).length : Int)) = _; rw [List.length_map]
theorem o_lenDI (l : List (Int × α)) : app1 .len (eD eI ea l) = some (eI (l.length : Int)) := by
  show (if ((l.map fun p => (eI p.1, ea p.2)).all fun p => keyOk p.1) = true then some (PyData.int ((l.map fun p => (eI p.1, ea p.2)).length : Int)) else none) = _
  rw [if_pos, List.length_map]
  rw [List.all_map, List.all_eq_true]; intro p _; rfl
theorem keyT_ok {d : D} (h : keyT d = true) : keyOk d = true := by
  unfold keyT at h
  rw [Bool.and_eq_true] at h
  cases d <;> first | rfl | (cases h.1)
theorem o_lenDT {κ : Type} {ek : κ → D} (hk : KeyE ek) (l : List (κ × α)) : app1 .len (eD ek ea l) = some (eI (l.length : Int)) := by
  show (if ((l.map fun p => (ek p.1, ea p.2)).all fun p => keyOk p.1) = true then some (PyData.int ((l.map fun p => (ek p.1, ea p.2)).length : Int)) else none) = _
  rw [if_pos, List.length_map]
  rw [List.all_map, List.all_eq_true]; intro p _; exact keyT_ok (hk p.1)
theorem o_abs (x : Int) : app1 .abs (eI x) = some (eI (if x < 0 then -x else x)) := rfl
theorem o_int (x : Int) : app1 .int (eI x) = some (eI x) := rfl
theorem o_intB (x : Bool) : app1 .int (eB x) = some (eI (if x then 1 else 0)) := rfl
theorem intsD_map : ∀ l : List Int, intsD (l.map eI) = some l
  | [] => rfl
  | a :: l => by show (intsD (l.map eI)).map (a :: ·) = _; rw [intsD_map l]; rfl
theorem boolsD_map : ∀ l : List Bool, boolsD (l.map eB) = some l
  | [] => rfl
  | a :: l => by show (boolsD (l.map eB)).map (a :: ·) = _; rw [boolsD_map l]; rfl
theorem o_sum (l : List Int) : app1 .sum (eL eI l) = some (eI l.sum) := by show (intsD (l.map eI)).map _ = _; rw [intsD_map]; rfl
theorem o_sumU (l : List Int) : app1 .sum (eU eI l) = some (eI l.sum) := by show (intsD (l.map eI)).map _ = _; rw [intsD_map]; rfl
theorem o_all (l : List Bool) : app1 .all (eL eB l) = some (eB (l.all id)) := by show (boolsD (l.map eB)).map _ = _; rw [boolsD_map]; rfl
theorem o_any (l : List Bool) : app1 .any (eL eB l) = some (eB (l.any id)) := by show (boolsD (l.map eB)).map _ = _; rw [boolsD_map]; rfl
theorem o_toLU (l : List α) : toLD (eU ea l) = some (eL ea l) := rfl
theorem o_toLL (l : List α) : toLD (eL ea l) = some (eL ea l) := rfl
theorem o_toTU (l : List α) : toTD (eU ea l) = some (eU ea l) := rfl
theorem o_toTL (l : List α) : toTD (eL ea l) = some (eU ea l) := rfl
theorem o_revL (l : List α) : revLD (eL ea l) = some (eL ea l.reverse) := by show some (PyData.list (l.map ea).reverse) = _; rw [← List.map_reverse]; rfl
theorem o_neg (x : Int) : negD (eI x) = some (eI (-x)) := rfl
theorem o_min2 (x y : Int) : app2 .min (eI x) (eI y) = some (eI (if y < x then y else x)) := rfl
theorem o_max2 (x y : Int) : app2 .max (eI x) (eI y) = some (eI (if y > x then y else x)) := rfl
theorem isi_int (x : Int) : boolO1 .int (eI x) = some (eB true) := rfl
end
end Fw

set_option Elab.async false
set_option linter.all false
set_option maxRecDepth 100000
set_option maxHeartbeats 4000000
namespace Fw
open PySem
section
variable {Λ : Env} {S S1 S2 S3 α β γ δ ε : Type} {w : S → FS} {w1 : S1 → FS} {w2 : S2 → FS} {w3 : S3 → FS} {a b c d : IR} {ea : α → D} {eb : β → D} {ec : γ → D} {ed : δ → D} {ee : ε → D}
/-! ### displays and arguments -/
/-- a row of things, each read -/
def AT (Λ : Env) (w : S → FS) (ir : IR) (es : α → List D) (g : S → α) : Prop := ∀ s, sem Λ ir (w s) = .ok (.tuple (es (g s)), w s)
def AP (Λ : Env) (w : S → FS) (ir : IR) (es : α → List D) (f : S → Out α) : Prop := ∀ s, Le (sem Λ ir (w s)) (f s) fun x => (.tuple (es x), w s)
def AG (Λ : Env) (w : S → FS) (w1 : S1 → FS) (ir : IR) (es : α → List D) (f : S → Out (α × S1)) : Prop := ∀ s, Le (sem Λ ir (w s)) (f s) fun p => (.tuple (es p.1), w1 p.2)
theorem AT.p {es : α → List D} {g : S → α} (h : AT Λ w a es g) : AP Λ w a es fun s => .ok (g s) := fun s => h s
theorem AT.g {es : α → List D} {g : S → α} (h : AT Λ w a es g) : AG Λ w w a es fun s => .ok (g s, s) := fun s => h s
theorem AP.g {es : α → List D} {f : S → Out α} (h : AP Λ w a es f) : AG Λ w w a es fun s => f s >>= fun x => .ok (x, s) := fun s => by
  have q := h s
  show Le _ (f s >>= fun x => .ok (x, s)) _
  cases hf : f s with
  | ok c => rw [hf] at q; exact q
  | err c x => rw [hf] at q; exact q
  | bad => trivial
theorem at_nil : AT Λ w .nil a0 fun _ => () := fun s => rfl
theorem at_cons {es : β → List D} {g : S → α} {h : S → β} (ha : XT Λ w a ea g) (hb : AT Λ w b es h) : AT Λ w (.cons a b) (ac ea es) fun s => (g s, h s) := fun s => by
  show (sem Λ a (w s) >>= _) = _
  rw [ha s]
  show (sem Λ b (w s) >>= _) = _
  rw [hb s]; rfl
theorem ap_cons {es : β → List D} {f : S → Out α} {g : S → Out β} (ha : XQ Λ w a ea f) (hb : AP Λ w b es g) : AP Λ w (.cons a b) (ac ea es) fun s => f s >>= fun x => g s >>= fun y => .ok (x, y) := fun s => by
  refine (ha s).bind fun x => (hb s).bind fun y => ?_
  exact rfl
theorem ag_cons {es : β → List D} {f : S → Out (α × S1)} {g : S1 → Out (β × S2)} (ha : XG Λ w w1 a ea f) (hb : AG Λ w1 w2 b es g) : AG Λ w w2 (.cons a b) (ac ea es) fun s => f s >>= fun x => g x.2 >>= fun y => .ok ((x.1, y.1), y.2) := fun s => by
  refine (ha s).bind fun x => (hb x.2).bind fun y => ?_
  exact rfl
/-- a tuple written out, seen as a k of its items -/
theorem xt_tup {es : α → List D} {g : S → α} {k : α → β} (h : AT Λ w a es g) (hk : ∀ x, eb (k x) = .tuple (es x)) (hl : ∀ x, fitsL (es x).length = true) : XT Λ w (.tup a) eb fun s => k (g s) := fun s => by
  show (sem Λ a (w s) >>= _) = _
  rw [h s]
  show (if fitsL (es (g s)).length = true then _ else _) = _
  rw [if_pos (hl _), hk]
theorem xp_tup {es : α → List D} {f : S → Out α} {k : α → β} (h : AP Λ w a es f) (hk : ∀ x, eb (k x) = .tuple (es x)) (hl : ∀ x, fitsL (es x).length = true) : XQ Λ w (.tup a) eb fun s => f s >>= fun x => .ok (k x) := fun s => by
  refine (h s).bind fun x => ?_
  show (if fitsL (es x).length = true then _ else _) = _
  rw [if_pos (hl _)]
  show _ = Out.ok (eb (k x), w s)
  rw [hk]
theorem xg_tup {es : α → List D} {f : S → Out (α × S1)} {k : α → β} (h : AG Λ w w1 a es f) (hk : ∀ x, eb (k x) = .tuple (es x)) (hl : ∀ x, fitsL (es x).length = true) : XG Λ w w1 (.tup a) eb fun s => f s >>= fun x => .ok (k x.1, x.2) := fun s => by
  refine (h s).bind fun x => ?_
  show (if fitsL (es x.1).length = true then _ else _) = _
  rw [if_pos (hl _)]
  show _ = Out.ok (eb (k x.1), w1 x.2)
  rw [hk]
theorem xt_lst {es : α → List D} {g : S → α} {k : α → β} (h : AT Λ w a es g) (hk : ∀ x, eb (k x) = .list (es x)) (hl : ∀ x, fitsL (es x).length = true) : XT Λ w (.lst a) eb fun s => k (g s) := fun s => by
  show (sem Λ a (w s) >>= _) = _
  rw [h s]
  show (if fitsL (es (g s)).length = true then _ else _) = _
  rw [if_pos (hl _), hk]
theorem xp_lst {es : α → List D} {f : S → Out α} {k : α → β} (h : AP Λ w a es f) (hk : ∀ x, eb (k x) = .list (es x)) (hl : ∀ x, fitsL (es x).length = true) : XQ Λ w (.lst a) eb fun s => f s >>= fun x => .ok (k x) := fun s => by
  refine (h s).bind fun x => ?_
  show (if fitsL (es x).length = true then _ else _) = _
  rw [if_pos (hl _)]
  show _ = Out.ok (eb (k x), w s)
  rw [hk]
theorem xg_lst {es : α → List D} {f : S → Out (α × S1)} {k : α → β} (h : AG Λ w w1 a es f) (hk : ∀ x, eb (k x) = .list (es x)) (hl : ∀ x, fitsL (es x).length = true) : XG Λ w w1 (.lst a) eb fun s => f s >>= fun x => .ok (k x.1, x.2) := fun s => by
  refine (h s).bind fun x => ?_
  show (if fitsL (es x.1).length = true then _ else _) = _
  rw [if_pos (hl _)]
  show _ = Out.ok (eb (k x.1), w1 x.2)
  rw [hk]
theorem xt_emp {κ : Type} {ek : κ → D} : XT Λ w .emp (eD ek ea) fun _ => [] := fun s => rfl

/-! a written right operand -/
theorem sem2_cst {op : D → D → Option D} {k : D} : sem2 Λ op a (.cst k) = sem1 Λ (fun x => op x k) a := by
  funext ŝ
  unfold sem2 sem1
  cases h : sem Λ a ŝ with
  | bad => rfl
  | err c x => rfl
  | ok p =>
    show (optO (late a p.2 p.1) >>= fun d => optO (op d k) >>= fun r => (.ok (r, p.2) : Out (D × FS))) = (optO (op p.1 k) >>= fun r => .ok (r, p.2))
    have : late a p.2 p.1 = some p.1 := by
      cases a with
      | bor i =>
        have h : (optO (readS ŝ i) >>= fun d => (.ok (d, ŝ) : Out (D × FS))) = .ok p := h
        show readS p.2 i = some p.1
        cases e : readS ŝ i with
        | none => rw [e] at h; cases h
        | some x => rw [e] at h; cases h; exact e
      | _ => rfl
    rw [this]; rfl
/-! parts -/
def BP (Λ : Env) (w : S → FS) (w1 : S1 → FS) (ir : IR) (f : S → Out (Option Int × S1)) : Prop := ∀ s, Le (sem Λ ir (w s) >>= fun q => optO (partN ir q.1) >>= fun l => .ok (l, q.2)) (f s) fun p => (p.1, w1 p.2)
theorem bp_none : BP Λ w w (.cst .none) fun s => .ok (none, s) := fun s => rfl
theorem partN_int {ir : IR} {i : Int} (h : isNoneC ir = false) : partN ir (.int i) = some (some i) := by
  unfold partN
  split
  · cases h
  · rename_i e; cases e; rfl
  · rename_i h1 h2; exact absurd rfl (h2 i)
theorem bp_int {f : S → Out (Int × S1)} (hn : isNoneC a = false) (h : XG Λ w w1 a eI f) : BP Λ w w1 a fun s => f s >>= fun p => .ok (some p.1, p.2) := fun s => by
  refine (h s).bind fun p => ?_
  show Le (optO (partN a (.int p.1)) >>= _) _ _
  rw [partN_int hn]
  exact rfl
theorem bp_intT {g : S → Int} (hn : isNoneC a = false) (h : XT Λ w a eI g) : BP Λ w w a fun s => .ok (some (g s), s) := fun s => by
  rw [h s]
  show Le (optO (partN a (.int (g s))) >>= _) _ _
  rw [partN_int hn]
  exact rfl
theorem cut_map (l : List α) (lo hi : Option Int) : cutA (l.map ea) lo hi = (cutA l lo hi).map ea := by
  unfold cutA
  rw [List.map_take, List.map_drop, List.length_map]
theorem bp_pure {f : S → Out (Option Int × S)} (h : BP Λ w w b f) (s : S) : True := trivial
theorem xg_sliU {lo hi : IR} {f : S → Out (List α × S1)} {l : S1 → Out (Option Int × S2)} {u : S2 → Out (Option Int × S3)} (hn : isBor a = false) (ha : XG Λ w w1 a (eU ea) f) (hl : BP Λ w1 w2 lo l) (hu : BP Λ w2 w3 hi u) :
    XG Λ w w3 (.sli a lo hi) (eU ea) fun s => f s >>= fun x => l x.2 >>= fun y => u y.2 >>= fun z => .ok (cutA x.1 y.1 z.1, z.2) := fun s => by
  refine (ha s).bind fun x => ?_
  have hl := hl x.2
  have hu := fun y => hu y
  show Le (sem Λ lo (w1 x.2) >>= fun q => optO (partN lo q.1) >>= fun l => sem Λ hi q.2 >>= fun z => optO (partN hi z.1) >>= fun h => optO (late a z.2 (eU ea x.1)) >>= fun d => optO (sliT d l h) >>= fun r => (.ok (r, z.2) : Out (D × FS))) _ _
  have e : (sem Λ lo (w1 x.2) >>= fun q => optO (partN lo q.1) >>= fun l => sem Λ hi q.2 >>= fun z => optO (partN hi z.1) >>= fun h => optO (late a z.2 (eU ea x.1)) >>= fun d => optO (sliT d l h) >>= fun r => (.ok (r, z.2) : Out (D × FS))) =
      ((sem Λ lo (w1 x.2) >>= fun q => optO (partN lo q.1) >>= fun l => (.ok (l, q.2) : Out (Option Int × FS))) >>= fun y => (sem Λ hi y.2 >>= fun z => optO (partN hi z.1) >>= fun h => (.ok (h, z.2) : Out (Option Int × FS))) >>= fun z => optO (late a z.2 (eU ea x.1)) >>= fun d => optO (sliT d y.1 z.1) >>= fun r => (.ok (r, z.2) : Out (D × FS))) := by
    simp only [bind_assoc, bind_ok]
  rw [e]
  refine hl.bind fun y => (hu y.2).bind fun z => ?_
  rw [late_nb hn]
  show Le (Out.ok (PyData.tuple (cutA (x.1.map ea) y.1 z.1), w3 z.2)) _ _
  rw [cut_map]
  exact rfl
theorem xt_sliU {lo hi : IR} {g : S → List α} {l u : S → Option Int} (ha : XT Λ w a (eU ea) g) (hl : BP Λ w w lo fun s => .ok (l s, s)) (hu : BP Λ w w hi fun s => .ok (u s, s)) :
    XT Λ w (.sli a lo hi) (eU ea) fun s => cutA (g s) (l s) (u s) := fun s => by
  have e : sem Λ (.sli a lo hi) (w s) = (sem Λ a (w s) >>= fun p => (sem Λ lo p.2 >>= fun q => optO (partN lo q.1) >>= fun l => (.ok (l, q.2) : Out (Option Int × FS))) >>= fun y => (sem Λ hi y.2 >>= fun z => optO (partN hi z.1) >>= fun h => (.ok (h, z.2) : Out (Option Int × FS))) >>= fun z => optO (late a z.2 p.1) >>= fun d => optO (sliT d y.1 z.1) >>= fun r => (.ok (r, z.2) : Out (D × FS))) := by
    simp only [bind_assoc, bind_ok]; rfl
  rw [e, ha s]
  have hl : _ = Out.ok (l s, w s) := hl s
  have hu : _ = Out.ok (u s, w s) := hu s
  show ((sem Λ lo (w s) >>= fun q => optO (partN lo q.1) >>= fun l => (.ok (l, q.2) : Out (Option Int × FS))) >>= _) = _
  rw [hl]
  show ((sem Λ hi (w s) >>= fun q => optO (partN hi q.1) >>= fun l => (.ok (l, q.2) : Out (Option Int × FS))) >>= _) = _
  rw [hu]
  show (optO (late a (w s) (eU ea (g s))) >>= _) = _
  rw [late_pure (ha s)]
  show Out.ok (PyData.tuple (cutA ((g s).map ea) (l s) (u s)), w s) = _
  rw [cut_map]; rfl
theorem xt_sliL {lo hi : IR} {g : S → List α} {l u : S → Option Int} (ha : XT Λ w a (eL ea) g) (hl : BP Λ w w lo fun s => .ok (l s, s)) (hu : BP Λ w w hi fun s => .ok (u s, s)) :
    XT Λ w (.sliL a lo hi) (eL ea) fun s => cutA (g s) (l s) (u s) := fun s => by
  have e : sem Λ (.sliL a lo hi) (w s) = (sem Λ a (w s) >>= fun p => (sem Λ lo p.2 >>= fun q => optO (partN lo q.1) >>= fun l => (.ok (l, q.2) : Out (Option Int × FS))) >>= fun y => (sem Λ hi y.2 >>= fun z => optO (partN hi z.1) >>= fun h => (.ok (h, z.2) : Out (Option Int × FS))) >>= fun z => optO (late a z.2 p.1) >>= fun d => optO (sliLD d y.1 z.1) >>= fun r => (.ok (r, z.2) : Out (D × FS))) := by
    simp only [bind_assoc, bind_ok]; rfl
  rw [e, ha s]
  have hl : _ = Out.ok (l s, w s) := hl s
  have hu : _ = Out.ok (u s, w s) := hu s
  show ((sem Λ lo (w s) >>= fun q => optO (partN lo q.1) >>= fun l => (.ok (l, q.2) : Out (Option Int × FS))) >>= _) = _
  rw [hl]
  show ((sem Λ hi (w s) >>= fun q => optO (partN hi q.1) >>= fun l => (.ok (l, q.2) : Out (Option Int × FS))) >>= _) = _
  rw [hu]
  show (optO (late a (w s) (eL ea (g s))) >>= _) = _
  rw [late_pure (ha s)]
  show Out.ok (PyData.list (cutA ((g s).map ea) (l s) (u s)), w s) = _
  rw [cut_map]; rfl
/-! what is walked: a list of things -/
def rng (lo hi : Int) : List Int := (List.range (hi - lo).toNat).map fun i => lo + (i : Nat)
theorem rng_map (lo hi : Int) : rngL lo hi = (rng lo hi).map eI := by unfold rngL rng; rw [List.map_map]; rfl
@[irreducible] def rngG (lo hi : Int) : Out (List Int) := if (rngOk lo && rngOk hi) = true then .ok (rng lo hi) else .bad
@[irreducible] def rng0 (hi : Int) : Out (List Int) := if rngOk hi = true then .ok (rng 0 hi) else .bad
@[irreducible] def rngC (hi : Int) : Out (List Int) := if decide (-(2 ^ 62) ≤ hi ∧ hi ≤ 16777216) = true then .ok (rng 0 hi) else .bad
def enumT {α : Type} : Nat → List α → List (Int × α)
  | _, [] => []
  | n, a :: r => ((n : Int), a) :: enumT (n + 1) r
theorem enum_map : ∀ (n : Nat) (l : List α), enumL n (l.map ea) = (enumT n l).map (e2 eI ea)
  | _, [] => rfl
  | n, a :: r => by
    show PyData.tuple _ :: enumL (n + 1) (r.map ea) = _
    rw [enum_map (n + 1) r]; rfl
theorem zip_map : ∀ (l : List α) (m : List β), zipL (l.map ea) (m.map eb) = (l.zip m).map (e2 ea eb)
  | [], _ => by cases ‹List β› <;> rfl
  | _ :: _, [] => rfl
  | a :: l, b :: m => by
    show PyData.tuple _ :: zipL (l.map ea) (m.map eb) = _
    rw [zip_map l m]; rfl
def seqLD (d : D) : Option D := (seqD d).map PyData.list
theorem sem_iseq : sem Λ (.iseq a) = sem1 Λ seqLD a := by
  funext ŝ
  show (sem Λ a ŝ >>= fun p => optO (seqD p.1) >>= fun l => (.ok (PyData.list l, p.2) : Out (D × FS))) = (sem Λ a ŝ >>= fun p => optO (seqLD p.1) >>= fun r => .ok (r, p.2))
  cases sem Λ a ŝ with
  | ok p =>
    show (optO (seqD p.1) >>= fun l => (.ok (PyData.list l, p.2) : Out (D × FS))) = (optO (seqLD p.1) >>= fun r => .ok (r, p.2))
    unfold seqLD
    cases seqD p.1 <;> rfl
  | err c x => rfl
  | bad => rfl
theorem o_seqU (l : List α) : seqLD (eU ea l) = some (eL ea l) := rfl
theorem o_seqL (l : List α) : seqLD (eL ea l) = some (eL ea l) := rfl
def enumLD (d : D) : Option D := (seqD d).map fun l => PyData.list (enumL 0 l)
theorem sem_ienum : sem Λ (.ienum a) = sem1 Λ enumLD a := by
  funext ŝ
  show (sem Λ a ŝ >>= fun p => optO (seqD p.1) >>= fun l => (.ok (PyData.list (enumL 0 l), p.2) : Out (D × FS))) = (sem Λ a ŝ >>= fun p => optO (enumLD p.1) >>= fun r => .ok (r, p.2))
  cases sem Λ a ŝ with
  | ok p =>
    show (optO (seqD p.1) >>= fun l => (.ok (PyData.list (enumL 0 l), p.2) : Out (D × FS))) = (optO (enumLD p.1) >>= fun r => .ok (r, p.2))
    unfold enumLD
    cases seqD p.1 <;> rfl
  | err c x => rfl
  | bad => rfl
theorem o_enumU (l : List α) : enumLD (eU ea l) = some (eL (e2 eI ea) (enumT 0 l)) := by show some (PyData.list (enumL 0 (l.map ea))) = _; rw [enum_map]; rfl
theorem o_enumL (l : List α) : enumLD (eL ea l) = some (eL (e2 eI ea) (enumT 0 l)) := by show some (PyData.list (enumL 0 (l.map ea))) = _; rw [enum_map]; rfl
def rng0D (d : D) : Option D := match d with
  | .int j => if rngOk j = true then some (PyData.list (rngL 0 j)) else none
  | _ => none
theorem sem_irng : sem Λ (.irng a) = sem1 Λ rng0D a := by
  funext ŝ
  show (sem Λ a ŝ >>= fun p => match p.1 with
      | .int j => if rngOk j = true then (.ok (PyData.list (rngL 0 j), p.2) : Out (D × FS)) else .bad
      | _ => .bad) = (sem Λ a ŝ >>= fun p => optO (rng0D p.1) >>= fun r => .ok (r, p.2))
  cases sem Λ a ŝ with
  | ok p =>
    obtain ⟨d, s⟩ := p
    cases d with
    | int j =>
      show (if rngOk j = true then (.ok (PyData.list (rngL 0 j), s) : Out (D × FS)) else .bad) = (optO (if rngOk j = true then some (PyData.list (rngL 0 j)) else none) >>= fun r => .ok (r, s))
      cases rngOk j <;> rfl
    | _ => rfl
  | err c x => rfl
  | bad => rfl
theorem p_rng0 (x : Int) : Le (optO (rng0D (eI x))) (rng0 x) (eL eI) := by
  show Le (optO (if rngOk x = true then some (PyData.list (rngL 0 x)) else none)) _ _
  unfold rng0
  rw [rng_map]
  cases rngOk x <;> first | rfl | trivial
theorem o_rngc (c : Int) (h : rngOk c = true) : rng0D (eI c) = some (eL eI (rng 0 c)) := by
  show (if rngOk c = true then some (PyData.list (rngL 0 c)) else none) = _
  rw [if_pos h, rng_map]; rfl
def rng2D (x y : D) : Option D := match x, y with
  | .int i, .int j => if (rngOk i && rngOk j) = true then some (PyData.list (rngL i j)) else none
  | _, _ => none
/-- two operands, neither borrowed -/
def semN (Λ : Env) (op : D → D → Option D) (a b : IR) (ŝ : FS) : Out (D × FS) := sem Λ a ŝ >>= fun p => sem Λ b p.2 >>= fun q => optO (op p.1 q.1) >>= fun r => .ok (r, q.2)
variable {op : D → D → Option D}
theorem xtN {ga : S → α} {gb : S → β} {h : α → β → γ} (ho : ∀ x y, op (ea x) (eb y) = some (ec (h x y))) (ha : XT Λ w a ea ga) (hb : XT Λ w b eb gb) : ∀ s, semN Λ op a b (w s) = .ok (ec (h (ga s) (gb s)), w s) := fun s => by
  unfold semN
  rw [ha s]
  show (sem Λ b (w s) >>= _) = _
  rw [hb s]
  show (optO (op _ _) >>= _) = _
  rw [ho]; rfl
theorem xpN {fa : S → Out α} {fb : S → Out β} {h : α → β → Out γ} (ho : ∀ x y, Le (optO (op (ea x) (eb y))) (h x y) ec) (ha : XQ Λ w a ea fa) (hb : XQ Λ w b eb fb) : ∀ s, Le (semN Λ op a b (w s)) (fa s >>= fun x => fb s >>= fun y => h x y) fun z => (ec z, w s) := fun s => by
  unfold semN
  refine (ha s).bind fun x => (hb s).bind fun y => ?_
  exact (ho x y).map fun _ => rfl
theorem xgN {fa : S → Out (α × S1)} {fb : S1 → Out (β × S2)} {h : α → β → Out γ} (ho : ∀ x y, Le (optO (op (ea x) (eb y))) (h x y) ec) (ha : XG Λ w w1 a ea fa) (hb : XG Λ w1 w2 b eb fb) :
    ∀ s, Le (semN Λ op a b (w s)) (fa s >>= fun p => fb p.2 >>= fun q => h p.1 q.1 >>= fun z => .ok (z, q.2)) fun z => (ec z.1, w2 z.2) := fun s => by
  unfold semN
  refine (ha s).bind fun p => (hb p.2).bind fun q => ?_
  exact (ho p.1 q.1).bind fun _ => rfl
theorem sem_b2 {k : B2} : sem Λ (.b2 k a b) = semN Λ (app2 k) a b := rfl
theorem sem_irng2 : sem Λ (.irng2 a b) = semN Λ rng2D a b := by
  funext ŝ
  show (sem Λ a ŝ >>= fun p => sem Λ b p.2 >>= fun q => match p.1, q.1 with
      | .int i, .int j => if (rngOk i && rngOk j) = true then (.ok (PyData.list (rngL i j), q.2) : Out (D × FS)) else .bad
      | _, _ => .bad) = (sem Λ a ŝ >>= fun p => sem Λ b p.2 >>= fun q => optO (rng2D p.1 q.1) >>= fun r => .ok (r, q.2))
  congr 1; funext p; congr 1; funext q
  obtain ⟨d, s⟩ := p
  obtain ⟨e, t⟩ := q
  cases d with
  | int i =>
    cases e with
    | int j =>
      show (if (rngOk i && rngOk j) = true then (.ok (PyData.list (rngL i j), t) : Out (D × FS)) else .bad) = (optO (if (rngOk i && rngOk j) = true then some (PyData.list (rngL i j)) else none) >>= fun r => .ok (r, t))
      cases (rngOk i && rngOk j) <;> rfl
    | _ => rfl
  | _ => rfl
theorem p_rng2 (x y : Int) : Le (optO (rng2D (eI x) (eI y))) (rngG x y) (eL eI) := by
  show Le (optO (if (rngOk x && rngOk y) = true then some (PyData.list (rngL x y)) else none)) _ _
  unfold rngG
  rw [rng_map]
  cases (rngOk x && rngOk y) <;> first | rfl | trivial
def zipLD (x y : D) : Option D := match seqD x, seqD y with
  | some l, some m => some (.list (zipL l m))
  | _, _ => none
def enzLD (x y : D) : Option D := match seqD x, seqD y with
  | some l, some m => some (.list (enumL 0 (zipL l m)))
  | _, _ => none
theorem sem_izip : sem Λ (.izip a b) = semN Λ zipLD a b := by
  funext ŝ
  show (sem Λ a ŝ >>= fun p => sem Λ b p.2 >>= fun q => optO (seqD p.1) >>= fun l => optO (seqD q.1) >>= fun m => (.ok (.list (zipL l m), q.2) : Out (D × FS))) = (sem Λ a ŝ >>= fun p => sem Λ b p.2 >>= fun q => optO (zipLD p.1 q.1) >>= fun r => .ok (r, q.2))
  congr 1; funext p; congr 1; funext q
  unfold zipLD
  cases seqD p.1 <;> cases seqD q.1 <;> rfl
theorem sem_ienz : sem Λ (.ienz a b) = semN Λ enzLD a b := by
  funext ŝ
  show (sem Λ a ŝ >>= fun p => sem Λ b p.2 >>= fun q => optO (seqD p.1) >>= fun l => optO (seqD q.1) >>= fun m => (.ok (.list (enumL 0 (zipL l m)), q.2) : Out (D × FS))) = (sem Λ a ŝ >>= fun p => sem Λ b p.2 >>= fun q => optO (enzLD p.1 q.1) >>= fun r => .ok (r, q.2))
  congr 1; funext p; congr 1; funext q
  unfold enzLD
  cases seqD p.1 <;> cases seqD q.1 <;> rfl
theorem isSeq_U (l : List α) : seqD (eU ea l) = some (l.map ea) := rfl
theorem isSeq_L (l : List α) : seqD (eL ea l) = some (l.map ea) := rfl
theorem o_zip {x : D} {y : D} {l : List α} {m : List β} (hx : seqD x = some (l.map ea)) (hy : seqD y = some (m.map eb)) : zipLD x y = some (eL (e2 ea eb) (l.zip m)) := by
  unfold zipLD; rw [hx, hy]
  show some (PyData.list (zipL _ _)) = _
  rw [zip_map]; rfl
theorem o_enz {x : D} {y : D} {l : List α} {m : List β} (hx : seqD x = some (l.map ea)) (hy : seqD y = some (m.map eb)) : enzLD x y = some (eL (e2 eI (e2 ea eb)) (enumT 0 (l.zip m))) := by
  unfold enzLD; rw [hx, hy]
  show some (PyData.list (enumL 0 (zipL _ _))) = _
  rw [zip_map, enum_map]; rfl
def rngLD (x : D) : Option D := (rngD x).map PyData.list
def rngTD (x : D) : Option D := (rngD x).map PyData.tuple
theorem sem_rngL : sem Λ (.rngL a) = sem1 Λ rngLD a := by
  funext ŝ
  show (sem Λ a ŝ >>= fun p => optO (rngD p.1) >>= fun l => (.ok (PyData.list l, p.2) : Out (D × FS))) = (sem Λ a ŝ >>= fun p => optO (rngLD p.1) >>= fun r => .ok (r, p.2))
  congr 1; funext p
  unfold rngLD
  cases rngD p.1 <;> rfl
theorem sem_rngT : sem Λ (.rngT a) = sem1 Λ rngTD a := by
  funext ŝ
  show (sem Λ a ŝ >>= fun p => optO (rngD p.1) >>= fun l => (.ok (PyData.tuple l, p.2) : Out (D × FS))) = (sem Λ a ŝ >>= fun p => optO (rngTD p.1) >>= fun r => .ok (r, p.2))
  congr 1; funext p
  unfold rngTD
  cases rngD p.1 <;> rfl
theorem p_rngL (x : Int) : Le (optO (rngLD (eI x))) (rngC x) (eL eI) := by
  unfold rngLD
  show Le (optO ((if decide (-(2 ^ 62) ≤ x ∧ x ≤ 16777216) = true then some (rngL 0 x) else none).map PyData.list)) _ _
  unfold rngC
  rw [rng_map]
  cases decide (-(2 ^ 62) ≤ x ∧ x ≤ 16777216) <;> first | rfl | trivial
theorem p_rngT (x : Int) : Le (optO (rngTD (eI x))) (rngC x) (eU eI) := by
  unfold rngTD
  show Le (optO ((if decide (-(2 ^ 62) ≤ x ∧ x ≤ 16777216) = true then some (rngL 0 x) else none).map PyData.tuple)) _ _
  unfold rngC
  rw [rng_map]
  cases decide (-(2 ^ 62) ≤ x ∧ x ≤ 16777216) <;> first | rfl | trivial
/-! ### comprehensions -/
def turnL (Λ : Env) (vs : List Nat) (p : Pat) (cond elt : IR) (x : D) (s : FS) : Out (List D × FS) := noErr (optO (bindP p x (wipeF s vs)) >>= fun s1 => sem Λ cond s1 >>= fun c => optO (tstD c.1) >>= fun t =>
        if t = true then sem Λ elt c.2 >>= fun e => .ok ([e.1], e.2) else .ok ([], c.2))
theorem sem_lc_eq {own : List (Str × Nat)} {p : Pat} {src cond elt : IR} {ŝ : FS} : sem Λ (.lc own p src cond elt) ŝ = (sem Λ src ŝ >>= fun q => optO (lstD q.1) >>= fun l =>
      if noneOwn q.2 (own.map (·.2)) = true then lcLoop (turnL Λ (own.map (·.2)) p cond elt) l [] q.2 >>= fun r => .ok (.list r.1, backF q.2 r.2 (own.map (·.2))) else .bad) := rfl
/-- a typed comprehension; what stands in slots goes along -/
def lcT {X Y T : Type} (turn : X → T → Out (Option Y × T)) : List X → T → Out (List Y × T)
  | [], t => .ok ([], t)
  | x :: l, t => noErr (turn x t) >>= fun p => lcT turn l p.2 >>= fun q => .ok (p.1.toList ++ q.1, q.2)
/-- .. that changes nothing -/
def lcP {X Y : Type} (turn : X → Out (Option Y)) : List X → Out (List Y)
  | [] => .ok []
  | x :: l => noErr (turn x) >>= fun p => lcP turn l >>= fun q => .ok (p.toList ++ q)
theorem noErr_okd {x : Out α} {y : α} (h : noErr x = .ok y) : x = .ok y := by
  cases x <;> first | exact h | cases h
theorem bind_okd {x : Out α} {f : α → Out β} {y : β} (h : (x >>= f) = .ok y) : ∃ z, x = .ok z ∧ f z = .ok y := by
  cases x with
  | ok z => exact ⟨z, rfl, h⟩
  | err c x => cases h
  | bad => cases h
theorem lcT_run {X Y T : Type} {turn : X → T → Out (Option Y × T)} {dt : D → FS → Out (List D × FS)} {ex : X → D} {ey : Y → D} {I : T → FS → Prop} (ht : ∀ x t ŝ, I t ŝ → ∀ y t', turn x t = .ok (y, t') → ∃ ŝ', dt (ex x) ŝ = .ok (y.toList.map ey, ŝ') ∧ I t' ŝ') :
    ∀ (l : List X) (t : T) (ŝ : FS) (acc : List D) (ys : List Y) (t' : T), I t ŝ → lcT turn l t = .ok (ys, t') → acc.length + ys.length ≤ sizeLine → ∃ ŝ', lcLoop dt (l.map ex) acc ŝ = .ok (acc ++ ys.map ey, ŝ') ∧ I t' ŝ'
  | [], t, ŝ, acc, ys, t', h0, h, _ => by
    cases h
    exact ⟨ŝ, by simp [lcLoop], h0⟩
  | x :: l, t, ŝ, acc, ys, t', h0, h, hz => by
    obtain ⟨p, h1, h2⟩ := bind_okd h
    obtain ⟨q, h3, h4⟩ := bind_okd h2
    cases h4
    obtain ⟨s1, e1, i1⟩ := ht x t ŝ h0 p.1 p.2 (noErr_okd h1)
    have hz' : (acc ++ p.1.toList.map ey).length + q.1.length ≤ sizeLine := by
      rw [List.length_append] at hz ⊢
      rw [List.length_map]; omega
    obtain ⟨s2, e2, i2⟩ := lcT_run ht l p.2 s1 (acc ++ p.1.toList.map ey) q.1 q.2 i1 h3 hz'
    refine ⟨s2, ?_, i2⟩
    rw [List.map_cons]
    unfold lcLoop
    rw [e1, bind_ok, if_pos, e2, List.map_append, List.append_assoc]
    unfold fitsL
    rw [decide_eq_true_eq]
    rw [List.length_append] at hz'
    show acc.length + (p.1.toList.map ey).length ≤ _
    omega
theorem wipe_len (ŝ : FS) : ∀ vs : List Nat, (wipeF ŝ vs).length = ŝ.length
  | [] => rfl
  | v :: vs => by
    show ((wipeF ŝ vs).set v none).length = _
    rw [List.length_set, wipe_len ŝ vs]
/-- [e for x in l if c], changing slots on the way -/
theorem xg_lc {own : List (Str × Nat)} {p : Pat} {src : IR} {fs : S → Out (List α × S1)} {wt : S1 × α → FS} {fc : S1 × α → Out Bool} {fe : S1 × α → Out (β × (S1 × α))}
    (hs : XG Λ w w1 src (eL ea) fs) (hno : ∀ s, noneOwn (w1 s) (own.map (·.2)) = true) (hb : ∀ s x, bindP p (ea x) (wipeF (w1 s) (own.map (·.2))) = some (wt (s, x)))
    (hw : ∀ s x, wipeF (wt (s, x)) (own.map (·.2)) = wipeF (w1 s) (own.map (·.2))) (hk0 : ∀ s, backF (w1 s) (w1 s) (own.map (·.2)) = w1 s) (hk : ∀ s0 s x, backF (w1 s0) (wt (s, x)) (own.map (·.2)) = w1 s)
    (hc : XQ Λ wt b eB fc) (he : XG Λ wt wt c eb fe) :
    XG Λ w w1 (.lc own p src b c) (eL eb) fun s => fs s >>= fun q => lcT (fun x t => fc (t, x) >>= fun u => if u = true then fe (t, x) >>= fun z => .ok (some z.1, z.2.1) else .ok (none, t)) q.1 q.2 >>= fun r => fits r.1 >>= fun l => .ok (l, r.2) := fun s => by
  rw [sem_lc_eq]
  refine (hs s).bind fun q => ?_
  show Le (if noneOwn (w1 q.2) (own.map (·.2)) = true then _ else _) _ _
  rw [if_pos (hno _)]
  cases hL : lcT (fun x t => fc (t, x) >>= fun u => if u = true then fe (t, x) >>= fun z => (.ok (some z.1, z.2.1) : Out (Option β × S1)) else .ok (none, t)) q.1 q.2 with
  | bad => trivial
  | err xc xx =>
    exfalso
    revert hL
    generalize (fun x t => fc (t, x) >>= fun u => if u = true then fe (t, x) >>= fun z => (.ok (some z.1, z.2.1) : Out (Option β × S1)) else .ok (none, t)) = turn
    generalize q.2 = t
    generalize q.1 = l
    induction l generalizing t with
    | nil => intro h; cases h
    | cons x l ih =>
      intro h
      have h : (noErr (turn x t) >>= fun p => lcT turn l p.2 >>= fun q => (.ok (p.1.toList ++ q.1, q.2) : Out (List β × S1))) = .err xc xx := h
      cases h1 : turn x t with
      | ok p =>
        rw [h1] at h
        have h : (lcT turn l p.2 >>= fun q => (.ok (p.1.toList ++ q.1, q.2) : Out (List β × S1))) = .err xc xx := h
        cases h2 : lcT turn l p.2 with
        | ok q => rw [h2] at h; cases h
        | err c' x' => exact ih _ (by rw [h2] at h; cases h; exact h2)
        | bad => rw [h2] at h; cases h
      | err c' x' => rw [h1] at h; cases h
      | bad => rw [h1] at h; cases h
  | ok r =>
    show Le _ (fits r.1 >>= fun l => .ok (l, r.2)) _
    unfold fits
    cases hz : fitsL r.1.length with
    | false => trivial
    | true =>
      unfold fitsL at hz
      rw [decide_eq_true_eq] at hz
      obtain ⟨ŝ', e, i⟩ := lcT_run (ex := ea) (ey := eb) (dt := turnL Λ (own.map (·.2)) p b c) (I := fun t ŝ => wipeF ŝ (own.map (·.2)) = wipeF (w1 t) (own.map (·.2)) ∧ (∀ s0, (ŝ = w1 t ∧ t = q.2) ∨ backF (w1 s0) ŝ (own.map (·.2)) = w1 t)) (fun x t ŝ h y t' hy => by
        obtain ⟨u, h1, h2⟩ := bind_okd hy
        have qc : sem Λ b (wt (t, x)) = .ok (.bool u, wt (t, x)) := by have := hc (t, x); rw [h1] at this; exact this
        unfold turnL
        rw [h.1, hb]
        show ∃ ŝ', noErr (sem Λ b (wt (t, x)) >>= _) = _ ∧ _
        rw [qc]
        cases u with
        | false =>
          rw [if_neg (by decide)] at h2
          cases h2
          exact ⟨wt (t, x), rfl, hw _ _, fun s0 => .inr (hk _ _ _)⟩
        | true =>
          rw [if_pos rfl] at h2
          obtain ⟨z, h3, h4⟩ := bind_okd h2
          cases h4
          have qe : sem Λ c (wt (t, x)) = .ok (eb z.1, wt z.2) := by have := he (t, x); rw [h3] at this; exact this
          refine ⟨wt z.2, ?_, hw z.2.1 z.2.2, fun s0 => .inr (hk s0 z.2.1 z.2.2)⟩
          show noErr (sem Λ c (wt (t, x)) >>= _) = _
          rw [qe]; rfl) q.1 q.2 (w1 q.2) [] r.1 r.2 ⟨rfl, fun _ => .inl ⟨rfl, rfl⟩⟩ hL (by simpa using hz)
      show (lcLoop (turnL Λ (own.map (·.2)) p b c) (q.1.map ea) [] (w1 q.2) >>= fun r => (.ok (.list r.1, backF (w1 q.2) r.2 (own.map (·.2))) : Out (D × FS))) = _
      rw [e]
      show (.ok (.list ([] ++ r.1.map eb), backF (w1 q.2) ŝ' (own.map (·.2))) : Out (D × FS)) = _
      rcases i.2 q.2 with ⟨z1, z2⟩ | z
      · rw [z1, z2, hk0]; rfl
      · rw [z]; rfl
/-- .. changing nothing -/
theorem xp_lc {own : List (Str × Nat)} {p : Pat} {src : IR} {fs : S → Out (List α)} {wt : S × α → FS} {fc : S × α → Out Bool} {fe : S × α → Out β}
    (hs : XQ Λ w src (eL ea) fs) (hno : ∀ s, noneOwn (w s) (own.map (·.2)) = true) (hb : ∀ s x, bindP p (ea x) (wipeF (w s) (own.map (·.2))) = some (wt (s, x)))
    (hw : ∀ s x, wipeF (wt (s, x)) (own.map (·.2)) = wipeF (w s) (own.map (·.2))) (hk0 : ∀ s, backF (w s) (w s) (own.map (·.2)) = w s) (hk : ∀ s x, backF (w s) (wt (s, x)) (own.map (·.2)) = w s)
    (hc : XQ Λ wt b eB fc) (he : XQ Λ wt c eb fe) :
    XQ Λ w (.lc own p src b c) (eL eb) fun s => fs s >>= fun l => lcP (fun x => fc (s, x) >>= fun u => if u = true then fe (s, x) >>= fun z => .ok (some z) else .ok none) l >>= fun r => fits r := fun s => by
  rw [sem_lc_eq]
  refine (hs s).bind fun q => ?_
  show Le (if noneOwn (w s) (own.map (·.2)) = true then _ else _) _ _
  rw [if_pos (hno _)]
  generalize hturn : (fun x => fc (s, x) >>= fun u => if u = true then fe (s, x) >>= fun z => (.ok (some z) : Out (Option β)) else .ok none) = turn
  cases hL : lcP turn q with
  | bad => trivial
  | err xc xx =>
    exfalso
    revert hL
    generalize q = l
    induction l with
    | nil => intro h; cases h
    | cons x l ih =>
      intro h
      have h : (noErr (turn x) >>= fun p => lcP turn l >>= fun q => (.ok (p.toList ++ q) : Out (List β))) = .err xc xx := h
      cases h1 : turn x with
      | ok p =>
        rw [h1] at h
        have h : (lcP turn l >>= fun q => (.ok (p.toList ++ q) : Out (List β))) = .err xc xx := h
        cases h2 : lcP turn l with
        | ok q => rw [h2] at h; cases h
        | err c' x' => exact ih (by rw [h2] at h; cases h; exact h2)
        | bad => rw [h2] at h; cases h
      | err c' x' => rw [h1] at h; cases h
      | bad => rw [h1] at h; cases h
  | ok r =>
    show Le _ (fits r) _
    unfold fits
    cases hz : fitsL r.length with
    | false => trivial
    | true =>
      unfold fitsL at hz
      rw [decide_eq_true_eq] at hz
      have hL' : ∀ l r, lcP turn l = .ok r → lcT (fun x (_ : Unit) => turn x >>= fun y => .ok (y, ())) l () = .ok (r, ()) := by
        intro l
        induction l with
        | nil => intro r h; cases h; rfl
        | cons x l ih =>
          intro r h
          obtain ⟨p, h1, h2⟩ := bind_okd h
          obtain ⟨q, h3, h4⟩ := bind_okd h2
          cases h4
          show (noErr (turn x >>= fun y => .ok (y, ())) >>= fun p => lcT _ l p.2 >>= fun q => (.ok (p.1.toList ++ q.1, q.2) : Out (List β × Unit))) = _
          rw [noErr_okd h1]
          show (lcT _ l () >>= fun q => (.ok (p.toList ++ q.1, q.2) : Out (List β × Unit))) = _
          rw [ih q h3]; rfl
      obtain ⟨ŝ', e, i⟩ := lcT_run (ex := ea) (ey := eb) (dt := turnL Λ (own.map (·.2)) p b c) (I := fun _ ŝ => wipeF ŝ (own.map (·.2)) = wipeF (w s) (own.map (·.2)) ∧ backF (w s) ŝ (own.map (·.2)) = w s) (fun x t ŝ h y t' hy => by
        obtain ⟨y1, hy1, hy2⟩ := bind_okd hy
        cases hy2
        rw [← hturn] at hy1
        obtain ⟨u, h1, h2⟩ := bind_okd hy1
        have qc : sem Λ b (wt (s, x)) = .ok (.bool u, wt (s, x)) := by have := hc (s, x); rw [h1] at this; exact this
        unfold turnL
        rw [h.1, hb]
        show ∃ ŝ', noErr (sem Λ b (wt (s, x)) >>= _) = _ ∧ _
        rw [qc]
        cases u with
        | false =>
          rw [if_neg (by decide)] at h2
          cases h2
          exact ⟨wt (s, x), rfl, hw _ _, hk _ _⟩
        | true =>
          rw [if_pos rfl] at h2
          obtain ⟨z, h3, h4⟩ := bind_okd h2
          cases h4
          have qe : sem Λ c (wt (s, x)) = .ok (eb z, wt (s, x)) := by have := he (s, x); rw [h3] at this; exact this
          refine ⟨wt (s, x), ?_, hw _ _, hk _ _⟩
          show noErr (sem Λ c (wt (s, x)) >>= _) = _
          rw [qe]; rfl) q () (w s) [] r () ⟨rfl, hk0 _⟩ (hL' q r hL) (by simpa using hz)
      show (lcLoop (turnL Λ (own.map (·.2)) p b c) (q.map ea) [] (w s) >>= fun r => (.ok (.list r.1, backF (w s) r.2 (own.map (·.2))) : Out (D × FS))) = _
      rw [e]
      show (.ok (.list ([] ++ r.map eb), backF (w s) ŝ' (own.map (·.2))) : Out (D × FS)) = _
      rw [i.2]; rfl
theorem lcP_total {X Y : Type} (c : X → Bool) (e : X → Y) : ∀ l : List X, lcP (fun x => (Out.ok (c x) >>= fun u => if u = true then Out.ok (e x) >>= fun z => .ok (some z) else .ok none)) l = .ok ((l.filter c).map e)
  | [] => rfl
  | x :: l => by
    show (noErr (if c x = true then Out.ok (some (e x)) else .ok none) >>= fun p => lcP _ l >>= fun q => (.ok (p.toList ++ q) : Out (List Y))) = _
    rw [lcP_total c e l]
    cases h : c x with
    | true => show Out.ok ([e x] ++ _) = _; rw [List.filter_cons_of_pos h]; rfl
    | false => show Out.ok ([] ++ _) = _; rw [List.filter_cons_of_neg (by rw [h]; decide)]; rfl
/-- .. that never fails -/
theorem xt_lc {own : List (Str × Nat)} {p : Pat} {src : IR} {fs : S → Out (List α)} {wt : S × α → FS} {fc : S × α → Bool} {fe : S × α → β}
    (hs : XQ Λ w src (eL ea) fs) (hno : ∀ s, noneOwn (w s) (own.map (·.2)) = true) (hb : ∀ s x, bindP p (ea x) (wipeF (w s) (own.map (·.2))) = some (wt (s, x)))
    (hw : ∀ s x, wipeF (wt (s, x)) (own.map (·.2)) = wipeF (w s) (own.map (·.2))) (hk0 : ∀ s, backF (w s) (w s) (own.map (·.2)) = w s) (hk : ∀ s x, backF (w s) (wt (s, x)) (own.map (·.2)) = w s)
    (hc : XT Λ wt b eB fc) (he : XT Λ wt c eb fe) :
    XQ Λ w (.lc own p src b c) (eL eb) fun s => fs s >>= fun l => fits ((l.filter fun x => fc (s, x)).map fun x => fe (s, x)) := fun s => by
  have h := xp_lc hs hno hb hw hk0 hk hc.p he.p s
  have e : ∀ l : List α, (lcP (fun x => (Out.ok (fc (s, x)) >>= fun u => if u = true then Out.ok (fe (s, x)) >>= fun z => .ok (some z) else .ok none)) l >>= fun r => fits r) = fits ((l.filter fun x => fc (s, x)).map fun x => fe (s, x)) := fun l => by
    rw [lcP_total (fun x => fc (s, x)) (fun x => fe (s, x)) l]; rfl
  have e' : (fs s >>= fun l => (lcP (fun x => (Out.ok (fc (s, x)) >>= fun u => if u = true then Out.ok (fe (s, x)) >>= fun z => .ok (some z) else .ok none)) l >>= fun r => fits r)) = (fs s >>= fun l => fits ((l.filter fun x => fc (s, x)).map fun x => fe (s, x))) := by
    congr 1; funext l; exact e l
  exact Eq.mp (congrArg (fun t => Le _ t _) e') h
/-- .. all of them -/
theorem xt_lc1 {own : List (Str × Nat)} {p : Pat} {src : IR} {fs : S → Out (List α)} {wt : S × α → FS} {fe : S × α → β}
    (hs : XQ Λ w src (eL ea) fs) (hno : ∀ s, noneOwn (w s) (own.map (·.2)) = true) (hb : ∀ s x, bindP p (ea x) (wipeF (w s) (own.map (·.2))) = some (wt (s, x)))
    (hw : ∀ s x, wipeF (wt (s, x)) (own.map (·.2)) = wipeF (w s) (own.map (·.2))) (hk0 : ∀ s, backF (w s) (w s) (own.map (·.2)) = w s) (hk : ∀ s x, backF (w s) (wt (s, x)) (own.map (·.2)) = w s)
    (he : XT Λ wt c eb fe) :
    XQ Λ w (.lc own p src (.cst (.bool true)) c) (eL eb) fun s => fs s >>= fun l => fits (l.map fun x => fe (s, x)) := fun s => by
  have h := xt_lc (b := .cst (.bool true)) (fc := fun _ => true) hs hno hb hw hk0 hk (xt_cst (ea := eB) rfl) he s
  have e' : (fs s >>= fun l => fits ((l.filter fun x => true).map fun x => fe (s, x))) = (fs s >>= fun l => fits (l.map fun x => fe (s, x))) := by
    congr 1; funext l; rw [List.filter_eq_self.mpr (fun _ _ => rfl)]
  exact Eq.mp (congrArg (fun t => Le _ t _) e') h
def lcQ {X Y : Type} (turn : X → Out Y) : List X → Out (List Y)
  | [] => .ok []
  | x :: l => noErr (turn x) >>= fun p => lcQ turn l >>= fun q => .ok (p :: q)
theorem lcP_all {X Y : Type} (e : X → Out Y) : ∀ l : List X, lcP (fun x => (Out.ok true >>= fun u => if u = true then e x >>= fun z => .ok (some z) else .ok none)) l = lcQ e l
  | [] => rfl
  | x :: l => by
    show (noErr (e x >>= fun z => .ok (some z)) >>= fun p => lcP _ l >>= fun q => (.ok (p.toList ++ q) : Out (List Y))) = (noErr (e x) >>= fun p => lcQ e l >>= fun q => .ok (p :: q))
    rw [lcP_all e l]
    cases e x <;> rfl
theorem xp_lc1 {own : List (Str × Nat)} {p : Pat} {src : IR} {fs : S → Out (List α)} {wt : S × α → FS} {fe : S × α → Out β}
    (hs : XQ Λ w src (eL ea) fs) (hno : ∀ s, noneOwn (w s) (own.map (·.2)) = true) (hb : ∀ s x, bindP p (ea x) (wipeF (w s) (own.map (·.2))) = some (wt (s, x)))
    (hw : ∀ s x, wipeF (wt (s, x)) (own.map (·.2)) = wipeF (w s) (own.map (·.2))) (hk0 : ∀ s, backF (w s) (w s) (own.map (·.2)) = w s) (hk : ∀ s x, backF (w s) (wt (s, x)) (own.map (·.2)) = w s)
    (he : XQ Λ wt c eb fe) :
    XQ Λ w (.lc own p src (.cst (.bool true)) c) (eL eb) fun s => fs s >>= fun l => lcQ (fun x => fe (s, x)) l >>= fun r => fits r := fun s => by
  have h := xp_lc (b := .cst (.bool true)) (fc := fun _ => .ok true) hs hno hb hw hk0 hk (xt_cst (ea := eB) (x := true) rfl).p he s
  have e' : (fs s >>= fun l => lcP (fun x => (Out.ok true >>= fun u => if u = true then fe (s, x) >>= fun z => .ok (some z) else .ok none)) l >>= fun r => fits r) = (fs s >>= fun l => lcQ (fun x => fe (s, x)) l >>= fun r => fits r) := by
    congr 1; funext l; rw [lcP_all]
  exact Eq.mp (congrArg (fun t => Le _ t _) e') h
def lcR {X Y T : Type} (turn : X → T → Out (Y × T)) : List X → T → Out (List Y × T)
  | [], t => .ok ([], t)
  | x :: l, t => noErr (turn x t) >>= fun p => lcR turn l p.2 >>= fun q => .ok (p.1 :: q.1, q.2)
theorem lcT_all {X Y T : Type} (e : T × X → Out (Y × (T × X))) : ∀ (l : List X) (t : T), lcT (fun x t => (Out.ok true >>= fun u => if u = true then e (t, x) >>= fun z => .ok (some z.1, z.2.1) else .ok (none, t))) l t = lcR (fun x t => e (t, x) >>= fun z => .ok (z.1, z.2.1)) l t
  | [], t => rfl
  | x :: l, t => by
    show (noErr (e (t, x) >>= fun z => .ok (some z.1, z.2.1)) >>= fun p => lcT _ l p.2 >>= fun q => (.ok (p.1.toList ++ q.1, q.2) : Out (List Y × T))) = (noErr (e (t, x) >>= fun z => .ok (z.1, z.2.1)) >>= fun p => lcR _ l p.2 >>= fun q => .ok (p.1 :: q.1, q.2))
    cases e (t, x) with
    | bad => rfl
    | err c x => rfl
    | ok z => exact congrArg (· >>= fun q => (.ok ([z.1] ++ q.1, q.2) : Out (List Y × T))) (lcT_all e l z.2.1)
theorem xg_lc1 {own : List (Str × Nat)} {p : Pat} {src : IR} {fs : S → Out (List α × S1)} {wt : S1 × α → FS} {fe : S1 × α → Out (β × (S1 × α))}
    (hs : XG Λ w w1 src (eL ea) fs) (hno : ∀ s, noneOwn (w1 s) (own.map (·.2)) = true) (hb : ∀ s x, bindP p (ea x) (wipeF (w1 s) (own.map (·.2))) = some (wt (s, x)))
    (hw : ∀ s x, wipeF (wt (s, x)) (own.map (·.2)) = wipeF (w1 s) (own.map (·.2))) (hk0 : ∀ s, backF (w1 s) (w1 s) (own.map (·.2)) = w1 s) (hk : ∀ s0 s x, backF (w1 s0) (wt (s, x)) (own.map (·.2)) = w1 s)
    (he : XG Λ wt wt c eb fe) :
    XG Λ w w1 (.lc own p src (.cst (.bool true)) c) (eL eb) fun s => fs s >>= fun q => lcR (fun x t => fe (t, x) >>= fun z => .ok (z.1, z.2.1)) q.1 q.2 >>= fun r => fits r.1 >>= fun l => .ok (l, r.2) := fun s => by
  have h := xg_lc (b := .cst (.bool true)) (fc := fun _ => .ok true) hs hno hb hw hk0 hk (xt_cst (ea := eB) (x := true) rfl).p he s
  have e' : (fs s >>= fun q => lcT (fun x t => (Out.ok true >>= fun u => if u = true then fe (t, x) >>= fun z => .ok (some z.1, z.2.1) else .ok (none, t))) q.1 q.2 >>= fun r => fits r.1 >>= fun l => (.ok (l, r.2) : Out (List β × S1))) = (fs s >>= fun q => lcR (fun x t => fe (t, x) >>= fun z => .ok (z.1, z.2.1)) q.1 q.2 >>= fun r => fits r.1 >>= fun l => .ok (l, r.2)) := by
    congr 1; funext q; rw [lcT_all]
  exact Eq.mp (congrArg (fun t => Le _ t _) e') h
end
end Fw

set_option Elab.async false
set_option linter.all false
set_option maxRecDepth 100000
set_option maxHeartbeats 4000000
namespace Fw
open PySem PySem.Spec L2
/-! ### comprehensions of two -/
def lcF {X Y : Type} (turn : X → Out (List Y)) : List X → Out (List Y)
  | [] => .ok []
  | x :: l => noErr (turn x) >>= fun p => lcF turn l >>= fun q => .ok (p ++ q)
theorem lcF_err {X Y : Type} {turn : X → Out (List Y)} {xc : Str} {xx : D} : ∀ l : List X, lcF turn l ≠ .err xc xx
  | [], h => by cases h
  | x :: l, h => by
    have h : (noErr (turn x) >>= fun p => lcF turn l >>= fun q => (.ok (p ++ q) : Out (List Y))) = .err xc xx := h
    cases h1 : turn x with
    | ok p =>
      rw [h1] at h
      have h : (lcF turn l >>= fun q => (.ok (p ++ q) : Out (List Y))) = .err xc xx := h
      cases h2 : lcF turn l with
      | ok q => rw [h2] at h; cases h
      | err c' x' => rw [h2] at h; cases h; exact lcF_err l h2
      | bad => rw [h2] at h; cases h
    | err c' x' => rw [h1] at h; cases h
    | bad => rw [h1] at h; cases h
theorem lcF_run {X Y : Type} {turn : X → Out (List Y)} {dt : D → FS → Out (List D × FS)} {ex : X → D} {ey : Y → D} {I : FS → Prop} (ht : ∀ x ŝ, I ŝ → ∀ ys, turn x = .ok ys → ys.length ≤ sizeLine → ∃ ŝ', dt (ex x) ŝ = .ok (ys.map ey, ŝ') ∧ I ŝ') :
    ∀ (l : List X) (ŝ : FS) (acc : List D) (ys : List Y), I ŝ → lcF turn l = .ok ys → acc.length + ys.length ≤ sizeLine → ∃ ŝ', lcLoop dt (l.map ex) acc ŝ = .ok (acc ++ ys.map ey, ŝ') ∧ I ŝ'
  | [], ŝ, acc, ys, h0, h, _ => by
    cases h
    exact ⟨ŝ, by simp [lcLoop], h0⟩
  | x :: l, ŝ, acc, ys, h0, h, hz => by
    obtain ⟨p, h1, h2⟩ := bind_okd h
    obtain ⟨q, h3, h4⟩ := bind_okd h2
    cases h4
    rw [List.length_append] at hz
    obtain ⟨s1, e1, i1⟩ := ht x ŝ h0 p (noErr_okd h1) (by omega)
    have hz' : (acc ++ p.map ey).length + q.length ≤ sizeLine := by
      rw [List.length_append, List.length_map]; omega
    obtain ⟨s2, e2, i2⟩ := lcF_run ht l s1 (acc ++ p.map ey) q i1 h3 hz'
    refine ⟨s2, ?_, i2⟩
    rw [List.map_cons]
    unfold lcLoop
    rw [e1, bind_ok, if_pos, e2, List.map_append, List.append_assoc]
    unfold fitsL
    rw [decide_eq_true_eq]
    show acc.length + (p.map ey).length ≤ _
    rw [List.length_map]; omega
section
variable {Λ : Env} {S α β γ : Type} {w : S → FS} {ea : α → D} {eb : β → D} {ec : γ → D} {b b1 c : IR}
theorem xp_lc2 {own : List (Str × Nat)} {own1 : List Nat} {p p1 : Pat} {src src1 : IR} {fs : S → Out (List α)} {wt : S × α → FS} {wt1 : (S × α) × β → FS} {fc : S × α → Out Bool} {fs1 : S × α → Out (List β)} {fc1 : (S × α) × β → Out Bool} {fe : (S × α) × β → Out γ}
    (hs : XQ Λ w src (eL ea) fs) (hno : ∀ s, noneOwn (w s) (own.map (·.2)) = true) (hb : ∀ s x, bindP p (ea x) (wipeF (w s) (own.map (·.2))) = some (wt (s, x)))
    (hb1 : ∀ q y, bindP p1 (eb y) (wipeF (wt q) own1) = some (wt1 (q, y))) (hw1 : ∀ q y, wipeF (wt1 (q, y)) own1 = wipeF (wt q) own1)
    (hw : ∀ s x, wipeF (wt (s, x)) (own.map (·.2)) = wipeF (w s) (own.map (·.2))) (hk0 : ∀ s, backF (w s) (w s) (own.map (·.2)) = w s) (hk : ∀ s x, backF (w s) (wt (s, x)) (own.map (·.2)) = w s)
    (hw2 : ∀ s x, wipeF (wipeF (wt (s, x)) own1) (own.map (·.2)) = wipeF (w s) (own.map (·.2))) (hk2 : ∀ s x, backF (w s) (wipeF (wt (s, x)) own1) (own.map (·.2)) = w s)
    (hc : XQ Λ wt b eB fc) (hs1 : XQ Λ wt src1 (eL eb) fs1) (hc1 : XQ Λ wt1 b1 eB fc1) (he : XQ Λ wt1 c ec fe) :
    XQ Λ w (.lc2 own own1 p src b p1 src1 b1 c) (eL ec) fun s => fs s >>= fun l => lcF (fun x => fc (s, x) >>= fun u => if u = true then fs1 (s, x) >>= fun l1 => lcF (fun y => fc1 ((s, x), y) >>= fun u => if u = true then fe ((s, x), y) >>= fun z => .ok [z] else .ok []) l1 else .ok []) l >>= fun r => fits r := fun s => by
  show Le (lc2S Λ (own.map (·.2)) own1 p src b p1 src1 b1 c (w s)) _ _
  unfold lc2S
  generalize hvs : own.map (·.2) = vs at *
  refine (hs s).bind fun q => ?_
  show Le (if noneOwn (w s) vs = true then _ else _) _ _
  rw [if_pos (hno _)]
  generalize hturn : (fun x => fc (s, x) >>= fun u => if u = true then fs1 (s, x) >>= fun l1 => lcF (fun y => fc1 ((s, x), y) >>= fun u => if u = true then fe ((s, x), y) >>= fun z => (.ok [z] : Out (List γ)) else .ok []) l1 else .ok []) = turn
  cases hL : lcF turn q with
  | bad => trivial
  | err xc xx => exact absurd hL (lcF_err q)
  | ok r =>
    show Le _ (fits r) _
    unfold fits
    cases hz : fitsL r.length with
    | false => trivial
    | true =>
      unfold fitsL at hz
      rw [decide_eq_true_eq] at hz
      obtain ⟨ŝ', e, i⟩ := lcF_run (ex := ea) (ey := ec) (dt := lcT2 Λ vs own1 p b p1 src1 b1 c) (I := fun ŝ => wipeF ŝ vs = wipeF (w s) vs ∧ backF (w s) ŝ vs = w s) (fun x ŝ h ys hy hlen => by
        rw [← hturn] at hy
        obtain ⟨u, h1, h2⟩ := bind_okd hy
        have qc : sem Λ b (wt (s, x)) = .ok (.bool u, wt (s, x)) := by have := hc (s, x); rw [h1] at this; exact this
        unfold lcT2
        rw [h.1, hb]
        show ∃ ŝ', noErr (sem Λ b (wt (s, x)) >>= _) = _ ∧ _
        rw [qc]
        cases u with
        | false =>
          rw [if_neg (by decide)] at h2
          cases h2
          exact ⟨wt (s, x), rfl, hw _ _, hk _ _⟩
        | true =>
          rw [if_pos rfl] at h2
          obtain ⟨l1, h3, h4⟩ := bind_okd h2
          have qs : sem Λ src1 (wt (s, x)) = .ok (eL eb l1, wt (s, x)) := by have := hs1 (s, x); rw [h3] at this; exact this
          obtain ⟨s2, e2, i2⟩ := lcF_run (ex := eb) (ey := ec) (dt := lcT1 Λ own1 p1 b1 c) (I := fun ŝ => wipeF ŝ own1 = wipeF (wt (s, x)) own1) (fun y ŝ h zs hz hzl => by
            obtain ⟨u, k1, k2⟩ := bind_okd hz
            have qc : sem Λ b1 (wt1 ((s, x), y)) = .ok (.bool u, wt1 ((s, x), y)) := by have := hc1 ((s, x), y); rw [k1] at this; exact this
            unfold lcT1
            rw [h, hb1]
            show ∃ ŝ', (sem Λ b1 (wt1 ((s, x), y)) >>= _) = _ ∧ _
            rw [qc]
            cases u with
            | false =>
              rw [if_neg (by decide)] at k2
              cases k2
              exact ⟨wt1 ((s, x), y), rfl, hw1 _ _⟩
            | true =>
              rw [if_pos rfl] at k2
              obtain ⟨z, k3, k4⟩ := bind_okd k2
              cases k4
              have qe : sem Λ c (wt1 ((s, x), y)) = .ok (ec z, wt1 ((s, x), y)) := by have := he ((s, x), y); rw [k3] at this; exact this
              refine ⟨wt1 ((s, x), y), ?_, hw1 _ _⟩
              show (sem Λ c (wt1 ((s, x), y)) >>= _) = _
              rw [qe]; rfl) l1 (wt (s, x)) [] ys rfl h4 (by simpa using hlen)
          refine ⟨wipeF s2 own1, ?_, ?_, ?_⟩
          · show noErr (sem Λ src1 (wt (s, x)) >>= _) = _
            rw [qs]
            show noErr (lcLoop (lcT1 Λ own1 p1 b1 c) (l1.map eb) [] (wt (s, x)) >>= _) = _
            rw [e2]; rfl
          · rw [i2]; exact hw2 _ _
          · rw [i2]; exact hk2 _ _) q (w s) [] r ⟨rfl, hk0 _⟩ hL (by simpa using hz)
      show (lcLoop (lcT2 Λ vs own1 p b p1 src1 b1 c) (q.map ea) [] (w s) >>= fun r => (.ok (.list r.1, backF (w s) r.2 vs) : Out (D × FS))) = _
      rw [e]
      show (.ok (.list ([] ++ r.map ec), backF (w s) ŝ' vs) : Out (D × FS)) = _
      rw [i.2]; rfl
end
end Fw

set_option Elab.async false
set_option linter.all false
set_option maxRecDepth 100000
set_option maxHeartbeats 4000000
namespace Fw
open PySem
section
variable {Λ : Env} {S S1 S2 S3 B R α β γ δ ε : Type} {w : S → FS} {w1 : S1 → FS} {w2 : S2 → FS} {w3 : S3 → FS} {wb : B → FS} {a b c d : IR} {ea : α → D} {eb : β → D} {ec : γ → D} {ed : δ → D} {ee : ε → D}
/-! ### calls -/
structure RF (fd : Fd) (ea : α → List D) (er : β → D) (f : α → Out β) : Prop where
  lent : fd.lent = false
  run : ∀ c x, Le (fd.F c (ea x)) (f x) fun r => (er r, .none)
structure RC (fd : Fd) (ec : γ → D) (ea : α → List D) (er : β → D) (f : γ → α → Out (β × γ)) : Prop where
  lent : fd.lent = true
  run : ∀ c x, Le (fd.F (ec c) (ea x)) (f c x) fun r => (er r.1, ec r.2)
theorem xp_call {x : Str} {fr : Bool} {fd : Fd} {es : α → List D} {er : β → D} {fa : S → Out α} {f : α → Out β} (hf : Λ.Φ.find x = some fd) (hr : fd.fresh = fr) (hp : ∀ y, fd.ps.length = (es y).length) (F : RF fd es er f) (ha : AP Λ w a es fa) : XQ Λ w (.call x fr a) er fun s => fa s >>= f := fun s => by
  refine (ha s).bind fun y => ?_
  show Le (optO (Λ.Φ.find x) >>= _) _ _
  rw [hf]
  show Le (if fd.lent = false ∧ fd.fresh = fr ∧ fd.ps.length = (es y).length then _ else _) _ _
  rw [if_pos ⟨F.lent, hr, hp y⟩]
  exact (F.run .none y).map fun _ => rfl
theorem xp_callT {x : Str} {fr : Bool} {fd : Fd} {es : α → List D} {er : β → D} {ga : S → α} {f : α → Out β} (hf : Λ.Φ.find x = some fd) (hr : fd.fresh = fr) (hp : ∀ y, fd.ps.length = (es y).length) (F : RF fd es er f) (ha : AT Λ w a es ga) : XQ Λ w (.call x fr a) er fun s => f (ga s) :=
  xp_call hf hr hp F ha.p
theorem xg_call {x : Str} {fr : Bool} {fd : Fd} {es : α → List D} {er : β → D} {fa : S → Out (α × S1)} {f : α → Out β} (hf : Λ.Φ.find x = some fd) (hr : fd.fresh = fr) (hp : ∀ y, fd.ps.length = (es y).length) (F : RF fd es er f) (ha : AG Λ w w1 a es fa) : XG Λ w w1 (.call x fr a) er fun s => fa s >>= fun p => f p.1 >>= fun r => .ok (r, p.2) := fun s => by
  refine (ha s).bind fun y => ?_
  show Le (optO (Λ.Φ.find x) >>= _) _ _
  rw [hf]
  show Le (if fd.lent = false ∧ fd.fresh = fr ∧ fd.ps.length = (es y.1).length then _ else _) _ _
  rw [if_pos ⟨F.lent, hr, hp y.1⟩]
  exact (F.run .none y.1).bind fun _ => rfl
theorem xg_callc {x : Str} {fr : Bool} {i : Nat} {fd : Fd} {es : α → List D} {er : β → D} {fa : S → Out (α × S1)} {f : γ → α → Out (β × γ)} {g0 : S → D} {g1 : S1 → γ} {h : S1 → γ → S2} (hf : Λ.Φ.find x = some fd) (hr : fd.fresh = fr) (hp : ∀ y, fd.ps.length = (es y).length + 1) (F : RC fd ec es er f)
    (h0 : ∀ s, readO (w s) i = some (g0 s)) (h1 : ∀ s, readO (w1 s) i = some (ec (g1 s))) (h2 : ∀ s z, (w1 s).set i (some (.o (ec z))) = w2 (h s z)) (ha : AG Λ w w1 a es fa) :
    XG Λ w w2 (.callc x fr i a) er fun s => fa s >>= fun p => f (g1 p.2) p.1 >>= fun r => .ok (r.1, h p.2 r.2) := fun s => by
  show Le (optO (readO (w s) i) >>= _) _ _
  rw [h0]
  refine (ha s).bind fun y => ?_
  show Le (optO (Λ.Φ.find x) >>= _) _ _
  rw [hf]
  show Le (optO (readO (w1 y.2) i) >>= _) _ _
  rw [h1]
  show Le (if fd.lent = true ∧ fd.fresh = fr ∧ fd.ps.length = (es y.1).length + 1 then _ else _) _ _
  rw [if_pos ⟨F.lent, hr, hp y.1⟩]
  refine (F.run (g1 y.2) y.1).bind fun r => ?_
  show Out.ok (er r.1, (w1 y.2).set i (some (.o (ec r.2)))) = _
  rw [h2]
/-- .. with plain arguments -/
theorem xg_callcT {x : Str} {fr : Bool} {i : Nat} {fd : Fd} {es : α → List D} {er : β → D} {ga : S → α} {f : γ → α → Out (β × γ)} {g1 : S → γ} {h : S → γ → S2} (hf : Λ.Φ.find x = some fd) (hr : fd.fresh = fr) (hp : ∀ y, fd.ps.length = (es y).length + 1) (F : RC fd ec es er f)
    (h1 : ∀ s, readO (w s) i = some (ec (g1 s))) (h2 : ∀ s z, (w s).set i (some (.o (ec z))) = w2 (h s z)) (ha : AT Λ w a es ga) :
    XG Λ w w2 (.callc x fr i a) er fun s => f (g1 s) (ga s) >>= fun r => .ok (r.1, h s r.2) :=
  xg_callc hf hr hp F h1 h1 h2 ha.g
/-! ### lists that change -/
@[irreducible] def appG {α : Type} (l : List α) (x : α) : Out (List α) := if l.length < sizeLine then .ok (l ++ [x]) else .bad
theorem xg_app {i : Nat} {fa : S → Out (α × S1)} {g0 : S → List α} {g1 : S1 → List α} {h : S1 → List α → S2} (h0 : ∀ s, readO (w s) i = some (eL ea (g0 s))) (h1 : ∀ s, readO (w1 s) i = some (eL ea (g1 s))) (h2 : ∀ s z, (w1 s).set i (some (.o (eL ea z))) = w2 (h s z)) (ha : XG Λ w w1 a ea fa) :
    XG Λ w w2 (.app i a) eN fun s => fa s >>= fun p => appG (g1 p.2) p.1 >>= fun l => .ok ((), h p.2 l) := fun s => by
  show Le (optO (readO (w s) i) >>= _) _ _
  rw [h0]
  refine (ha s).bind fun y => ?_
  show Le (optO (readO (w1 y.2) i) >>= _) _ _
  rw [h1]
  show Le (if ((g1 y.2).map ea).length < sizeLine then Out.ok (PyData.none, (w1 y.2).set i (some (.o (.list ((g1 y.2).map ea ++ [ea y.1]))))) else .bad) _ _
  unfold appG
  rw [List.length_map]
  by_cases hz : (g1 y.2).length < sizeLine
  · rw [if_pos hz, if_pos hz]
    have e : (g1 y.2).map ea ++ [ea y.1] = (g1 y.2 ++ [y.1]).map ea := by rw [List.map_append]; rfl
    rw [e]
    show Out.ok (PyData.none, (w1 y.2).set i (some (.o (eL ea (g1 y.2 ++ [y.1]))))) = _
    rw [h2]; rfl
  · rw [if_neg hz, if_neg hz]; trivial
theorem xg_appT {i : Nat} {ga : S → α} {g1 : S → List α} {h : S → List α → S2} (h1 : ∀ s, readO (w s) i = some (eL ea (g1 s))) (h2 : ∀ s z, (w s).set i (some (.o (eL ea z))) = w2 (h s z)) (ha : XT Λ w a ea ga) :
    XG Λ w w2 (.app i a) eN fun s => appG (g1 s) (ga s) >>= fun l => .ok ((), h s l) := xg_app h1 h1 h2 ha.g
theorem xg_appP {i : Nat} {fa : S → Out α} {g1 : S → List α} {h : S → List α → S2} (h1 : ∀ s, readO (w s) i = some (eL ea (g1 s))) (h2 : ∀ s z, (w s).set i (some (.o (eL ea z))) = w2 (h s z)) (ha : XQ Λ w a ea fa) :
    XG Λ w w2 (.app i a) eN fun s => fa s >>= fun x => appG (g1 s) x >>= fun l => .ok ((), h s l) := fun s => by
  have q := xg_app h1 h1 h2 ha.g s
  refine Eq.mp (congrArg (fun t => Le _ t _) ?_) q
  show ((fa s >>= fun x => (.ok (x, s) : Out (α × S))) >>= fun p => appG (g1 p.2) p.1 >>= fun l => (.ok ((), h p.2 l) : Out (Unit × S2))) = (fa s >>= fun x => appG (g1 s) x >>= fun l => (.ok ((), h s l) : Out (Unit × S2)))
  rw [bind_assoc]; rfl
theorem getLast_map (l : List α) : (l.map ea)[(l.map ea).length - 1]? = (l[l.length - 1]?).map ea := by rw [List.length_map, List.getElem?_map]
theorem xg_pop {i : Nat} {g : S → List α} {h : S → List α → S2} (h0 : ∀ s, readO (w s) i = some (eL ea (g s))) (h2 : ∀ s z, (w s).set i (some (.o (eL ea z))) = w2 (h s z)) :
    XG Λ w w2 (.pop i) ea fun s => optO ((g s)[(g s).length - 1]?) >>= fun x => .ok (x, h s (g s).dropLast) := fun s => by
  show Le (optO (readO (w s) i) >>= _) _ _
  rw [h0]
  show Le (optO (((g s).map ea)[((g s).map ea).length - 1]?) >>= _) _ _
  rw [getLast_map]
  show Le _ (optO ((g s)[(g s).length - 1]?) >>= fun x => .ok (x, h s (g s).dropLast)) _
  cases (g s)[(g s).length - 1]? with
  | none => trivial
  | some x =>
    have e : ((g s).map ea).dropLast = ((g s).dropLast).map ea := by rw [List.map_dropLast]
    show Out.ok (ea x, (w s).set i (some (.o (.list ((g s).map ea).dropLast)))) = _
    rw [e]
    show Out.ok (ea x, (w s).set i (some (.o (eL ea (g s).dropLast)))) = _
    rw [h2]
@[irreducible] def popG {α : Type} (l : List α) (k : Int) : Out (α × List α) := if rngOk k = true then optO (L2.ixN l.length k) >>= fun j => optO l[j]? >>= fun x => .ok (x, l.eraseIdx j) else .bad
theorem erase_map : ∀ (l : List α) (j : Nat), (l.map ea).eraseIdx j = (l.eraseIdx j).map ea
  | [], _ => rfl
  | _ :: _, 0 => rfl
  | x :: l, j + 1 => by
    show ea x :: (l.map ea).eraseIdx j = _
    rw [erase_map l j]; rfl
theorem xg_popi {i : Nat} {fa : S → Out (Int × S1)} {g0 : S → List α} {g : S1 → List α} {h : S1 → List α → S2} (h0 : ∀ s, readO (w s) i = some (eL ea (g0 s))) (h1 : ∀ s, readO (w1 s) i = some (eL ea (g s))) (h2 : ∀ s z, (w1 s).set i (some (.o (eL ea z))) = w2 (h s z)) (ha : XG Λ w w1 a eI fa) :
    XG Λ w w2 (.popi i a) ea fun s => fa s >>= fun p => popG (g p.2) p.1 >>= fun r => .ok (r.1, h p.2 r.2) := fun s => by
  show Le (optO (readO (w s) i) >>= _) _ _
  rw [h0]
  refine (ha s).bind fun y => ?_
  show Le (optO (readO (w1 y.2) i) >>= _) _ _
  rw [h1]
  show Le (if rngOk y.1 = true then optO (L2.ixN ((g y.2).map ea).length y.1) >>= fun j => optO (((g y.2).map ea)[j]?) >>= fun d => (.ok (d, (w1 y.2).set i (some (.o (.list (((g y.2).map ea).eraseIdx j))))) : Out (D × FS)) else .bad) _ _
  unfold popG
  rw [List.length_map]
  cases rngOk y.1 with
  | false => trivial
  | true =>
    rw [if_pos rfl, if_pos rfl]
    cases L2.ixN (g y.2).length y.1 with
    | none => trivial
    | some j =>
      show Le (optO (((g y.2).map ea)[j]?) >>= _) _ _
      rw [List.getElem?_map]
      cases e : (g y.2)[j]? with
      | none =>
        show Le _ ((optO ((g y.2)[j]?) >>= _) >>= _) _
        rw [e]; trivial
      | some x =>
        show Le _ ((optO ((g y.2)[j]?) >>= _) >>= _) _
        rw [e]
        show Out.ok (ea x, (w1 y.2).set i (some (.o (.list (((g y.2).map ea).eraseIdx j))))) = Out.ok (ea x, w2 (h y.2 ((g y.2).eraseIdx j)))
        rw [erase_map]
        show Out.ok (ea x, (w1 y.2).set i (some (.o (eL ea ((g y.2).eraseIdx j))))) = _
        rw [h2]
/-! ### statements -/
inductive TF (S B R : Type) where
  | nx (s : S) | bk (b : B) | rt (r : R)
/-- a statement that goes on -/
def SN (Λ : Env) (w : S → FS) (w1 : S1 → FS) (i : IS) (f : S → Out S1) : Prop := ∀ s, Le (semS Λ i (w s)) (f s) fun s1 => .nx (w1 s1)
def LeS (o : Out Fl) (t : Out (TF S B R)) (w : S → FS) (wb : B → FS) (P : R → Bool → D → FS → Prop) : Prop := match t with
  | .ok (.nx s) => o = .ok (.nx (w s))
  | .ok (.bk b) => o = .ok (.bk (wb b))
  | .ok (.rt r) => ∃ fr d ŝ, o = .ok (.rt fr d ŝ) ∧ P r fr d ŝ
  | .err c x => o = .err c x
  | .bad => True
/-- .. that may also leave -/
def SS (Λ : Env) (w : S → FS) (w1 : S1 → FS) (wb : B → FS) (P : R → Bool → D → FS → Prop) (i : IS) (f : S → Out (TF S1 B R)) : Prop := ∀ s, LeS (semS Λ i (w s)) (f s) w1 wb P
variable {P : R → Bool → D → FS → Prop} {i j : IS}
theorem LeS.bind {o : Out β} {t : Out γ} {k : γ → β} {o2 : β → Out Fl} {t2 : γ → Out (TF S B R)} (h : Le o t k) (h2 : ∀ c, LeS (o2 (k c)) (t2 c) w wb P) : LeS (o >>= o2) (t >>= t2) w wb P := by
  cases t with
  | ok c => have h : o = .ok (k c) := h; subst h; exact h2 c
  | err c x => have h : o = .err c x := h; subst h; exact rfl
  | bad => trivial
theorem SN.s {f : S → Out S1} (h : SN Λ w w1 i f) : SS Λ w w1 wb P i fun s => f s >>= fun x => .ok (.nx x) := fun s => by
  have q := h s
  show LeS _ (f s >>= fun x => .ok (.nx x)) _ _ _
  cases hf : f s with
  | ok c => rw [hf] at q; exact q
  | err c x => rw [hf] at q; exact q
  | bad => trivial
theorem sn_skip : SN Λ w w .skip fun s => .ok s := fun s => rfl
theorem sn_seq {f : S → Out S1} {g : S1 → Out S2} (h : SN Λ w w1 i f) (k : SN Λ w1 w2 j g) : SN Λ w w2 (.seq i j) fun s => f s >>= g := fun s => by
  show Le (semS Λ i (w s) >>= _) _ _
  exact (h s).bind fun x => k x
theorem ss_seqN {f : S → Out S1} {g : S1 → Out (TF S2 B R)} (h : SN Λ w w1 i f) (k : SS Λ w1 w2 wb P j g) : SS Λ w w2 wb P (.seq i j) fun s => f s >>= g := fun s => by
  show LeS (semS Λ i (w s) >>= _) _ _ _ _
  exact LeS.bind (h s) fun x => k x
/-- the rest behind a statement that may leave -/
def andThen {S S1 B R : Type} (o : Out (TF S B R)) (g : S → Out (TF S1 B R)) : Out (TF S1 B R) := o >>= fun f => match f with
  | .nx s => g s
  | .bk b => .ok (.bk b)
  | .rt r => .ok (.rt r)
theorem ss_seq {f : S → Out (TF S1 B R)} {g : S1 → Out (TF S2 B R)} (h : SS Λ w w1 wb P i f) (k : SS Λ w1 w2 wb P j g) : SS Λ w w2 wb P (.seq i j) fun s => andThen (f s) g := fun s => by
  show LeS (semS Λ i (w s) >>= _) _ _ _ _
  have q := h s
  show LeS _ (andThen (f s) g) _ _ _
  unfold andThen
  cases hf : f s with
  | bad => trivial
  | err c x =>
    rw [hf] at q
    have q : semS Λ i (w s) = .err c x := q
    rw [q]; exact rfl
  | ok t =>
    rw [hf] at q
    cases t with
    | nx s1 =>
      have q : semS Λ i (w s) = .ok (.nx (w1 s1)) := q
      rw [q]; exact k s1
    | bk b =>
      have q : semS Λ i (w s) = .ok (.bk (wb b)) := q
      rw [q]; exact rfl
    | rt r =>
      obtain ⟨fr, d, ŝ, q, p⟩ := q
      rw [q]; exact ⟨fr, d, ŝ, rfl, p⟩
/-! stores -/
theorem sn_set {p : Pat} {f : S → Out (α × S1)} {h : S1 → α → S2} (ha : XG Λ w w1 a ea f) (hb : ∀ s x, bindP p (ea x) (w1 s) = some (w2 (h s x))) : SN Λ w w2 (.set p a) fun s => f s >>= fun q => .ok (h q.2 q.1) := fun s => by
  refine (ha s).bind fun q => ?_
  show Le (optO (bindP p (ea q.1) (w1 q.2)) >>= _) _ _
  rw [hb]; exact rfl
theorem sn_setP {p : Pat} {f : S → Out α} {h : S → α → S2} (ha : XQ Λ w a ea f) (hb : ∀ s x, bindP p (ea x) (w s) = some (w2 (h s x))) : SN Λ w w2 (.set p a) fun s => f s >>= fun x => .ok (h s x) := fun s => by
  refine (ha s).bind fun q => ?_
  show Le (optO (bindP p (ea q) (w s)) >>= _) _ _
  rw [hb]; exact rfl
theorem sn_setT {p : Pat} {g : S → α} {h : S → α → S2} (ha : XT Λ w a ea g) (hb : ∀ s x, bindP p (ea x) (w s) = some (w2 (h s x))) : SN Λ w w2 (.set p a) fun s => .ok (h s (g s)) := sn_setP ha.p hb
theorem sn_seto {n : Nat} {f : S → Out (α × S1)} {h : S1 → α → S2} (ha : XG Λ w w1 a ea f) (hb : ∀ s x, (w1 s).set n (some (.o (ea x))) = w2 (h s x)) : SN Λ w w2 (.seto n a) fun s => f s >>= fun q => .ok (h q.2 q.1) := fun s => by
  refine (ha s).bind fun q => ?_
  show Out.ok (Fl.nx ((w1 q.2).set n (some (.o (ea q.1))))) = _
  rw [hb]
theorem sn_setoP {n : Nat} {f : S → Out α} {h : S → α → S2} (ha : XQ Λ w a ea f) (hb : ∀ s x, (w s).set n (some (.o (ea x))) = w2 (h s x)) : SN Λ w w2 (.seto n a) fun s => f s >>= fun x => .ok (h s x) := fun s => by
  refine (ha s).bind fun q => ?_
  show Out.ok (Fl.nx ((w s).set n (some (.o (ea q))))) = _
  rw [hb]
theorem sn_setoT {n : Nat} {g : S → α} {h : S → α → S2} (ha : XT Λ w a ea g) (hb : ∀ s x, (w s).set n (some (.o (ea x))) = w2 (h s x)) : SN Λ w w2 (.seto n a) fun s => .ok (h s (g s)) := sn_setoP ha.p hb
theorem sn_par {ps : List (Nat × Bool)} {es : α → List D} {f : S → Out (α × S1)} {h : S1 → α → S2} (ha : AG Λ w w1 a es f) (hb : ∀ s x, setPar ps (es x) (w1 s) = some (w2 (h s x))) : SN Λ w w2 (.par ps a) fun s => f s >>= fun q => .ok (h q.2 q.1) := fun s => by
  refine (ha s).bind fun q => ?_
  show Le (optO (setPar ps (es q.1) (w1 q.2)) >>= _) _ _
  rw [hb]; exact rfl
theorem sn_parP {ps : List (Nat × Bool)} {es : α → List D} {f : S → Out α} {h : S → α → S2} (ha : AP Λ w a es f) (hb : ∀ s x, setPar ps (es x) (w s) = some (w2 (h s x))) : SN Λ w w2 (.par ps a) fun s => f s >>= fun x => .ok (h s x) := fun s => by
  refine (ha s).bind fun q => ?_
  show Le (optO (setPar ps (es q) (w s)) >>= _) _ _
  rw [hb]; exact rfl
theorem sn_parT {ps : List (Nat × Bool)} {es : α → List D} {g : S → α} {h : S → α → S2} (ha : AT Λ w a es g) (hb : ∀ s x, setPar ps (es x) (w s) = some (w2 (h s x))) : SN Λ w w2 (.par ps a) fun s => .ok (h s (g s)) := sn_parP ha.p hb
@[irreducible] def setG {α : Type} (l : List α) (z : Int) (x : α) : Out (List α) := optO (L2.ixN l.length z) >>= fun j => .ok (l.set j x)
/-- xs[k] = e -/
theorem sn_setix {n : Nat} {k : IR} {f : S → Out (α × S1)} {fk : S1 → Out Int} {g : S1 → List α} {h : S1 → List α → S2} (ha : XG Λ w w1 a ea f) (hk : XQ Λ w1 k eI fk) (h1 : ∀ s, readO (w1 s) n = some (eL ea (g s))) (h2 : ∀ s z, (w1 s).set n (some (.o (eL ea z))) = w2 (h s z)) :
    SN Λ w w2 (.setix n k a) fun s => f s >>= fun p => fk p.2 >>= fun z => setG (g p.2) z p.1 >>= fun l => .ok (h p.2 l) := fun s => by
  refine (ha s).bind fun p => ?_
  show Le (optO (readO (w1 p.2) n) >>= _) _ _
  rw [h1]
  refine (hk p.2).bind fun z => ?_
  show Le (optO (readO (w1 p.2) n) >>= _) _ _
  rw [h1]
  show Le (optO (L2.ixN ((g p.2).map ea).length z) >>= fun j => (.ok (.nx ((w1 p.2).set n (some (.o (.list (((g p.2).map ea).set j (ea p.1))))))) : Out Fl)) _ _
  rw [List.length_map]
  unfold setG
  show Le _ ((optO (L2.ixN (g p.2).length z) >>= fun j => .ok ((g p.2).set j p.1)) >>= fun l => .ok (h p.2 l)) _
  cases L2.ixN (g p.2).length z with
  | none => trivial
  | some j =>
    show Out.ok (Fl.nx ((w1 p.2).set n (some (.o (.list (((g p.2).map ea).set j (ea p.1))))))) = Out.ok (Fl.nx (w2 (h p.2 ((g p.2).set j p.1))))
    have e : ((g p.2).map ea).set j (ea p.1) = ((g p.2).set j p.1).map ea := by rw [List.map_set]
    rw [e]
    show Out.ok (Fl.nx ((w1 p.2).set n (some (.o (eL ea ((g p.2).set j p.1)))))) = _
    rw [h2]
theorem sn_setixP {n : Nat} {k : IR} {f : S → Out α} {fk : S → Out Int} {g : S → List α} {h : S → List α → S2} (ha : XQ Λ w a ea f) (hk : XQ Λ w k eI fk) (h1 : ∀ s, readO (w s) n = some (eL ea (g s))) (h2 : ∀ s z, (w s).set n (some (.o (eL ea z))) = w2 (h s z)) :
    SN Λ w w2 (.setix n k a) fun s => f s >>= fun x => fk s >>= fun z => setG (g s) z x >>= fun l => .ok (h s l) := fun s => by
  have q := sn_setix ha.g hk h1 h2 s
  refine Eq.mp (congrArg (fun t => Le _ t _) ?_) q
  show ((f s >>= fun x => (.ok (x, s) : Out (α × S))) >>= fun p => fk p.2 >>= fun z => setG (g p.2) z p.1 >>= fun l => (.ok (h p.2 l) : Out S2)) = _
  rw [bind_assoc]; rfl
/-- d[k] = e -/
@[irreducible] def putG {κ α : Type} [DecidableEq κ] (kvs : List (κ × α)) (k : κ) (v : α) : Out (List (κ × α)) := if fitsL (kvs.length + 1) = true then .ok (dPut k v kvs) else .bad
theorem sn_putP {κ : Type} [DecidableEq κ] {ek : κ → D} {m : Nat} {n : Nat} {k : IR} {f : S → Out α} {fk : S → Out κ} {g : S → List (κ × α)} {h : S → List (κ × α) → S2} (q : EqE ek m) (hk : ∀ (kvs : List (κ × α)) x, keysOk (kvs.map fun p => (ek p.1, ea p.2)) (ek x) = true) (ha : XQ Λ w a ea f) (hk' : XQ Λ w k ek fk)
    (h1 : ∀ s, readO (w s) n = some (eD ek ea (g s))) (h2 : ∀ s z, (w s).set n (some (.o (eD ek ea z))) = w2 (h s z)) :
    SN Λ w w2 (.setix n k a) fun s => f s >>= fun x => fk s >>= fun z => putG (g s) z x >>= fun l => .ok (h s l) := fun s => by
  refine (ha s).bind fun x => ?_
  show Le (optO (readO (w s) n) >>= _) _ _
  rw [h1]
  refine (hk' s).bind fun z => ?_
  show Le (optO (readO (w s) n) >>= _) _ _
  rw [h1]
  have e1 : ((match eD ek ea (g s), ek z with
    | .list l, .int z => optO (L2.ixN l.length z) >>= fun j => (.ok (.nx ((w s).set n (some (.o (.list (l.set j (ea x))))))) : Out Fl)
    | .dict kvs, k => if (keysOk kvs k && fitsL (kvs.length + 1)) = true then .ok (.nx ((w s).set n (some (.o (.dict (putK k (ea x) kvs)))))) else .bad
    | _, _ => .bad) : Out Fl) = if (keysOk ((g s).map fun p => (ek p.1, ea p.2)) (ek z) && fitsL (((g s).map fun p => (ek p.1, ea p.2)).length + 1)) = true then .ok (.nx ((w s).set n (some (.o (.dict (putK (ek z) (ea x) ((g s).map fun p => (ek p.1, ea p.2)))))))) else .bad := by
    unfold eD; rfl
  refine Eq.mpr (congrArg (fun t => Le t _ _) e1) ?_
  rw [hk, Bool.true_and, List.length_map, putK_map q]
  unfold putG
  cases fitsL ((g s).length + 1) with
  | false => trivial
  | true =>
    show Out.ok (Fl.nx ((w s).set n (some (.o (eD ek ea (dPut z x (g s))))))) = Out.ok (Fl.nx (w2 (h s (dPut z x (g s)))))
    rw [h2]
/-- n += e -/
theorem sn_augP {n : Nat} {sub : Bool} {f : S → Out Int} {g : S → Int} {h : S → Int → S2} (ha : XQ Λ w a eI f) (h1 : ∀ s, readS (w s) n = some (eI (g s))) (h2 : ∀ s z, (w s).set n (some (.v (eI z))) = w2 (h s z)) :
    SN Λ w w2 (.aug n sub a) fun s => f s >>= fun x => .ok (h s (if sub = true then g s - x else g s + x)) := fun s => by
  show Le (optO (readS (w s) n) >>= _) _ _
  rw [h1]
  refine (ha s).bind fun x => ?_
  show Out.ok (Fl.nx ((w s).set n (some (.v (eI (if sub = true then g s - x else g s + x)))))) = _
  rw [h2]
/-- xs += e -/
theorem sn_extP {n : Nat} {f : S → Out (List α)} {g : S → List α} {h : S → List α → S2} (ha : XQ Λ w a (eL ea) f) (h1 : ∀ s, readO (w s) n = some (eL ea (g s))) (h2 : ∀ s z, (w s).set n (some (.o (eL ea z))) = w2 (h s z)) :
    SN Λ w w2 (.ext n a) fun s => f s >>= fun x => fits (g s ++ x) >>= fun l => .ok (h s l) := fun s => by
  show Le (optO (readO (w s) n) >>= _) _ _
  rw [h1]
  refine (ha s).bind fun x => ?_
  show Le (optO (readO (w s) n) >>= _) _ _
  rw [h1]
  show Le (if fitsL (((g s).map ea).length + (x.map ea).length) = true then (.ok (.nx ((w s).set n (some (.o (.list ((g s).map ea ++ x.map ea)))))) : Out Fl) else .bad) _ _
  unfold fits
  rw [List.length_map, List.length_map, List.length_append, ← List.map_append]
  cases fitsL ((g s).length + x.length) with
  | false => trivial
  | true =>
    show Out.ok (Fl.nx ((w s).set n (some (.o (eL ea (g s ++ x)))))) = Out.ok (Fl.nx (w2 (h s (g s ++ x))))
    rw [h2]
theorem sn_ex {f : S → Out (α × S1)} (ha : XG Λ w w1 a ea f) : SN Λ w w1 (.ex a) fun s => f s >>= fun p => .ok p.2 := fun s => by
  exact (ha s).bind fun _ => rfl
theorem sn_exP {f : S → Out α} (ha : XQ Λ w a ea f) : SN Λ w w (.ex a) fun s => f s >>= fun _ => .ok s := fun s => by
  exact (ha s).bind fun _ => rfl
/-! branches -/
theorem sn_ifT {t : S → Bool} {f g : S → Out S1} (hc : XT Λ w a eB t) (hf : SN Λ w w1 i f) (hg : SN Λ w w1 j g) : SN Λ w w1 (.iff a i j) fun s => if t s = true then f s else g s := fun s => by
  show Le (sem Λ a (w s) >>= _) _ _
  rw [hc s]
  show Le (if t s = true then _ else _) (if t s = true then _ else _) _
  cases t s with
  | true => exact hf s
  | false => exact hg s
theorem sn_ifP {t : S → Out Bool} {f g : S → Out S1} (hc : XQ Λ w a eB t) (hf : SN Λ w w1 i f) (hg : SN Λ w w1 j g) : SN Λ w w1 (.iff a i j) fun s => t s >>= fun x => if x = true then f s else g s := fun s => by
  refine (hc s).bind fun x => ?_
  show Le (if x = true then _ else _) (if x = true then _ else _) _
  cases x with
  | true => exact hf s
  | false => exact hg s
theorem sn_ifG {t : S → Out (Bool × S1)} {f g : S1 → Out S2} (hc : XG Λ w w1 a eB t) (hf : SN Λ w1 w2 i f) (hg : SN Λ w1 w2 j g) : SN Λ w w2 (.iff a i j) fun s => t s >>= fun x => if x.1 = true then f x.2 else g x.2 := fun s => by
  refine (hc s).bind fun x => ?_
  show Le (if x.1 = true then _ else _) (if x.1 = true then _ else _) _
  cases x.1 with
  | true => exact hf x.2
  | false => exact hg x.2
theorem ss_ifT {t : S → Bool} {f g : S → Out (TF S1 B R)} (hc : XT Λ w a eB t) (hf : SS Λ w w1 wb P i f) (hg : SS Λ w w1 wb P j g) : SS Λ w w1 wb P (.iff a i j) fun s => if t s = true then f s else g s := fun s => by
  show LeS (sem Λ a (w s) >>= _) _ _ _ _
  rw [hc s]
  show LeS (if t s = true then _ else _) (if t s = true then _ else _) _ _ _
  cases t s with
  | true => exact hf s
  | false => exact hg s
theorem ss_ifP {t : S → Out Bool} {f g : S → Out (TF S1 B R)} (hc : XQ Λ w a eB t) (hf : SS Λ w w1 wb P i f) (hg : SS Λ w w1 wb P j g) : SS Λ w w1 wb P (.iff a i j) fun s => t s >>= fun x => if x = true then f s else g s := fun s => by
  refine LeS.bind (hc s) fun x => ?_
  show LeS (if x = true then _ else _) (if x = true then _ else _) _ _ _
  cases x with
  | true => exact hf s
  | false => exact hg s
theorem ss_ifG {t : S → Out (Bool × S1)} {f g : S1 → Out (TF S2 B R)} (hc : XG Λ w w1 a eB t) (hf : SS Λ w1 w2 wb P i f) (hg : SS Λ w1 w2 wb P j g) : SS Λ w w2 wb P (.iff a i j) fun s => t s >>= fun x => if x.1 = true then f x.2 else g x.2 := fun s => by
  refine LeS.bind (hc s) fun x => ?_
  show LeS (if x.1 = true then _ else _) (if x.1 = true then _ else _) _ _ _
  cases x.1 with
  | true => exact hf x.2
  | false => exact hg x.2
/-! leaving -/
theorem ss_ret {fr : Bool} {f : S → Out (α × S1)} {g : α → S1 → R} (ha : XG Λ w w1 a ea f) (hP : ∀ x s, P (g x s) fr (ea x) (w1 s)) : SS Λ w w2 wb P (.ret fr a) fun s => f s >>= fun p => .ok (.rt (g p.1 p.2)) := fun s => by
  refine LeS.bind (ha s) fun p => ?_
  exact ⟨fr, ea p.1, w1 p.2, rfl, hP _ _⟩
theorem ss_retP {fr : Bool} {f : S → Out α} {g : α → S → R} (ha : XQ Λ w a ea f) (hP : ∀ x s, P (g x s) fr (ea x) (w s)) : SS Λ w w2 wb P (.ret fr a) fun s => f s >>= fun x => .ok (.rt (g x s)) := fun s => by
  refine LeS.bind (ha s) fun p => ?_
  exact ⟨fr, ea p, w s, rfl, hP _ _⟩
theorem ss_retT {fr : Bool} {f : S → α} {g : α → S → R} (ha : XT Λ w a ea f) (hP : ∀ x s, P (g x s) fr (ea x) (w s)) : SS Λ w w2 wb P (.ret fr a) fun s => .ok (.rt (g (f s) s)) := ss_retP ha.p hP
theorem ss_retO {n : Nat} {g : S → α} {r : S → R} (h : ∀ s, readO (w s) n = some (ea (g s))) (hP : ∀ s, P (r s) true (ea (g s)) ((w s).set n none)) : SS Λ w w2 wb P (.retO n) fun s => .ok (.rt (r s)) := fun s => by
  show LeS (optO (readO (w s) n) >>= _) _ _ _ _
  rw [h]
  exact ⟨true, _, _, rfl, hP s⟩
theorem ss_retN {r : S → R} (hP : ∀ s, P (r s) false .none (w s)) : SS Λ w w2 wb P .retN fun s => .ok (.rt (r s)) := fun s => ⟨false, _, _, rfl, hP s⟩
theorem ss_raise {c : Str} {x : D} : SS Λ w w2 wb P (.raise c (.cst x)) fun _ => .err c x := fun s => rfl
theorem ss_raiseI {c : Str} {g : S → Int} (ha : XT Λ w a eI g) : SS Λ w w2 wb P (.raise c a) fun s => .err c (.int (g s)) := fun s => by
  show LeS (sem Λ a (w s) >>= _) _ _ _ _
  rw [ha s]; exact rfl
theorem ss_brk {h : S → B} (hb : ∀ s, w s = wb (h s)) : SS Λ w w2 wb P .brk fun s => .ok (.bk (h s)) := fun s => by
  show Out.ok (Fl.bk (w s)) = Out.ok (Fl.bk (wb (h s)))
  rw [hb]
/-! loops -/
def forN {X T : Type} (body : X → T → Out T) : List X → T → Out T
  | [], t => .ok t
  | x :: l, t => body x t >>= fun t1 => forN body l t1
def forS {X T R : Type} (body : X → T → Out (TF T T R)) : List X → T → Out (TF T Empty R)
  | [], t => .ok (.nx t)
  | x :: l, t => body x t >>= fun f => match f with
    | .nx t1 => forS body l t1
    | .bk t1 => .ok (.nx t1)
    | .rt r => .ok (.rt r)
def noBk {T B R : Type} (o : Out (TF T Empty R)) : Out (TF T B R) := o >>= fun f => match f with
  | .nx t => .ok (.nx t)
  | .bk b => nomatch b
  | .rt r => .ok (.rt r)
theorem sem_for {p : Pat} {src : IR} {ŝ : FS} : semS Λ (.for p src i) ŝ = (sem Λ src ŝ >>= fun q => optO (lstD q.1) >>= fun l => forLoop (fun d s => optO (bindP p d s) >>= fun s1 => semS Λ i s1) l q.2) := rfl
theorem forN_run {wt : S × α → FS} {p : Pat} {body : S × α → Out S} (hb : ∀ s x, bindP p (ea x) (w s) = some (wt (s, x))) (hi : SN Λ wt w i body) : ∀ (l : List α) (s : S), Le (forLoop (fun d s => optO (bindP p d s) >>= fun s1 => semS Λ i s1) (l.map ea) (w s)) (forN (fun x t => body (t, x)) l s) fun s1 => .nx (w s1)
  | [], s => rfl
  | x :: l, s => by
    show Le ((optO (bindP p (ea x) (w s)) >>= fun s1 => semS Λ i s1) >>= _) _ _
    rw [hb]
    refine (hi (s, x)).bind fun t => ?_
    exact forN_run hb hi l t
theorem sn_forG {p : Pat} {src : IR} {wt : S1 × α → FS} {fs : S → Out (List α × S1)} {body : S1 × α → Out S1} (hs : XG Λ w w1 src (eL ea) fs) (hb : ∀ s x, bindP p (ea x) (w1 s) = some (wt (s, x))) (hi : SN Λ wt w1 i body) :
    SN Λ w w1 (.for p src i) fun s => fs s >>= fun q => forN (fun x t => body (t, x)) q.1 q.2 := fun s => by
  rw [sem_for]
  exact (hs s).bind fun q => forN_run hb hi q.1 q.2
theorem sn_for {p : Pat} {src : IR} {wt : S × α → FS} {fs : S → Out (List α)} {body : S × α → Out S} (hs : XQ Λ w src (eL ea) fs) (hb : ∀ s x, bindP p (ea x) (w s) = some (wt (s, x))) (hi : SN Λ wt w i body) :
    SN Λ w w (.for p src i) fun s => fs s >>= fun l => forN (fun x t => body (t, x)) l s := fun s => by
  rw [sem_for]
  exact (hs s).bind fun l => forN_run hb hi l s
theorem forS_run {wt : S × α → FS} {p : Pat} {body : S × α → Out (TF S S R)} (hb : ∀ s x, bindP p (ea x) (w s) = some (wt (s, x))) (hi : SS Λ wt w w P i body) : ∀ (l : List α) (s : S), LeS (forLoop (fun d s => optO (bindP p d s) >>= fun s1 => semS Λ i s1) (l.map ea) (w s)) (noBk (forS (fun x t => body (t, x)) l s)) w wb P
  | [], s => rfl
  | x :: l, s => by
    show LeS ((optO (bindP p (ea x) (w s)) >>= fun s1 => semS Λ i s1) >>= _) (noBk (body (s, x) >>= _)) _ _ _
    rw [hb]
    show LeS (semS Λ i (wt (s, x)) >>= _) _ _ _ _
    have q := hi (s, x)
    cases hf : body (s, x) with
    | bad => trivial
    | err c y =>
      rw [hf] at q
      have q : semS Λ i (wt (s, x)) = .err c y := q
      rw [q]; exact rfl
    | ok t =>
      rw [hf] at q
      cases t with
      | nx s1 =>
        have q : semS Λ i (wt (s, x)) = .ok (.nx (w s1)) := q
        rw [q]; exact forS_run hb hi l s1
      | bk s1 =>
        have q : semS Λ i (wt (s, x)) = .ok (.bk (w s1)) := q
        rw [q]; exact rfl
      | rt r =>
        obtain ⟨fr, d, ŝ, q, p⟩ := q
        rw [q]; exact ⟨fr, d, ŝ, rfl, p⟩
theorem ss_for {p : Pat} {src : IR} {wt : S × α → FS} {fs : S → Out (List α)} {body : S × α → Out (TF S S R)} (hs : XQ Λ w src (eL ea) fs) (hb : ∀ s x, bindP p (ea x) (w s) = some (wt (s, x))) (hi : SS Λ wt w w P i body) :
    SS Λ w w wb P (.for p src i) fun s => fs s >>= fun l => noBk (forS (fun x t => body (t, x)) l s) := fun s => by
  rw [sem_for]
  exact LeS.bind (hs s) fun l => forS_run hb hi l s
theorem ss_forG {p : Pat} {src : IR} {wt : S1 × α → FS} {fs : S → Out (List α × S1)} {body : S1 × α → Out (TF S1 S1 R)} (hs : XG Λ w w1 src (eL ea) fs) (hb : ∀ s x, bindP p (ea x) (w1 s) = some (wt (s, x))) (hi : SS Λ wt w1 w1 P i body) :
    SS Λ w w1 wb P (.for p src i) fun s => fs s >>= fun q => noBk (forS (fun x t => body (t, x)) q.1 q.2) := fun s => by
  rw [sem_for]
  exact LeS.bind (hs s) fun q => forS_run hb hi q.1 q.2
def whN {T : Type} (c : T → Out Bool) (body : T → Out T) : Nat → T → Out T
  | 0, _ => .bad
  | n + 1, t => c t >>= fun x => if x = true then body t >>= fun t1 => whN c body n t1 else .ok t
theorem sn_whl {n : Nat} {t : S → Out Bool} {body : S → Out S} (hc : XQ Λ w a eB t) (hi : SN Λ w w i body) : SN Λ w w (.whl n a i) fun s => whN t body n s := fun s => by
  show Le (whileLoop (fun s => sem Λ a s >>= fun p => optO (tstD p.1) >>= fun t => .ok (t, p.2)) (semS Λ i) n (w s)) (whN t body n s) _
  induction n generalizing s with
  | zero => trivial
  | succ n ih =>
    show Le ((sem Λ a (w s) >>= fun p => optO (tstD p.1) >>= fun t => (.ok (t, p.2) : Out (Bool × FS))) >>= _) (t s >>= _) _
    have q := hc s
    cases hf : t s with
    | bad => trivial
    | err c y =>
      rw [hf] at q
      have q : sem Λ a (w s) = .err c y := q
      rw [q]; exact rfl
    | ok x =>
      rw [hf] at q
      have q : sem Λ a (w s) = .ok (eB x, w s) := q
      rw [q]
      show Le (if x = true then semS Λ i (w s) >>= _ else _) (if x = true then _ else _) _
      cases x with
      | false => exact rfl
      | true =>
        rw [if_pos rfl, if_pos rfl]
        exact (hi s).bind fun s1 => ih s1
def whS {T R : Type} (c : T → Out Bool) (body : T → Out (TF T T R)) : Nat → T → Out (TF T Empty R)
  | 0, _ => .bad
  | n + 1, t => c t >>= fun x => if x = true then body t >>= fun f => (match f with
    | .nx t1 => whS c body n t1
    | .bk t1 => .ok (.nx t1)
    | .rt r => .ok (.rt r)) else .ok (.nx t)
/-! ### a def -/
theorem rf_of {fd : Fd} {i : IS} {Φ : Tab} {Γ : Str → Option D} {N : Nat} {fr : Bool} {es : α → List D} {er : β → D} {f : α → Out β} {t : α → Out (TF S Empty β)} {w0 : α → FS} (hF : fd.F = runF ⟨Φ, Γ⟩ i N false fr) (hl : fd.lent = false) (hw : ∀ c x, enter false N c (es x) = w0 x)
    (h : SS ⟨Φ, Γ⟩ w0 w (fun e => nomatch e) (fun r fr' d _ => fr' = fr ∧ d = er r) i t) (hf : ∀ x, (t x >>= fun u => match u with
      | .rt r => .ok r
      | .nx _ => .bad
      | .bk e => nomatch e) = f x) : RF fd es er f := ⟨hl, fun c x => by
  rw [hF, ← hf]
  show Le (semS ⟨Φ, Γ⟩ i (enter false N c (es x)) >>= _) _ _
  rw [hw]
  have q := h x
  cases ht : t x with
  | bad => trivial
  | err c y =>
    rw [ht] at q
    have q : semS ⟨Φ, Γ⟩ i (w0 x) = .err c y := q
    rw [q]; exact rfl
  | ok u =>
    rw [ht] at q
    cases u with
    | nx s => trivial
    | bk e => exact nomatch e
    | rt r =>
      obtain ⟨fr', d, ŝ, q, rfl, rfl⟩ := q
      rw [q]
      show (if fr' = fr' then leave false (er r) ŝ else .bad) = _
      rw [if_pos rfl]; rfl⟩
/-- a def that ends without an answer -/
theorem rf_ofN {fd : Fd} {i : IS} {Φ : Tab} {Γ : Str → Option D} {N : Nat} {es : α → List D} {f : α → Out Unit} {t : α → Out (TF S Empty Unit)} {w0 : α → FS} (hF : fd.F = runF ⟨Φ, Γ⟩ i N false false) (hl : fd.lent = false) (hw : ∀ c x, enter false N c (es x) = w0 x)
    (h : SS ⟨Φ, Γ⟩ w0 w (fun e => nomatch e) (fun r fr' d _ => fr' = false ∧ d = eN r) i t) (hf : ∀ x, (t x >>= fun u => match u with
      | .rt r => .ok ()
      | .nx _ => .ok ()
      | .bk e => nomatch e) = f x) : RF fd es eN f := ⟨hl, fun c x => by
  rw [hF, ← hf]
  show Le (semS ⟨Φ, Γ⟩ i (enter false N c (es x)) >>= _) _ _
  rw [hw]
  have q := h x
  cases ht : t x with
  | bad => trivial
  | err c y =>
    rw [ht] at q
    have q : semS ⟨Φ, Γ⟩ i (w0 x) = .err c y := q
    rw [q]; exact rfl
  | ok u =>
    rw [ht] at q
    cases u with
    | nx s =>
      have q : semS ⟨Φ, Γ⟩ i (w0 x) = .ok (.nx (w s)) := q
      rw [q]; exact rfl
    | bk e => exact nomatch e
    | rt r =>
      obtain ⟨fr', d, ŝ, q, rfl, rfl⟩ := q
      rw [q]; exact rfl⟩
/-- a def that changes what it is handed first -/
theorem rc_of {fd : Fd} {i : IS} {Φ : Tab} {Γ : Str → Option D} {N : Nat} {fr : Bool} {ec : γ → D} {es : α → List D} {er : β → D} {f : γ → α → Out (β × γ)} {t : γ × α → Out (TF S Empty (β × γ))} {w0 : γ × α → FS} (hF : fd.F = runF ⟨Φ, Γ⟩ i N true fr) (hl : fd.lent = true) (hw : ∀ c x, enter true N (ec c) (es x) = w0 (c, x))
    (h : SS ⟨Φ, Γ⟩ w0 w (fun e => nomatch e) (fun r fr' d ŝ => fr' = fr ∧ d = er r.1 ∧ readO ŝ 0 = some (ec r.2)) i t) (hf : ∀ c x, (t (c, x) >>= fun u => match u with
      | .rt r => .ok r
      | .nx _ => .bad
      | .bk e => nomatch e) = f c x) : RC fd ec es er f := ⟨hl, fun c x => by
  rw [hF, ← hf]
  show Le (semS ⟨Φ, Γ⟩ i (enter true N (ec c) (es x)) >>= _) _ _
  rw [hw]
  have q := h (c, x)
  cases ht : t (c, x) with
  | bad => trivial
  | err c1 y =>
    rw [ht] at q
    have q : semS ⟨Φ, Γ⟩ i (w0 (c, x)) = .err c1 y := q
    rw [q]; exact rfl
  | ok u =>
    rw [ht] at q
    cases u with
    | nx s => trivial
    | bk e => exact nomatch e
    | rt r =>
      obtain ⟨fr', d, ŝ, q, rfl, rfl, hc⟩ := q
      rw [q]
      show (if fr' = fr' then leave true (er r.1) ŝ else .bad) = _
      rw [if_pos rfl]
      show (optO (readO ŝ 0) >>= fun c => (.ok (er r.1, c) : Out (D × D))) = _
      rw [hc]; rfl⟩
end
end Fw

set_option Elab.async false
set_option linter.all false
set_option maxRecDepth 100000
set_option maxHeartbeats 4000000
namespace Fw
open PySem
section
variable {Λ : Env} {S S1 S2 S3 B R C M α β γ δ ε : Type} {w : S → FS} {w1 : S1 → FS} {w2 : S2 → FS} {w3 : S3 → FS} {wb : B → FS} {a b c d : IR} {ea : α → D} {eb : β → D} {ec : γ → D} {ed : δ → D} {ee : ε → D} {i j : IS}
/-! by the constructor -/
theorem xt_bin {k : BOp} {ga : S → α} {gb : S → β} {h : α → β → γ} (ho : ∀ x y, appBin k (ea x) (eb y) = some (ec (h x y))) (ha : XT Λ w a ea ga) (hb : XT Λ w b eb gb) : XT Λ w (.bin k a b) ec fun s => h (ga s) (gb s) := fun s => by rw [sem_bin]; exact xt2 ho ha hb s
theorem xt_cmp {k : COp} {ga : S → α} {gb : S → β} {h : α → β → Bool} (ho : ∀ x y, appCmp k (ea x) (eb y) = some (eB (h x y))) (ha : XT Λ w a ea ga) (hb : XT Λ w b eb gb) : XT Λ w (.cmp k a b) eB fun s => h (ga s) (gb s) := fun s => by rw [sem_cmp]; exact xt2 ho ha hb s
theorem xp_bin {k : BOp} {fa : S → Out α} {fb : S → Out β} {h : α → β → Out γ} (ho : ∀ x y, Le (optO (appBin k (ea x) (eb y))) (h x y) ec) (ha : XQ Λ w a ea fa) (hb : XQ Λ w b eb fb) : XQ Λ w (.bin k a b) ec fun s => fa s >>= fun x => fb s >>= fun y => h x y := fun s => by rw [sem_bin]; exact xp2 ho ha hb s
theorem xp_cmp {k : COp} {fa : S → Out α} {fb : S → Out β} {h : α → β → Out Bool} (ho : ∀ x y, Le (optO (appCmp k (ea x) (eb y))) (h x y) eB) (ha : XQ Λ w a ea fa) (hb : XQ Λ w b eb fb) : XQ Λ w (.cmp k a b) eB fun s => fa s >>= fun x => fb s >>= fun y => h x y := fun s => by rw [sem_cmp]; exact xp2 ho ha hb s
theorem xp_idx {fa : S → Out α} {fb : S → Out β} {h : α → β → Out γ} (ho : ∀ x y, Le (optO (appIdx (ea x) (eb y))) (h x y) ec) (ha : XQ Λ w a ea fa) (hb : XQ Λ w b eb fb) : XQ Λ w (.idx a b) ec fun s => fa s >>= fun x => fb s >>= fun y => h x y := fun s => by rw [sem_idx]; exact xp2 ho ha hb s
theorem xg_bin {k : BOp} {fa : S → Out (α × S1)} {fb : S1 → Out (β × S2)} {h : α → β → Out γ} (hn : isBor a = false) (ho : ∀ x y, Le (optO (appBin k (ea x) (eb y))) (h x y) ec) (ha : XG Λ w w1 a ea fa) (hb : XG Λ w1 w2 b eb fb) : XG Λ w w2 (.bin k a b) ec fun s => fa s >>= fun p => fb p.2 >>= fun q => h p.1 q.1 >>= fun z => .ok (z, q.2) := fun s => by rw [sem_bin]; exact xg2 hn ho ha hb s
theorem xg_cmp {k : COp} {fa : S → Out (α × S1)} {fb : S1 → Out (β × S2)} {h : α → β → Out Bool} (hn : isBor a = false) (ho : ∀ x y, Le (optO (appCmp k (ea x) (eb y))) (h x y) eB) (ha : XG Λ w w1 a ea fa) (hb : XG Λ w1 w2 b eb fb) : XG Λ w w2 (.cmp k a b) eB fun s => fa s >>= fun p => fb p.2 >>= fun q => h p.1 q.1 >>= fun z => .ok (z, q.2) := fun s => by rw [sem_cmp]; exact xg2 hn ho ha hb s
theorem xg_idx {fa : S → Out (α × S1)} {fb : S1 → Out (β × S2)} {h : α → β → Out γ} (hn : isBor a = false) (ho : ∀ x y, Le (optO (appIdx (ea x) (eb y))) (h x y) ec) (ha : XG Λ w w1 a ea fa) (hb : XG Λ w1 w2 b eb fb) : XG Λ w w2 (.idx a b) ec fun s => fa s >>= fun p => fb p.2 >>= fun q => h p.1 q.1 >>= fun z => .ok (z, q.2) := fun s => by rw [sem_idx]; exact xg2 hn ho ha hb s
theorem xg_binb {k : BOp} {i : Nat} {g : S1 → α} {fb : S → Out (β × S1)} {h : α → β → Out γ} {g0 : S → D} (h0 : ∀ s, readS (w s) i = some (g0 s)) (hr : ∀ s, readS (w1 s) i = some (ea (g s))) (ho : ∀ x y, Le (optO (appBin k (ea x) (eb y))) (h x y) ec) (hb : XG Λ w w1 b eb fb) : XG Λ w w1 (.bin k (.bor i) b) ec fun s => fb s >>= fun q => h (g q.2) q.1 >>= fun z => .ok (z, q.2) := fun s => by rw [sem_bin]; exact xg2b h0 hr ho hb s
theorem xg_idxb {i : Nat} {g : S1 → α} {fb : S → Out (β × S1)} {h : α → β → Out γ} {g0 : S → D} (h0 : ∀ s, readS (w s) i = some (g0 s)) (hr : ∀ s, readS (w1 s) i = some (ea (g s))) (ho : ∀ x y, Le (optO (appIdx (ea x) (eb y))) (h x y) ec) (hb : XG Λ w w1 b eb fb) : XG Λ w w1 (.idx (.bor i) b) ec fun s => fb s >>= fun q => h (g q.2) q.1 >>= fun z => .ok (z, q.2) := fun s => by rw [sem_idx]; exact xg2b h0 hr ho hb s
/-! a written right operand -/
theorem xt_bink {k : BOp} {y : D} {g : S → α} {h : α → γ} (ho : ∀ x, appBin k (ea x) y = some (ec (h x))) (ha : XT Λ w a ea g) : XT Λ w (.bin k a (.cst y)) ec fun s => h (g s) := fun s => by rw [sem_bin, sem2_cst]; exact xt1 ho ha s
theorem xp_bink {k : BOp} {y : D} {f : S → Out α} {h : α → Out γ} (ho : ∀ x, Le (optO (appBin k (ea x) y)) (h x) ec) (ha : XQ Λ w a ea f) : XQ Λ w (.bin k a (.cst y)) ec fun s => f s >>= h := fun s => by rw [sem_bin, sem2_cst]; exact xp1 ho ha s
theorem xg_bink {k : BOp} {y : D} {f : S → Out (α × S1)} {h : α → Out γ} (ho : ∀ x, Le (optO (appBin k (ea x) y)) (h x) ec) (ha : XG Λ w w1 a ea f) : XG Λ w w1 (.bin k a (.cst y)) ec fun s => f s >>= fun p => h p.1 >>= fun z => .ok (z, p.2) := fun s => by rw [sem_bin, sem2_cst]; exact xg1 ho ha s
theorem xt_idxk {y : D} {g : S → α} {h : α → γ} (ho : ∀ x, appIdx (ea x) y = some (ec (h x))) (ha : XT Λ w a ea g) : XT Λ w (.idx a (.cst y)) ec fun s => h (g s) := fun s => by rw [sem_idx, sem2_cst]; exact xt1 ho ha s
theorem xp_idxk {y : D} {f : S → Out α} {h : α → Out γ} (ho : ∀ x, Le (optO (appIdx (ea x) y)) (h x) ec) (ha : XQ Λ w a ea f) : XQ Λ w (.idx a (.cst y)) ec fun s => f s >>= h := fun s => by rw [sem_idx, sem2_cst]; exact xp1 ho ha s
theorem xg_idxk {y : D} {f : S → Out (α × S1)} {h : α → Out γ} (ho : ∀ x, Le (optO (appIdx (ea x) y)) (h x) ec) (ha : XG Λ w w1 a ea f) : XG Λ w w1 (.idx a (.cst y)) ec fun s => f s >>= fun p => h p.1 >>= fun z => .ok (z, p.2) := fun s => by rw [sem_idx, sem2_cst]; exact xg1 ho ha s
/-- a written left operand -/
theorem xt_bink' {k : BOp} {y : D} {g : S → α} {h : α → γ} (ho : ∀ x, appBin k y (ea x) = some (ec (h x))) (ha : XT Λ w a ea g) : XT Λ w (.bin k (.cst y) a) ec fun s => h (g s) := fun s => by
  rw [sem_bin]
  show (sem Λ a (w s) >>= _) = _
  rw [ha s]
  show (optO (appBin k y (ea (g s))) >>= _) = _
  rw [ho]; rfl
theorem xp_bink' {k : BOp} {y : D} {f : S → Out α} {h : α → Out γ} (ho : ∀ x, Le (optO (appBin k y (ea x))) (h x) ec) (ha : XQ Λ w a ea f) : XQ Λ w (.bin k (.cst y) a) ec fun s => f s >>= h := fun s => by
  rw [sem_bin]
  refine (ha s).bind fun x => ?_
  exact (ho x).map fun _ => rfl
theorem le_some {o : Option D} {x : γ} (h : o = some (ec x)) : Le (optO o) (.ok x) ec := by rw [h]; exact rfl
section
variable {o1 : D → Option D}
theorem xt_b1 {k : B1} {g : S → α} {h : α → β} (ho : ∀ x, app1 k (ea x) = some (eb (h x))) (ha : XT Λ w a ea g) : XT Λ w (.b1 k a) eb fun s => h (g s) := fun s => by rw [sem_b1]; exact xt1 ho ha s
theorem xp_b1 {k : B1} {f : S → Out α} {h : α → Out β} (ho : ∀ x, Le (optO (app1 k (ea x))) (h x) eb) (ha : XQ Λ w a ea f) : XQ Λ w (.b1 k a) eb fun s => f s >>= h := fun s => by rw [sem_b1]; exact xp1 ho ha s
theorem xg_b1 {k : B1} {f : S → Out (α × S1)} {h : α → Out β} (ho : ∀ x, Le (optO (app1 k (ea x))) (h x) eb) (ha : XG Λ w w1 a ea f) : XG Λ w w1 (.b1 k a) eb fun s => f s >>= fun p => h p.1 >>= fun z => .ok (z, p.2) := fun s => by rw [sem_b1]; exact xg1 ho ha s
theorem xt_toL {g : S → α} {h : α → β} (ho : ∀ x, toLD (ea x) = some (eb (h x))) (ha : XT Λ w a ea g) : XT Λ w (.toL a) eb fun s => h (g s) := fun s => by rw [sem_toL]; exact xt1 ho ha s
theorem xp_toL {f : S → Out α} {h : α → Out β} (ho : ∀ x, Le (optO (toLD (ea x))) (h x) eb) (ha : XQ Λ w a ea f) : XQ Λ w (.toL a) eb fun s => f s >>= h := fun s => by rw [sem_toL]; exact xp1 ho ha s
theorem xg_toL {f : S → Out (α × S1)} {h : α → Out β} (ho : ∀ x, Le (optO (toLD (ea x))) (h x) eb) (ha : XG Λ w w1 a ea f) : XG Λ w w1 (.toL a) eb fun s => f s >>= fun p => h p.1 >>= fun z => .ok (z, p.2) := fun s => by rw [sem_toL]; exact xg1 ho ha s
theorem xt_toT {g : S → α} {h : α → β} (ho : ∀ x, toTD (ea x) = some (eb (h x))) (ha : XT Λ w a ea g) : XT Λ w (.toT a) eb fun s => h (g s) := fun s => by rw [sem_toT]; exact xt1 ho ha s
theorem xp_toT {f : S → Out α} {h : α → Out β} (ho : ∀ x, Le (optO (toTD (ea x))) (h x) eb) (ha : XQ Λ w a ea f) : XQ Λ w (.toT a) eb fun s => f s >>= h := fun s => by rw [sem_toT]; exact xp1 ho ha s
theorem xg_toT {f : S → Out (α × S1)} {h : α → Out β} (ho : ∀ x, Le (optO (toTD (ea x))) (h x) eb) (ha : XG Λ w w1 a ea f) : XG Λ w w1 (.toT a) eb fun s => f s >>= fun p => h p.1 >>= fun z => .ok (z, p.2) := fun s => by rw [sem_toT]; exact xg1 ho ha s
theorem xt_revL {g : S → List α} (ha : XT Λ w a (eL ea) g) : XT Λ w (.revL a) (eL ea) fun s => (g s).reverse := fun s => by rw [sem_revL]; exact xt1 (eb := eL ea) (h := List.reverse) o_revL ha s
theorem xt_isi {t : Ty} {g : S → α} {h : α → Bool} (ho : ∀ x, boolO1 t (ea x) = some (eB (h x))) (ha : XT Λ w a ea g) : XT Λ w (.isi t a) eB fun s => h (g s) := fun s => by rw [sem_isi]; exact xt1 ho ha s
theorem xp_isi {t : Ty} {f : S → Out D} (ha : XQ Λ w a eX f) : XQ Λ w (.isi t a) eB fun s => f s >>= fun x => optO (isTy t x) := fun s => by
  rw [sem_isi]
  refine xp1 (h := fun x => optO (isTy t x)) (fun x => ?_) ha s
  show Le (optO ((isTy t x).map PyData.bool)) _ _
  cases isTy t x <;> first | rfl | trivial
theorem xt_neg {g : S → Int} (ha : XT Λ w a eI g) : XT Λ w (.neg a) eI fun s => -(g s) := fun s => by rw [sem_neg]; exact xt1 (eb := eI) (h := fun x => -x) o_neg ha s
theorem xp_neg {f : S → Out Int} (ha : XQ Λ w a eI f) : XQ Λ w (.neg a) eI fun s => f s >>= fun x => .ok (-x) := fun s => by rw [sem_neg]; exact xp1 (eb := eI) (h := fun x => .ok (-x)) (fun x => le_some (o_neg x)) ha s
theorem xt_b2 {k : B2} {ga : S → α} {gb : S → β} {h : α → β → γ} (ho : ∀ x y, app2 k (ea x) (eb y) = some (ec (h x y))) (ha : XT Λ w a ea ga) (hb : XT Λ w b eb gb) : XT Λ w (.b2 k a b) ec fun s => h (ga s) (gb s) := fun s => by rw [sem_b2]; exact xtN ho ha hb s
theorem xp_b2 {k : B2} {fa : S → Out α} {fb : S → Out β} {h : α → β → Out γ} (ho : ∀ x y, Le (optO (app2 k (ea x) (eb y))) (h x y) ec) (ha : XQ Λ w a ea fa) (hb : XQ Λ w b eb fb) : XQ Λ w (.b2 k a b) ec fun s => fa s >>= fun x => fb s >>= fun y => h x y := fun s => by rw [sem_b2]; exact xpN ho ha hb s
/-! what is walked -/
theorem xt_iseq {g : S → α} {h : α → List β} (ho : ∀ x, seqLD (ea x) = some (eL eb (h x))) (ha : XT Λ w a ea g) : XT Λ w (.iseq a) (eL eb) fun s => h (g s) := fun s => by rw [sem_iseq]; exact xt1 (eb := eL eb) ho ha s
theorem xp_iseq {f : S → Out α} {h : α → Out (List β)} (ho : ∀ x, Le (optO (seqLD (ea x))) (h x) (eL eb)) (ha : XQ Λ w a ea f) : XQ Λ w (.iseq a) (eL eb) fun s => f s >>= h := fun s => by rw [sem_iseq]; exact xp1 ho ha s
theorem xg_iseq {f : S → Out (α × S1)} {h : α → Out (List β)} (ho : ∀ x, Le (optO (seqLD (ea x))) (h x) (eL eb)) (ha : XG Λ w w1 a ea f) : XG Λ w w1 (.iseq a) (eL eb) fun s => f s >>= fun p => h p.1 >>= fun z => .ok (z, p.2) := fun s => by rw [sem_iseq]; exact xg1 ho ha s
theorem xt_ienum {g : S → α} {h : α → β} (ho : ∀ x, enumLD (ea x) = some (eb (h x))) (ha : XT Λ w a ea g) : XT Λ w (.ienum a) eb fun s => h (g s) := fun s => by rw [sem_ienum]; exact xt1 ho ha s
theorem xp_ienum {f : S → Out α} {h : α → Out β} (ho : ∀ x, Le (optO (enumLD (ea x))) (h x) eb) (ha : XQ Λ w a ea f) : XQ Λ w (.ienum a) eb fun s => f s >>= h := fun s => by rw [sem_ienum]; exact xp1 ho ha s
theorem xt_irngk {n : Int} (h : rngOk n = true) : XT Λ w (.irng (.cst (.int n))) (eL eI) fun _ => rng 0 n := fun s => by
  show (if rngOk n = true then (.ok (PyData.list (rngL 0 n), w s) : Out (D × FS)) else .bad) = _
  rw [if_pos h, rng_map]; rfl
theorem xp_irng {f : S → Out Int} (ha : XQ Λ w a eI f) : XQ Λ w (.irng a) (eL eI) fun s => f s >>= rng0 := fun s => by rw [sem_irng]; exact xp1 p_rng0 ha s
theorem xg_irng {f : S → Out (Int × S1)} (ha : XG Λ w w1 a eI f) : XG Λ w w1 (.irng a) (eL eI) fun s => f s >>= fun p => rng0 p.1 >>= fun z => .ok (z, p.2) := fun s => by rw [sem_irng]; exact xg1 p_rng0 ha s
theorem xp_irng2 {fa fb : S → Out Int} (ha : XQ Λ w a eI fa) (hb : XQ Λ w b eI fb) : XQ Λ w (.irng2 a b) (eL eI) fun s => fa s >>= fun x => fb s >>= fun y => rngG x y := fun s => by rw [sem_irng2]; exact xpN p_rng2 ha hb s
theorem xt_izip {ga : S → α} {gb : S → β} {h : α → β → γ} (ho : ∀ x y, zipLD (ea x) (eb y) = some (ec (h x y))) (ha : XT Λ w a ea ga) (hb : XT Λ w b eb gb) : XT Λ w (.izip a b) ec fun s => h (ga s) (gb s) := fun s => by rw [sem_izip]; exact xtN ho ha hb s
theorem xp_izip {fa : S → Out α} {fb : S → Out β} {h : α → β → Out γ} (ho : ∀ x y, Le (optO (zipLD (ea x) (eb y))) (h x y) ec) (ha : XQ Λ w a ea fa) (hb : XQ Λ w b eb fb) : XQ Λ w (.izip a b) ec fun s => fa s >>= fun x => fb s >>= fun y => h x y := fun s => by rw [sem_izip]; exact xpN ho ha hb s
theorem xt_ienz {ga : S → α} {gb : S → β} {h : α → β → γ} (ho : ∀ x y, enzLD (ea x) (eb y) = some (ec (h x y))) (ha : XT Λ w a ea ga) (hb : XT Λ w b eb gb) : XT Λ w (.ienz a b) ec fun s => h (ga s) (gb s) := fun s => by rw [sem_ienz]; exact xtN ho ha hb s
theorem xp_ienz {fa : S → Out α} {fb : S → Out β} {h : α → β → Out γ} (ho : ∀ x y, Le (optO (enzLD (ea x) (eb y))) (h x y) ec) (ha : XQ Λ w a ea fa) (hb : XQ Λ w b eb fb) : XQ Λ w (.ienz a b) ec fun s => fa s >>= fun x => fb s >>= fun y => h x y := fun s => by rw [sem_ienz]; exact xpN ho ha hb s
theorem xp_rngL {f : S → Out Int} (ha : XQ Λ w a eI f) : XQ Λ w (.rngL a) (eL eI) fun s => f s >>= rngC := fun s => by rw [sem_rngL]; exact xp1 p_rngL ha s
theorem xp_rngT {f : S → Out Int} (ha : XQ Λ w a eI f) : XQ Λ w (.rngT a) (eU eI) fun s => f s >>= rngC := fun s => by rw [sem_rngT]; exact xp1 p_rngT ha s
end
/-! ### blocks -/
theorem sn_fgt {vs : List Nat} {h : S → S1} (hw : ∀ s, wipeF (w s) vs = w1 (h s)) : SN Λ w w1 (.fgt vs) fun s => .ok (h s) := fun s => by
  show Out.ok (Fl.nx (wipeF (w s) vs)) = _
  rw [hw]
/-- the slots seen in another way -/
theorem SN.re {f : S → Out S1} {h : S1 → S2} (k : SN Λ w w1 i f) (hw : ∀ s, w1 s = w2 (h s)) : SN Λ w w2 i fun s => f s >>= fun x => .ok (h x) := fun s => by
  have q := k s
  show Le _ (f s >>= fun x => .ok (h x)) _
  cases hf : f s with
  | ok c => rw [hf] at q; exact q.trans (by show Out.ok (Fl.nx (w1 c)) = Out.ok (Fl.nx (w2 (h c))); rw [hw])
  | err c x => rw [hf] at q; exact q
  | bad => trivial
/-- a loop; C: what stays as it is, M: what changes -/
theorem sn_forC {κ : S → C} {μ : S → M} {wv : C → M → FS} {back : C → M → S2} {p : Pat} {src : IR} {wt : C → M × α → FS} {fs : S → Out (List α)} {body : C → M × α → Out M} (hw : ∀ s, w s = wv (κ s) (μ s)) (hw2 : ∀ c m, wv c m = w2 (back c m)) (hs : XQ Λ w src (eL ea) fs)
    (hb : ∀ c m x, bindP p (ea x) (wv c m) = some (wt c (m, x))) (hi : ∀ c, SN Λ (wt c) (wv c) i (body c)) : SN Λ w w2 (.for p src i) fun s => fs s >>= fun l => forN (fun x m => body (κ s) (m, x)) l (μ s) >>= fun m => .ok (back (κ s) m) := fun s => by
  rw [sem_for]
  refine (hs s).bind fun l => ?_
  show Le (forLoop _ (l.map ea) (w s)) _ _
  rw [hw]
  have q := forN_run (w := wv (κ s)) (hb (κ s)) (hi (κ s)) l (μ s)
  cases hf : forN (fun x m => body (κ s) (m, x)) l (μ s) with
  | ok m => rw [hf] at q; exact q.trans (by show Out.ok (Fl.nx (wv (κ s) m)) = Out.ok (Fl.nx (w2 (back (κ s) m))); rw [hw2])
  | err c x => rw [hf] at q; exact q
  | bad => trivial
theorem sn_forCG {κ : S1 → C} {μ : S1 → M} {wv : C → M → FS} {back : C → M → S2} {p : Pat} {src : IR} {wt : C → M × α → FS} {fs : S → Out (List α × S1)} {body : C → M × α → Out M} (hw : ∀ s, w1 s = wv (κ s) (μ s)) (hw2 : ∀ c m, wv c m = w2 (back c m)) (hs : XG Λ w w1 src (eL ea) fs)
    (hb : ∀ c m x, bindP p (ea x) (wv c m) = some (wt c (m, x))) (hi : ∀ c, SN Λ (wt c) (wv c) i (body c)) : SN Λ w w2 (.for p src i) fun s => fs s >>= fun q => forN (fun x m => body (κ q.2) (m, x)) q.1 (μ q.2) >>= fun m => .ok (back (κ q.2) m) := fun s => by
  rw [sem_for]
  refine (hs s).bind fun l => ?_
  show Le (forLoop _ (l.1.map ea) (w1 l.2)) _ _
  rw [hw]
  have q := forN_run (w := wv (κ l.2)) (hb (κ l.2)) (hi (κ l.2)) l.1 (μ l.2)
  cases hf : forN (fun x m => body (κ l.2) (m, x)) l.1 (μ l.2) with
  | ok m => rw [hf] at q; exact q.trans (by show Out.ok (Fl.nx (wv (κ l.2) m)) = Out.ok (Fl.nx (w2 (back (κ l.2) m))); rw [hw2])
  | err c x => rw [hf] at q; exact q
  | bad => trivial
theorem sn_whlC {κ : S → C} {μ : S → M} {wv : C → M → FS} {back : C → M → S2} {n : Nat} {t : C → M → Out Bool} {body : C → M → Out M} (hw : ∀ s, w s = wv (κ s) (μ s)) (hw2 : ∀ c m, wv c m = w2 (back c m)) (hc : ∀ c, XQ Λ (wv c) a eB (t c)) (hi : ∀ c, SN Λ (wv c) (wv c) i (body c)) :
    SN Λ w w2 (.whl n a i) fun s => whN (t (κ s)) (body (κ s)) n (μ s) >>= fun m => .ok (back (κ s) m) := fun s => by
  have q : Le (semS Λ (.whl n a i) (wv (κ s) (μ s))) (whN (t (κ s)) (body (κ s)) n (μ s)) _ := sn_whl (n := n) (hc (κ s)) (hi (κ s)) (μ s)
  show Le (semS Λ (.whl n a i) (w s)) (whN (t (κ s)) (body (κ s)) n (μ s) >>= fun m => .ok (back (κ s) m)) _
  rw [hw]
  cases hf : whN (t (κ s)) (body (κ s)) n (μ s) with
  | ok m => rw [hf] at q; exact q.trans (by show Out.ok (Fl.nx (wv (κ s) m)) = Out.ok (Fl.nx (w2 (back (κ s) m))); rw [hw2])
  | err c x => rw [hf] at q; exact q
  | bad => trivial
/-! ### what is given back -/
def LeR (z : Bool) (o : Out Fl) (t : Out R) (P : R → Bool → D → FS → Prop) : Prop := match t with
  | .ok r => (∃ fr d ŝ, o = .ok (.rt fr d ŝ) ∧ P r fr d ŝ) ∨ (z = true ∧ ∃ ŝ, o = .ok (.nx ŝ) ∧ P r false .none ŝ)
  | .err c x => o = .err c x
  | .bad => True
def SR (Λ : Env) (w : S → FS) (P : R → Bool → D → FS → Prop) (z : Bool) (i : IS) (f : S → Out R) : Prop := ∀ s, LeR z (semS Λ i (w s)) (f s) P
variable {P : R → Bool → D → FS → Prop} {z : Bool}
theorem LeR.bind {o : Out β} {t : Out γ} {k : γ → β} {o2 : β → Out Fl} {t2 : γ → Out R} (h : Le o t k) (h2 : ∀ c, LeR z (o2 (k c)) (t2 c) P) : LeR z (o >>= o2) (t >>= t2) P := by
  cases t with
  | ok c => have h : o = .ok (k c) := h; subst h; exact h2 c
  | err c x => have h : o = .err c x := h; subst h; exact rfl
  | bad => trivial
theorem LeR.up {o : Out Fl} {t : Out R} (h : LeR false o t P) : LeR z o t P := by
  cases t with
  | ok r => exact .inl (h.elim id fun q => by cases q.1)
  | err c x => exact h
  | bad => trivial
theorem SR.up {f : S → Out R} (h : SR Λ w P false i f) : SR Λ w P z i f := fun s => (h s).up
theorem sr_end {g : S → R} (hP : ∀ s, P (g s) false .none (w s)) : SR Λ w P true .skip fun s => .ok (g s) := fun s => .inr ⟨rfl, _, rfl, hP s⟩
/-- behind what leaves nothing is read -/
theorem seq_rt {o : Out Fl} {t : Out R} {k : FS → Out Fl} (h : LeR false o t P) : LeR z (o >>= fun f => match f with
    | .nx s => k s
    | .rt fr d s => .ok (.rt fr d s)
    | .bk s => .ok (.bk s)) t P := by
  cases t with
  | ok r =>
    rcases h with ⟨fr, d, ŝ, rfl, p⟩ | ⟨e, _⟩
    · exact .inl ⟨fr, d, ŝ, rfl, p⟩
    · cases e
  | err c x => have h : o = .err c x := h; subst h; exact rfl
  | bad => trivial
theorem sr_ret {fr : Bool} {f : S → Out (α × S1)} {g : α → S1 → R} (ha : XG Λ w w1 a ea f) (hP : ∀ x s, P (g x s) fr (ea x) (w1 s)) : SR Λ w P z (.seq (.ret fr a) j) fun s => f s >>= fun p => .ok (g p.1 p.2) := fun s => seq_rt (by
  refine LeR.bind (ha s) fun p => ?_
  exact .inl ⟨fr, ea p.1, w1 p.2, rfl, hP _ _⟩)
theorem sr_retP {fr : Bool} {f : S → Out α} {g : α → S → R} (ha : XQ Λ w a ea f) (hP : ∀ x s, P (g x s) fr (ea x) (w s)) : SR Λ w P z (.seq (.ret fr a) j) fun s => f s >>= fun x => .ok (g x s) := fun s => seq_rt (by
  refine LeR.bind (ha s) fun p => ?_
  exact .inl ⟨fr, ea p, w s, rfl, hP _ _⟩)
/-- .. just what was read -/
theorem sr_retV {fr : Bool} {P : α → Bool → D → FS → Prop} {f : S → Out α} (ha : XQ Λ w a ea f) (hP : ∀ x s, P x fr (ea x) (w s)) : SR Λ w P z (.seq (.ret fr a) j) f := fun s => seq_rt (by
  have q := ha s
  show LeR false (sem Λ a (w s) >>= _) _ _
  cases hf : f s with
  | ok x =>
    rw [hf] at q
    have q : sem Λ a (w s) = .ok (ea x, w s) := q
    rw [q]; exact .inl ⟨fr, ea x, w s, rfl, hP _ _⟩
  | err c x =>
    rw [hf] at q
    have q : sem Λ a (w s) = .err c x := q
    rw [q]; exact rfl
  | bad => trivial)
theorem sr_retT {fr : Bool} {f : S → α} {g : α → S → R} (ha : XT Λ w a ea f) (hP : ∀ x s, P (g x s) fr (ea x) (w s)) : SR Λ w P z (.seq (.ret fr a) j) fun s => .ok (g (f s) s) := sr_retP ha.p hP
theorem sr_retO {n : Nat} {g : S → α} {r : S → R} (h : ∀ s, readO (w s) n = some (ea (g s))) (hP : ∀ s, P (r s) true (ea (g s)) ((w s).set n none)) : SR Λ w P z (.seq (.retO n) j) fun s => .ok (r s) := fun s => seq_rt (by
  show LeR false (optO (readO (w s) n) >>= _) _ _
  rw [h]
  exact .inl ⟨true, _, _, rfl, hP s⟩)
theorem sr_retN {r : S → R} (hP : ∀ s, P (r s) false .none (w s)) : SR Λ w P z (.seq .retN j) fun s => .ok (r s) := fun s => seq_rt (.inl ⟨false, _, _, rfl, hP s⟩)
theorem sr_raise {c : Str} {x : D} : SR Λ w P z (.seq (.raise c (.cst x)) j) fun _ => .err c x := fun s => seq_rt (by exact rfl)
theorem sr_seq {f : S → Out S1} {g : S1 → Out R} (h : SN Λ w w1 i f) (k : SR Λ w1 P z j g) : SR Λ w P z (.seq i j) fun s => f s >>= g := fun s => by
  show LeR z (semS Λ i (w s) >>= _) _ _
  exact LeR.bind (h s) fun x => k x
theorem sr_nev {f : S → Out R} (hf : ∀ s, f s = .bad) : SR Λ w P z i f := fun s => by rw [hf]; trivial
/-- if c: .. that leaves -/
theorem sr_ifT {i1 i2 : IS} {t : S → Bool} {f : S → Out R} {g : S → Out S1} {k : S1 → Out R} (hc : XT Λ w a eB t) (hf : SR Λ w P false i1 f) (hg : SN Λ w w1 i2 g) (hk : SR Λ w1 P z j k) : SR Λ w P z (.seq (.iff a i1 i2) j) fun s => if t s = true then f s else g s >>= k := fun s => by
  have e : semS Λ (.iff a i1 i2) (w s) = if t s = true then semS Λ i1 (w s) else semS Λ i2 (w s) := by
    show (sem Λ a (w s) >>= _) = _
    rw [hc s]; rfl
  show LeR z (semS Λ (.iff a i1 i2) (w s) >>= _) (if t s = true then f s else g s >>= k) P
  rw [e]
  cases t s with
  | true => rw [if_pos rfl, if_pos rfl]; exact seq_rt (hf s)
  | false => rw [if_neg (by decide), if_neg (by decide)]; exact LeR.bind (hg s) fun x => hk x
theorem sr_ifP {i1 i2 : IS} {t : S → Out Bool} {f : S → Out R} {g : S → Out S1} {k : S1 → Out R} (hc : XQ Λ w a eB t) (hf : SR Λ w P false i1 f) (hg : SN Λ w w1 i2 g) (hk : SR Λ w1 P z j k) : SR Λ w P z (.seq (.iff a i1 i2) j) fun s => t s >>= fun x => if x = true then f s else g s >>= k := fun s => by
  show LeR z ((sem Λ a (w s) >>= _) >>= _) (t s >>= _) P
  rw [bind_assoc]
  refine LeR.bind (hc s) fun x => ?_
  show LeR z ((if x = true then semS Λ i1 (w s) else semS Λ i2 (w s)) >>= _) (if x = true then f s else g s >>= k) P
  cases x with
  | true => rw [if_pos rfl, if_pos rfl]; exact seq_rt (hf s)
  | false => rw [if_neg (by decide), if_neg (by decide)]; exact LeR.bind (hg s) fun x => hk x
theorem sr_ifG {i1 i2 : IS} {t : S → Out (Bool × S1)} {f : S1 → Out R} {g : S1 → Out S2} {k : S2 → Out R} (hc : XG Λ w w1 a eB t) (hf : SR Λ w1 P false i1 f) (hg : SN Λ w1 w2 i2 g) (hk : SR Λ w2 P z j k) : SR Λ w P z (.seq (.iff a i1 i2) j) fun s => t s >>= fun x => if x.1 = true then f x.2 else g x.2 >>= k := fun s => by
  show LeR z ((sem Λ a (w s) >>= _) >>= _) (t s >>= _) P
  rw [bind_assoc]
  refine LeR.bind (hc s) fun x => ?_
  show LeR z ((if x.1 = true then semS Λ i1 (w1 x.2) else semS Λ i2 (w1 x.2)) >>= _) (if x.1 = true then f x.2 else g x.2 >>= k) P
  cases x.1 with
  | true => rw [if_pos rfl, if_pos rfl]; exact seq_rt (hf x.2)
  | false => rw [if_neg (by decide), if_neg (by decide)]; exact LeR.bind (hg x.2) fun x => hk x
/-- behind a loop that may leave -/
def thenR {S R : Type} (o : Out (TF S Empty R)) (k : S → Out R) : Out R := o >>= fun f => match f with
  | .nx s => k s
  | .bk b => nomatch b
  | .rt r => .ok r
theorem sr_seqS {f : S → Out (TF S1 Empty R)} {g : S1 → Out R} (h : SS Λ w w1 (fun e => nomatch e) P i f) (k : SR Λ w1 P z j g) : SR Λ w P z (.seq i j) fun s => thenR (f s) g := fun s => by
  show LeR z (semS Λ i (w s) >>= _) (thenR (f s) g) _
  have q := h s
  cases hf : f s with
  | bad => trivial
  | err c x =>
    rw [hf] at q
    have q : semS Λ i (w s) = .err c x := q
    rw [q]; exact rfl
  | ok t =>
    rw [hf] at q
    cases t with
    | nx s1 =>
      have q : semS Λ i (w s) = .ok (.nx (w1 s1)) := q
      rw [q]; exact k s1
    | bk b => exact nomatch b
    | rt r =>
      obtain ⟨fr, d, ŝ, q, p⟩ := q
      rw [q]; exact .inl ⟨fr, d, ŝ, rfl, p⟩
/-- a loop that may leave, in a def -/
theorem ss_forC {κ : S → C} {μ : S → M} {wv : C → M → FS} {back : C → M → S2} {p : Pat} {src : IR} {wt : C → M × α → FS} {fs : S → Out (List α)} {body : C → M × α → Out (TF M M R)} (hw : ∀ s, w s = wv (κ s) (μ s)) (hw2 : ∀ c m, wv c m = w2 (back c m)) (hs : XQ Λ w src (eL ea) fs)
    (hb : ∀ c m x, bindP p (ea x) (wv c m) = some (wt c (m, x))) (hi : ∀ c, SS Λ (wt c) (wv c) (wv c) P i (body c)) : SS Λ w w2 wb P (.for p src i) fun s => fs s >>= fun l => forS (fun x m => body (κ s) (m, x)) l (μ s) >>= fun f => (match f with
      | .nx m => .ok (.nx (back (κ s) m))
      | .bk b => nomatch b
      | .rt r => .ok (.rt r)) := fun s => by
  rw [sem_for]
  refine LeS.bind (hs s) fun l => ?_
  show LeS (forLoop _ (l.map ea) (w s)) _ _ _ _
  rw [hw]
  have q := forS_run (w := wv (κ s)) (wb := wb) (hb (κ s)) (hi (κ s)) l (μ s)
  unfold noBk at q
  cases hf : forS (fun x m => body (κ s) (m, x)) l (μ s) with
  | ok t =>
    rw [hf] at q
    cases t with
    | nx m => exact Eq.trans q (by rw [hw2])
    | bk b => exact nomatch b
    | rt r => exact q
  | err c x => rw [hf] at q; exact q
  | bad => trivial
theorem ss_forCG {κ : S1 → C} {μ : S1 → M} {wv : C → M → FS} {back : C → M → S2} {p : Pat} {src : IR} {wt : C → M × α → FS} {fs : S → Out (List α × S1)} {body : C → M × α → Out (TF M M R)} (hw : ∀ s, w1 s = wv (κ s) (μ s)) (hw2 : ∀ c m, wv c m = w2 (back c m)) (hs : XG Λ w w1 src (eL ea) fs)
    (hb : ∀ c m x, bindP p (ea x) (wv c m) = some (wt c (m, x))) (hi : ∀ c, SS Λ (wt c) (wv c) (wv c) P i (body c)) : SS Λ w w2 wb P (.for p src i) fun s => fs s >>= fun q => forS (fun x m => body (κ q.2) (m, x)) q.1 (μ q.2) >>= fun f => (match f with
      | .nx m => .ok (.nx (back (κ q.2) m))
      | .bk b => nomatch b
      | .rt r => .ok (.rt r)) := fun s => by
  rw [sem_for]
  refine LeS.bind (hs s) fun l => ?_
  show LeS (forLoop _ (l.1.map ea) (w1 l.2)) _ _ _ _
  rw [hw]
  have q := forS_run (w := wv (κ l.2)) (wb := wb) (hb (κ l.2)) (hi (κ l.2)) l.1 (μ l.2)
  unfold noBk at q
  cases hf : forS (fun x m => body (κ l.2) (m, x)) l.1 (μ l.2) with
  | ok t =>
    rw [hf] at q
    cases t with
    | nx m => exact Eq.trans q (by rw [hw2])
    | bk b => exact nomatch b
    | rt r => exact q
  | err c x => rw [hf] at q; exact q
  | bad => trivial
/-! ### a def -/
theorem rf_sr {fd : Fd} {i : IS} {Φ : Tab} {Γ : Str → Option D} {N : Nat} {fr : Bool} {es : α → List D} {er : β → D} {f : α → Out β} {w0 : α → FS} (hF : fd.F = runF ⟨Φ, Γ⟩ i N false fr) (hl : fd.lent = false) (hw : ∀ c x, enter false N c (es x) = w0 x)
    (h : SR ⟨Φ, Γ⟩ w0 (fun r fr' d _ => fr' = fr ∧ d = er r) z i f) : RF fd es er f := ⟨hl, fun c x => by
  rw [hF]
  show Le (semS ⟨Φ, Γ⟩ i (enter false N c (es x)) >>= _) _ _
  rw [hw]
  have q := h x
  cases ht : f x with
  | bad => trivial
  | err c y =>
    rw [ht] at q
    have q : semS ⟨Φ, Γ⟩ i (w0 x) = .err c y := q
    rw [q]; exact rfl
  | ok r =>
    rw [ht] at q
    rcases q with ⟨fr', d, ŝ, q, rfl, rfl⟩ | ⟨_, ŝ, q, rfl, hd⟩
    · rw [q]
      show (if fr' = fr' then leave false (er r) ŝ else .bad) = _
      rw [if_pos rfl]; rfl
    · rw [q]
      show Out.ok (PyData.none, PyData.none) = Out.ok (er r, PyData.none)
      rw [← hd]⟩
theorem rc_sr {fd : Fd} {i : IS} {Φ : Tab} {Γ : Str → Option D} {N : Nat} {fr : Bool} {ec : γ → D} {es : α → List D} {er : β → D} {f : γ → α → Out (β × γ)} {t : γ × α → Out (β × γ)} {w0 : γ × α → FS} (hF : fd.F = runF ⟨Φ, Γ⟩ i N true fr) (hl : fd.lent = true) (hw : ∀ c x, enter true N (ec c) (es x) = w0 (c, x))
    (h : SR ⟨Φ, Γ⟩ w0 (fun r fr' d ŝ => fr' = fr ∧ d = er r.1 ∧ readO ŝ 0 = some (ec r.2)) z i t) (hf : ∀ c x, t (c, x) = f c x) : RC fd ec es er f := ⟨hl, fun c x => by
  rw [hF, ← hf]
  show Le (semS ⟨Φ, Γ⟩ i (enter true N (ec c) (es x)) >>= _) _ _
  rw [hw]
  have q := h (c, x)
  cases ht : t (c, x) with
  | bad => trivial
  | err c1 y =>
    rw [ht] at q
    have q : semS ⟨Φ, Γ⟩ i (w0 (c, x)) = .err c1 y := q
    rw [q]; exact rfl
  | ok r =>
    rw [ht] at q
    rcases q with ⟨fr', d, ŝ, q, rfl, rfl, hc⟩ | ⟨_, ŝ, q, rfl, hd, hc⟩
    · rw [q]
      show (if fr' = fr' then leave true (er r.1) ŝ else .bad) = _
      rw [if_pos rfl]
      show (optO (readO ŝ 0) >>= fun c => (.ok (er r.1, c) : Out (D × D))) = _
      rw [hc]; rfl
    · rw [q]
      show (if false = false then (optO (readO ŝ 0) >>= fun c => (.ok (PyData.none, c) : Out (D × D))) else .bad) = _
      rw [if_pos rfl, hc, hd]; rfl⟩
end
end Fw

set_option Elab.async false
set_option linter.all false
set_option maxRecDepth 100000
set_option maxHeartbeats 4000000
namespace Fw
open PySem
section
variable {Λ : Env} {S S1 S2 S3 B R C M M1 α β γ δ ε : Type} {w : S → FS} {w1 : S1 → FS} {w2 : S2 → FS} {w3 : S3 → FS} {wb : B → FS} {a b c d : IR} {ea : α → D} {eb : β → D} {i j : IS} {P : R → Bool → D → FS → Prop} {z : Bool}
theorem Le.re {o : Out β} {t t' : Out γ} {k : γ → β} (h : Le o t k) (e : t = t') : Le o t' k := e ▸ h
/-- what stays as it is goes around -/
theorem sn_frame {κ : S → C} {μ : S → M} {wv : C → M → FS} {wv1 : C → M1 → FS} {back : C → M1 → S2} (hw : ∀ s, w s = wv (κ s) (μ s)) (hw2 : ∀ c m, wv1 c m = w2 (back c m)) (F : ∀ c, {f : M → Out M1 // SN Λ (wv c) (wv1 c) i f}) :
    SN Λ w w2 i fun s => (F (κ s)).1 (μ s) >>= fun m => .ok (back (κ s) m) := fun s => by
  have q := (F (κ s)).2 (μ s)
  rw [← hw] at q
  show Le _ ((F (κ s)).1 (μ s) >>= fun m => .ok (back (κ s) m)) _
  cases hf : (F (κ s)).1 (μ s) with
  | ok m => rw [hf] at q; exact q.trans (by show Out.ok (Fl.nx (wv1 (κ s) m)) = Out.ok (Fl.nx (w2 (back (κ s) m))); rw [hw2])
  | err c x => rw [hf] at q; exact q
  | bad => trivial
theorem sn_seqT {h : S → S1} {g : S1 → Out S2} (h0 : SN Λ w w1 i fun s => .ok (h s)) (k : SN Λ w1 w2 j g) : SN Λ w w2 (.seq i j) fun s => g (h s) := sn_seq h0 k
theorem sn_seqP {f : S → Out α} {h : S → α → S1} {g : S1 → Out S2} (h0 : SN Λ w w1 i fun s => f s >>= fun x => .ok (h s x)) (k : SN Λ w1 w2 j g) : SN Λ w w2 (.seq i j) fun s => f s >>= fun x => g (h s x) := fun s => (sn_seq h0 k s).re (by
  show ((f s >>= fun x => (.ok (h s x) : Out S1)) >>= g) = _
  rw [bind_assoc]; rfl)
theorem sr_seqT {h : S → S1} {g : S1 → Out R} (h0 : SN Λ w w1 i fun s => .ok (h s)) (k : SR Λ w1 P z j g) : SR Λ w P z (.seq i j) fun s => g (h s) := sr_seq h0 k
theorem LeR.re {o : Out Fl} {t t' : Out R} (h : LeR z o t P) (e : t = t') : LeR z o t' P := e ▸ h
theorem LeS.re {o : Out Fl} {t t' : Out (TF S B R)} (h : LeS o t w wb P) (e : t = t') : LeS o t' w wb P := e ▸ h
theorem sr_seqP {f : S → Out α} {h : S → α → S1} {g : S1 → Out R} (h0 : SN Λ w w1 i fun s => f s >>= fun x => .ok (h s x)) (k : SR Λ w1 P z j g) : SR Λ w P z (.seq i j) fun s => f s >>= fun x => g (h s x) := fun s => (sr_seq h0 k s).re (by
  show ((f s >>= fun x => (.ok (h s x) : Out S1)) >>= g) = _
  rw [bind_assoc]; rfl)
theorem ss_seqT {h : S → S1} {g : S1 → Out (TF S2 B R)} (h0 : SN Λ w w1 i fun s => .ok (h s)) (k : SS Λ w1 w2 wb P j g) : SS Λ w w2 wb P (.seq i j) fun s => g (h s) := ss_seqN h0 k
theorem ss_seqP {f : S → Out α} {h : S → α → S1} {g : S1 → Out (TF S2 B R)} (h0 : SN Λ w w1 i fun s => f s >>= fun x => .ok (h s x)) (k : SS Λ w1 w2 wb P j g) : SS Λ w w2 wb P (.seq i j) fun s => f s >>= fun x => g (h s x) := fun s => (ss_seqN h0 k s).re (by
  show ((f s >>= fun x => (.ok (h s x) : Out S1)) >>= g) = _
  rw [bind_assoc]; rfl)
theorem ss_end : SS Λ w w wb P .skip fun s => .ok (.nx s) := fun s => rfl
theorem ss_endT {h : S → S1} (hw : ∀ s, w s = w1 (h s)) : SS Λ w w1 wb P .skip fun s => .ok (.nx (h s)) := fun s => by
  show Out.ok (Fl.nx (w s)) = Out.ok (Fl.nx (w1 (h s)))
  rw [hw]
theorem sn_endT {h : S → S1} (hw : ∀ s, w s = w1 (h s)) : SN Λ w w1 .skip fun s => .ok (h s) := fun s => by
  show Out.ok (Fl.nx (w s)) = Out.ok (Fl.nx (w1 (h s)))
  rw [hw]
/-- a loop that may leave, then the rest of a def -/
theorem sr_frameS {κ : S → C} {μ : S → M} {wv : C → M → FS} {wv1 : C → M1 → FS} {back : C → M1 → S2}  {g : S2 → Out R} (hw : ∀ s, w s = wv (κ s) (μ s)) (hw2 : ∀ c m, wv1 c m = w2 (back c m)) (F : ∀ c, {f : M → Out (TF M1 Empty R) // SS Λ (wv c) (wv1 c) (fun e : Empty => nomatch e) P i f}) (k : SR Λ w2 P z j g) :
    SR Λ w P z (.seq i j) fun s => thenR ((F (κ s)).1 (μ s)) fun m => g (back (κ s) m) := fun s => by
  have q := (F (κ s)).2 (μ s)
  rw [← hw] at q
  show LeR z (semS Λ i (w s) >>= _) (thenR ((F (κ s)).1 (μ s)) fun m => g (back (κ s) m)) _
  cases hf : (F (κ s)).1 (μ s) with
  | ok t =>
    rw [hf] at q
    cases t with
    | nx m =>
      have q : semS Λ i (w s) = .ok (.nx (wv1 (κ s) m)) := q
      rw [q, hw2]; exact k _
    | bk b => exact nomatch b
    | rt r =>
      obtain ⟨fr, d, ŝ, q, p⟩ := q
      rw [q]; exact .inl ⟨fr, d, ŝ, rfl, p⟩
  | err c x =>
    rw [hf] at q
    have q : semS Λ i (w s) = .err c x := q
    rw [q]; exact rfl
  | bad => trivial
def thenS {S S1 B R : Type} (o : Out (TF S Empty R)) (k : S → Out (TF S1 B R)) : Out (TF S1 B R) := o >>= fun f => match f with
  | .nx s => k s
  | .bk b => nomatch b
  | .rt r => .ok (.rt r)
theorem ss_frameS {κ : S → C} {μ : S → M} {wv : C → M → FS} {wv1 : C → M1 → FS} {back : C → M1 → S2}  {g : S2 → Out (TF S3 B R)} (hw : ∀ s, w s = wv (κ s) (μ s)) (hw2 : ∀ c m, wv1 c m = w2 (back c m)) (F : ∀ c, {f : M → Out (TF M1 Empty R) // SS Λ (wv c) (wv1 c) (fun e : Empty => nomatch e) P i f}) (k : SS Λ w2 w3 wb P j g) :
    SS Λ w w3 wb P (.seq i j) fun s => thenS ((F (κ s)).1 (μ s)) fun m => g (back (κ s) m) := fun s => by
  have q := (F (κ s)).2 (μ s)
  rw [← hw] at q
  show LeS (semS Λ i (w s) >>= _) (thenS ((F (κ s)).1 (μ s)) fun m => g (back (κ s) m)) _ _ _
  cases hf : (F (κ s)).1 (μ s) with
  | ok t =>
    rw [hf] at q
    cases t with
    | nx m =>
      have q : semS Λ i (w s) = .ok (.nx (wv1 (κ s) m)) := q
      rw [q, hw2]; exact k _
    | bk b => exact nomatch b
    | rt r =>
      obtain ⟨fr, d, ŝ, q, p⟩ := q
      rw [q]; exact ⟨fr, d, ŝ, rfl, p⟩
  | err c x =>
    rw [hf] at q
    have q : semS Λ i (w s) = .err c x := q
    rw [q]; exact rfl
  | bad => trivial
/-! a branch that leaves, in a loop's body -/
theorem seq_rtS {o : Out Fl} {t : Out R} {k : FS → Out Fl} (h : LeR false o t P) : LeS (o >>= fun f => match f with
    | .nx s => k s
    | .rt fr d s => .ok (.rt fr d s)
    | .bk s => .ok (.bk s)) (t >>= fun r => .ok (.rt r)) w wb P := by
  cases t with
  | ok r =>
    rcases h with ⟨fr, d, ŝ, rfl, p⟩ | ⟨e, _⟩
    · exact ⟨fr, d, ŝ, rfl, p⟩
    · cases e
  | err c x => have h : o = .err c x := h; subst h; exact rfl
  | bad => trivial
theorem ss_rt {f : S → Out R} (h : SR Λ w P false i f) : SS Λ w w1 wb P i fun s => f s >>= fun r => .ok (.rt r) := fun s => by
  have q := h s
  show LeS _ (f s >>= fun r => .ok (.rt r)) _ _ _
  cases hf : f s with
  | ok r =>
    rw [hf] at q
    rcases q with ⟨fr, d, ŝ, q, p⟩ | ⟨e, _⟩
    · exact ⟨fr, d, ŝ, q, p⟩
    · cases e
  | err c x => rw [hf] at q; exact q
  | bad => trivial
theorem ss_leaveT {i1 i2 : IS} {t : S → Bool} {f : S → Out R} {g : S → Out S1} {k : S1 → Out (TF S2 B R)} (hc : XT Λ w a eB t) (hf : SR Λ w P false i1 f) (hg : SN Λ w w1 i2 g) (hk : SS Λ w1 w2 wb P j k) : SS Λ w w2 wb P (.seq (.iff a i1 i2) j) fun s => if t s = true then f s >>= fun r => .ok (.rt r) else g s >>= k := fun s => by
  have e : semS Λ (.iff a i1 i2) (w s) = if t s = true then semS Λ i1 (w s) else semS Λ i2 (w s) := by
    show (sem Λ a (w s) >>= _) = _
    rw [hc s]; rfl
  show LeS (semS Λ (.iff a i1 i2) (w s) >>= _) (if t s = true then f s >>= fun r => .ok (.rt r) else g s >>= k) _ _ _
  rw [e]
  cases t s with
  | true => rw [if_pos rfl, if_pos rfl]; exact seq_rtS (hf s)
  | false => rw [if_neg (by decide), if_neg (by decide)]; exact LeS.bind (hg s) fun x => hk x
theorem ss_leaveP {i1 i2 : IS} {t : S → Out Bool} {f : S → Out R} {g : S → Out S1} {k : S1 → Out (TF S2 B R)} (hc : XQ Λ w a eB t) (hf : SR Λ w P false i1 f) (hg : SN Λ w w1 i2 g) (hk : SS Λ w1 w2 wb P j k) : SS Λ w w2 wb P (.seq (.iff a i1 i2) j) fun s => t s >>= fun x => if x = true then f s >>= fun r => .ok (.rt r) else g s >>= k := fun s => by
  show LeS ((sem Λ a (w s) >>= _) >>= _) (t s >>= _) _ _ _
  rw [bind_assoc]
  refine LeS.bind (hc s) fun x => ?_
  show LeS ((if x = true then semS Λ i1 (w s) else semS Λ i2 (w s)) >>= _) (if x = true then f s >>= fun r => .ok (.rt r) else g s >>= k) _ _ _
  cases x with
  | true => rw [if_pos rfl, if_pos rfl]; exact seq_rtS (hf s)
  | false => rw [if_neg (by decide), if_neg (by decide)]; exact LeS.bind (hg s) fun x => hk x
theorem ss_leaveG {i1 i2 : IS} {t : S → Out (Bool × S1)} {f : S1 → Out R} {g : S1 → Out S2} {k : S2 → Out (TF S3 B R)} (hc : XG Λ w w1 a eB t) (hf : SR Λ w1 P false i1 f) (hg : SN Λ w1 w2 i2 g) (hk : SS Λ w2 w3 wb P j k) : SS Λ w w3 wb P (.seq (.iff a i1 i2) j) fun s => t s >>= fun x => if x.1 = true then f x.2 >>= fun r => .ok (.rt r) else g x.2 >>= k := fun s => by
  show LeS ((sem Λ a (w s) >>= _) >>= _) (t s >>= _) _ _ _
  rw [bind_assoc]
  refine LeS.bind (hc s) fun x => ?_
  show LeS ((if x.1 = true then semS Λ i1 (w1 x.2) else semS Λ i2 (w1 x.2)) >>= _) (if x.1 = true then f x.2 >>= fun r => .ok (.rt r) else g x.2 >>= k) _ _ _
  cases x.1 with
  | true => rw [if_pos rfl, if_pos rfl]; exact seq_rtS (hf x.2)
  | false => rw [if_neg (by decide), if_neg (by decide)]; exact LeS.bind (hg x.2) fun x => hk x
/-- loops, with what is walked never failing -/
theorem sn_forT {p : Pat} {src : IR} {wt : S × α → FS} {g : S → List α} {body : S × α → Out S} (hs : XT Λ w src (eL ea) g) (hb : ∀ s x, bindP p (ea x) (w s) = some (wt (s, x))) (hi : SN Λ wt w i body) :
    SN Λ w w (.for p src i) fun s => forN (fun x t => body (t, x)) (g s) s := sn_for hs.p hb hi
theorem ss_forE {p : Pat} {src : IR} {wt : S × α → FS} {fs : S → Out (List α)} {body : S × α → Out (TF S S R)} (hs : XQ Λ w src (eL ea) fs) (hb : ∀ s x, bindP p (ea x) (w s) = some (wt (s, x))) (hi : SS Λ wt w w P i body) :
    SS Λ w w (fun e : Empty => nomatch e) P (.for p src i) fun s => fs s >>= fun l => forS (fun x t => body (t, x)) l s := fun s => by
  rw [sem_for]
  refine LeS.bind (hs s) fun l => ?_
  have q := forS_run (wb := fun e : Empty => nomatch e) hb hi l s
  refine q.re ?_
  unfold noBk
  cases forS (fun x t => body (t, x)) l s with
  | ok t => cases t <;> first | rfl | (rename_i b; exact nomatch b)
  | err c x => rfl
  | bad => rfl
theorem ss_forET {p : Pat} {src : IR} {wt : S × α → FS} {g : S → List α} {body : S × α → Out (TF S S R)} (hs : XT Λ w src (eL ea) g) (hb : ∀ s x, bindP p (ea x) (w s) = some (wt (s, x))) (hi : SS Λ wt w w P i body) :
    SS Λ w w (fun e : Empty => nomatch e) P (.for p src i) fun s => forS (fun x t => body (t, x)) (g s) s := ss_forE hs.p hb hi
theorem ss_forEG {p : Pat} {src : IR} {wt : S1 × α → FS} {fs : S → Out (List α × S1)} {body : S1 × α → Out (TF S1 S1 R)} (hs : XG Λ w w1 src (eL ea) fs) (hb : ∀ s x, bindP p (ea x) (w1 s) = some (wt (s, x))) (hi : SS Λ wt w1 w1 P i body) :
    SS Λ w w1 (fun e : Empty => nomatch e) P (.for p src i) fun s => fs s >>= fun q => forS (fun x t => body (t, x)) q.1 q.2 := fun s => by
  rw [sem_for]
  refine LeS.bind (hs s) fun l => ?_
  have q := forS_run (wb := fun e : Empty => nomatch e) hb hi l.1 l.2
  refine q.re ?_
  unfold noBk
  cases forS (fun x t => body (t, x)) l.1 l.2 with
  | ok t => cases t <;> first | rfl | (rename_i b; exact nomatch b)
  | err c x => rfl
  | bad => rfl
end
end Fw

set_option Elab.async false
set_option linter.all false
set_option maxRecDepth 100000
set_option maxHeartbeats 4000000
namespace Fw
open PySem
section
variable {Λ : Env} {S S1 S2 S3 B R C M M1 α β γ δ ε : Type} {w : S → FS} {w1 : S1 → FS} {w2 : S2 → FS} {w3 : S3 → FS} {wb : B → FS} {a b c d : IR} {ea : α → D} {eb : β → D} {i j : IS} {P : R → Bool → D → FS → Prop} {z : Bool}
/-! ### what is not typed -/
def boolG : Option D → Out Bool
  | some (.bool b) => .ok b
  | _ => .bad
def cmpX (k : COp) (x y : D) : Out Bool := boolG (appCmp k x y)
theorem p_cmpX (k : COp) (x y : D) : Le (optO (appCmp k (eX x) (eX y))) (cmpX k x y) eB := by
  show Le (optO (appCmp k x y)) (boolG (appCmp k x y)) eB
  cases appCmp k x y with
  | none => trivial
  | some d => cases d <;> first | rfl | trivial
theorem p_binX (k : BOp) (x y : D) : Le (optO (appBin k (eX x) (eX y))) (optO (appBin k x y)) eX := by
  show Le (optO (appBin k x y)) (optO (appBin k x y)) id
  exact Le.refl
theorem p_idxX (x y : D) : Le (optO (appIdx (eX x) (eX y))) (optO (appIdx x y)) eX := by
  show Le (optO (appIdx x y)) (optO (appIdx x y)) id
  exact Le.refl
theorem xp_iseqX {f : S → Out D} (ha : XQ Λ w a eX f) : XQ Λ w (.iseq a) (eL eX) fun s => f s >>= fun x => optO (seqD x) := by
  refine xp_iseq (h := fun x => optO (seqD x)) (fun x => ?_) ha
  show Le (optO ((seqD x).map PyData.list)) _ _
  cases seqD x with
  | none => trivial
  | some l => show Out.ok (PyData.list l) = Out.ok (PyData.list (l.map id)); rw [List.map_id]
def toLX (x : D) : Out (List D) := match toLD x with
  | some (.list l) => .ok l
  | _ => .bad
theorem p_toLX (x : D) : Le (optO (toLD (eX x))) (toLX x) (eL eX) := by
  show Le (optO (toLD x)) (match toLD x with
    | some (.list l) => .ok l
    | _ => .bad) _
  cases toLD x with
  | none => trivial
  | some d => cases d <;> first | trivial | (rename_i l; show Out.ok (PyData.list l) = Out.ok (PyData.list (l.map id)); rw [List.map_id])
def lenX (x : D) : Out Int := match lenD x with
  | some (.int n) => .ok n
  | _ => .bad
theorem p_lenX (x : D) : Le (optO (app1 .len (eX x))) (lenX x) eI := by
  show Le (optO (lenD x)) (match lenD x with
    | some (.int n) => .ok n
    | _ => .bad) _
  cases lenD x with
  | none => trivial
  | some d => cases d <;> first | rfl | trivial
def toB : D → Out Bool
  | .bool b => .ok b
  | _ => .bad
def toI : D → Out Int
  | .int b => .ok b
  | _ => .bad
theorem xp_toB {f : S → Out D} (h : XQ Λ w a eX f) : XQ Λ w a eB fun s => f s >>= toB :=
  XQ.cast h toB (fun x y e => by cases x <;> first | (cases e; rfl) | cases e) fun x => by cases x <;> first | exact .inl ⟨_, rfl⟩ | exact .inr rfl
theorem xp_toI {f : S → Out D} (h : XQ Λ w a eX f) : XQ Λ w a eI fun s => f s >>= toI :=
  XQ.cast h toI (fun x y e => by cases x <;> first | (cases e; rfl) | cases e) fun x => by cases x <;> first | exact .inl ⟨_, rfl⟩ | exact .inr rfl
theorem xp_unO {f : S → Out (Option α)} (h : XQ Λ w a (eO ea) f) : XQ Λ w a ea fun s => f s >>= optO :=
  XQ.cast h optO (fun x y e => by cases x <;> first | (cases e; rfl) | cases e) fun x => by cases x <;> first | exact .inl ⟨_, rfl⟩ | exact .inr rfl
theorem xp_nev : XQ Λ w a ea fun _ => .bad := fun _ => trivial
theorem sn_nev : SN Λ w w1 i fun _ => .bad := fun _ => trivial
/-- read for its errors alone -/
theorem sn_exQ {f : S → Out α} (ha : XQ Λ w a ea f) : SN Λ w w (.ex a) fun s => f s >>= fun _ => .ok s := sn_exP ha
/-! both ways leave -/
theorem sr_if2T {i1 i2 : IS} {t : S → Bool} {f g : S → Out R} (hc : XT Λ w a eB t) (hf : SR Λ w P false i1 f) (hg : SR Λ w P false i2 g) : SR Λ w P z (.seq (.iff a i1 i2) j) fun s => if t s = true then f s else g s := fun s => seq_rt (by
  have e : semS Λ (.iff a i1 i2) (w s) = if t s = true then semS Λ i1 (w s) else semS Λ i2 (w s) := by
    show (sem Λ a (w s) >>= _) = _
    rw [hc s]; rfl
  rw [e]
  show LeR false (if t s = true then semS Λ i1 (w s) else semS Λ i2 (w s)) (if t s = true then f s else g s) P
  cases t s with
  | true => exact hf s
  | false => exact hg s)
theorem sr_if2P {i1 i2 : IS} {t : S → Out Bool} {f g : S → Out R} (hc : XQ Λ w a eB t) (hf : SR Λ w P false i1 f) (hg : SR Λ w P false i2 g) : SR Λ w P z (.seq (.iff a i1 i2) j) fun s => t s >>= fun x => if x = true then f s else g s := fun s => seq_rt (by
  refine LeR.bind (hc s) fun x => ?_
  show LeR false (if x = true then semS Λ i1 (w s) else semS Λ i2 (w s)) (if x = true then f s else g s) P
  cases x with
  | true => exact hf s
  | false => exact hg s)
end
theorem rf_srE {α β : Type} {z : Bool} {fd : Fd} {i : IS} {Φ : Tab} {Γ : Str → Option D} {N : Nat} {fr : Bool} {es : α → List D} {er : β → D} {f g : α → Out β} {w0 : α → FS} (hF : fd.F = runF ⟨Φ, Γ⟩ i N false fr) (hl : fd.lent = false) (hw : ∀ c x, enter false N c (es x) = w0 x)
    (h : SR ⟨Φ, Γ⟩ w0 (fun r fr' d _ => fr' = fr ∧ d = er r) z i f) (e : f = g) : RF fd es er g := e ▸ rf_sr hF hl hw h
/-! ### keys that are tuples of ints -/
theorem tupKs_ints : ∀ l : List Int, tupKs (l.map eI) = true
  | [] => rfl
  | _ :: l => by show (true && tupKs (l.map eI)) = true; rw [tupKs_ints l]; rfl
/-! ### strict sameness of data -/
mutual
def sameD : D → D → Bool
  | .none, .none => true
  | .bool a, .bool b => a == b
  | .int a, .int b => decide (a = b)
  | .tuple a, .tuple b => sameDs a b
  | _, _ => false
def sameDs : List D → List D → Bool
  | [], [] => true
  | a :: r, b :: q => sameD a b && sameDs r q
  | _, _ => false
end
mutual
theorem sameD_eq : ∀ a b : D, sameD a b = true → a = b
  | .none, b, h => by cases b <;> first | rfl | cases h
  | .bool x, b, h => by
    cases b with
    | bool y => have h : (x == y) = true := h; rw [eq_of_beq h]
    | _ => cases h
  | .int x, b, h => by
    cases b with
    | int y => have h : decide (x = y) = true := h; rw [of_decide_eq_true h]
    | _ => cases h
  | .tuple x, b, h => by
    cases b with
    | tuple y => have h : sameDs x y = true := h; rw [sameDs_eq x y h]
    | _ => cases h
  | .str _, b, h => by cases b <;> cases h
  | .list _, b, h => by cases b <;> cases h
  | .dict _, b, h => by cases b <;> cases h
theorem sameDs_eq : ∀ a b : List D, sameDs a b = true → a = b
  | [], b, h => by cases b <;> first | rfl | cases h
  | x :: r, b, h => by
    cases b with
    | nil => cases h
    | cons y q =>
      have h : (sameD x y && sameDs r q) = true := h
      rw [Bool.and_eq_true] at h
      rw [sameD_eq x y h.1, sameDs_eq r q h.2]
end
section
variable {Λ : Env} {S S1 S2 S3 B R C M M1 α β γ δ ε : Type} {w : S → FS} {w1 : S1 → FS} {w2 : S2 → FS} {w3 : S3 → FS} {wb : B → FS} {a b c d : IR} {ea : α → D} {eb : β → D} {ec : γ → D} {i j : IS} {P : R → Bool → D → FS → Prop} {z : Bool}
/-! the same with parts that never fail -/
theorem xp_binTT {k : BOp} {fa : S → α} {fb : S → β} {h : α → β → Out γ} (ho : ∀ x y, Le (optO (appBin k (ea x) (eb y))) (h x y) ec) (ha : XT Λ w a ea fa) (hb : XT Λ w b eb fb) : XQ Λ w (.bin k a b) ec fun s => h (fa s) (fb s) := xp_bin ho ha.p hb.p
theorem xp_binTP {k : BOp} {fa : S → α} {fb : S → Out β} {h : α → β → Out γ} (ho : ∀ x y, Le (optO (appBin k (ea x) (eb y))) (h x y) ec) (ha : XT Λ w a ea fa) (hb : XQ Λ w b eb fb) : XQ Λ w (.bin k a b) ec fun s => fb s >>= fun y => h (fa s) y := xp_bin ho ha.p hb
theorem xp_binPT {k : BOp} {fa : S → Out α} {fb : S → β} {h : α → β → Out γ} (ho : ∀ x y, Le (optO (appBin k (ea x) (eb y))) (h x y) ec) (ha : XQ Λ w a ea fa) (hb : XT Λ w b eb fb) : XQ Λ w (.bin k a b) ec fun s => fa s >>= fun x => h x (fb s) := xp_bin ho ha hb.p
theorem xp_cmpTT {k : COp} {fa : S → α} {fb : S → β} {h : α → β → Out Bool} (ho : ∀ x y, Le (optO (appCmp k (ea x) (eb y))) (h x y) eB) (ha : XT Λ w a ea fa) (hb : XT Λ w b eb fb) : XQ Λ w (.cmp k a b) eB fun s => h (fa s) (fb s) := xp_cmp ho ha.p hb.p
theorem xp_cmpTP {k : COp} {fa : S → α} {fb : S → Out β} {h : α → β → Out Bool} (ho : ∀ x y, Le (optO (appCmp k (ea x) (eb y))) (h x y) eB) (ha : XT Λ w a ea fa) (hb : XQ Λ w b eb fb) : XQ Λ w (.cmp k a b) eB fun s => fb s >>= fun y => h (fa s) y := xp_cmp ho ha.p hb
theorem xp_cmpPT {k : COp} {fa : S → Out α} {fb : S → β} {h : α → β → Out Bool} (ho : ∀ x y, Le (optO (appCmp k (ea x) (eb y))) (h x y) eB) (ha : XQ Λ w a ea fa) (hb : XT Λ w b eb fb) : XQ Λ w (.cmp k a b) eB fun s => fa s >>= fun x => h x (fb s) := xp_cmp ho ha hb.p
theorem xp_idxTT {fa : S → α} {fb : S → β} {h : α → β → Out γ} (ho : ∀ x y, Le (optO (appIdx (ea x) (eb y))) (h x y) ec) (ha : XT Λ w a ea fa) (hb : XT Λ w b eb fb) : XQ Λ w (.idx a b) ec fun s => h (fa s) (fb s) := xp_idx ho ha.p hb.p
theorem xp_idxTP {fa : S → α} {fb : S → Out β} {h : α → β → Out γ} (ho : ∀ x y, Le (optO (appIdx (ea x) (eb y))) (h x y) ec) (ha : XT Λ w a ea fa) (hb : XQ Λ w b eb fb) : XQ Λ w (.idx a b) ec fun s => fb s >>= fun y => h (fa s) y := xp_idx ho ha.p hb
theorem xp_idxPT {fa : S → Out α} {fb : S → β} {h : α → β → Out γ} (ho : ∀ x y, Le (optO (appIdx (ea x) (eb y))) (h x y) ec) (ha : XQ Λ w a ea fa) (hb : XT Λ w b eb fb) : XQ Λ w (.idx a b) ec fun s => fa s >>= fun x => h x (fb s) := xp_idx ho ha hb.p
theorem xp_b2TP {k : B2} {ga : S → α} {fb : S → Out β} {h : α → β → Out γ} (ho : ∀ x y, Le (optO (app2 k (ea x) (eb y))) (h x y) ec) (ha : XT Λ w a ea ga) (hb : XQ Λ w b eb fb) : XQ Λ w (.b2 k a b) ec fun s => fb s >>= fun y => h (ga s) y := xp_b2 ho ha.p hb
theorem xp_b2PT {k : B2} {fa : S → Out α} {gb : S → β} {h : α → β → Out γ} (ho : ∀ x y, Le (optO (app2 k (ea x) (eb y))) (h x y) ec) (ha : XQ Λ w a ea fa) (hb : XT Λ w b eb gb) : XQ Λ w (.b2 k a b) ec fun s => fa s >>= fun x => h x (gb s) := xp_b2 ho ha hb.p
theorem xp_irngT {f : S → Int} (ha : XT Λ w a eI f) : XQ Λ w (.irng a) (eL eI) fun s => rng0 (f s) := xp_irng ha.p
theorem xp_irng2TT {fa fb : S → Int} (ha : XT Λ w a eI fa) (hb : XT Λ w b eI fb) : XQ Λ w (.irng2 a b) (eL eI) fun s => rngG (fa s) (fb s) := xp_irng2 ha.p hb.p
theorem xp_irng2TP {fa : S → Int} {fb : S → Out Int} (ha : XT Λ w a eI fa) (hb : XQ Λ w b eI fb) : XQ Λ w (.irng2 a b) (eL eI) fun s => fb s >>= fun y => rngG (fa s) y := xp_irng2 ha.p hb
theorem xp_irng2PT {fa : S → Out Int} {fb : S → Int} (ha : XQ Λ w a eI fa) (hb : XT Λ w b eI fb) : XQ Λ w (.irng2 a b) (eL eI) fun s => fa s >>= fun x => rngG x (fb s) := xp_irng2 ha hb.p
theorem xp_izipTP {ga : S → α} {fb : S → Out β} {h : α → β → Out γ} (ho : ∀ x y, Le (optO (zipLD (ea x) (eb y))) (h x y) ec) (ha : XT Λ w a ea ga) (hb : XQ Λ w b eb fb) : XQ Λ w (.izip a b) ec fun s => fb s >>= fun y => h (ga s) y := xp_izip ho ha.p hb
theorem xp_izipPT {fa : S → Out α} {gb : S → β} {h : α → β → Out γ} (ho : ∀ x y, Le (optO (zipLD (ea x) (eb y))) (h x y) ec) (ha : XQ Λ w a ea fa) (hb : XT Λ w b eb gb) : XQ Λ w (.izip a b) ec fun s => fa s >>= fun x => h x (gb s) := xp_izip ho ha hb.p
theorem xp_ienzTP {ga : S → α} {fb : S → Out β} {h : α → β → Out γ} (ho : ∀ x y, Le (optO (enzLD (ea x) (eb y))) (h x y) ec) (ha : XT Λ w a ea ga) (hb : XQ Λ w b eb fb) : XQ Λ w (.ienz a b) ec fun s => fb s >>= fun y => h (ga s) y := xp_ienz ho ha.p hb
theorem xp_ienzPT {fa : S → Out α} {gb : S → β} {h : α → β → Out γ} (ho : ∀ x y, Le (optO (enzLD (ea x) (eb y))) (h x y) ec) (ha : XQ Λ w a ea fa) (hb : XT Λ w b eb gb) : XQ Λ w (.ienz a b) ec fun s => fa s >>= fun x => h x (gb s) := xp_ienz ho ha hb.p
theorem xp_rngLT {f : S → Int} (ha : XT Λ w a eI f) : XQ Λ w (.rngL a) (eL eI) fun s => rngC (f s) := xp_rngL ha.p
theorem xp_rngTT {f : S → Int} (ha : XT Λ w a eI f) : XQ Λ w (.rngT a) (eU eI) fun s => rngC (f s) := xp_rngT ha.p
theorem xp_andT {f : S → Bool} {g : S → Out Bool} (ha : XT Λ w a eB f) (hb : XQ Λ w b eB g) : XQ Λ w (.and a b) eB fun s => if f s = true then g s else .ok false := xp_and ha.p hb
theorem xp_orT {f : S → Bool} {g : S → Out Bool} (ha : XT Λ w a eB f) (hb : XQ Λ w b eB g) : XQ Λ w (.or a b) eB fun s => if f s = true then .ok true else g s := xp_or ha.p hb
theorem xp_iteT {c : IR} {t : S → Bool} {g h : S → Out α} (hc : XT Λ w c eB t) (ha : XQ Λ w a ea g) (hb : XQ Λ w b ea h) : XQ Λ w (.ite c a b) ea fun s => if t s = true then g s else h s := xp_ite hc.p ha hb
theorem ap_consT {es : β → List D} {f : S → α} {g : S → Out β} (ha : XT Λ w a ea f) (hb : AP Λ w b es g) : AP Λ w (.cons a b) (ac ea es) fun s => g s >>= fun y => .ok (f s, y) := ap_cons ha.p hb
theorem ap_consP {es : β → List D} {f : S → Out α} {g : S → β} (ha : XQ Λ w a ea f) (hb : AT Λ w b es g) : AP Λ w (.cons a b) (ac ea es) fun s => f s >>= fun x => .ok (x, g s) := ap_cons ha hb.p
theorem sn_setixTT {n : Nat} {k : IR} {f : S → α} {fk : S → Int} {g : S → List α} {h : S → List α → S2} (ha : XT Λ w a ea f) (hk : XT Λ w k eI fk) (h1 : ∀ s, readO (w s) n = some (eL ea (g s))) (h2 : ∀ s z, (w s).set n (some (.o (eL ea z))) = w2 (h s z)) :
    SN Λ w w2 (.setix n k a) fun s => setG (g s) (fk s) (f s) >>= fun l => .ok (h s l) := sn_setixP ha.p hk.p h1 h2
theorem sn_setixPT {n : Nat} {k : IR} {f : S → Out α} {fk : S → Int} {g : S → List α} {h : S → List α → S2} (ha : XQ Λ w a ea f) (hk : XT Λ w k eI fk) (h1 : ∀ s, readO (w s) n = some (eL ea (g s))) (h2 : ∀ s z, (w s).set n (some (.o (eL ea z))) = w2 (h s z)) :
    SN Λ w w2 (.setix n k a) fun s => f s >>= fun x => setG (g s) (fk s) x >>= fun l => .ok (h s l) := sn_setixP ha hk.p h1 h2
theorem sn_setixTP {n : Nat} {k : IR} {f : S → α} {fk : S → Out Int} {g : S → List α} {h : S → List α → S2} (ha : XT Λ w a ea f) (hk : XQ Λ w k eI fk) (h1 : ∀ s, readO (w s) n = some (eL ea (g s))) (h2 : ∀ s z, (w s).set n (some (.o (eL ea z))) = w2 (h s z)) :
    SN Λ w w2 (.setix n k a) fun s => fk s >>= fun z => setG (g s) z (f s) >>= fun l => .ok (h s l) := sn_setixP ha.p hk h1 h2
theorem sn_putTT {κ : Type} [DecidableEq κ] {ek : κ → D} {m : Nat} {n : Nat} {k : IR} {f : S → α} {fk : S → κ} {g : S → List (κ × α)} {h : S → List (κ × α) → S2} (q : EqE ek m) (hk : ∀ (kvs : List (κ × α)) x, keysOk (kvs.map fun p => (ek p.1, ea p.2)) (ek x) = true) (ha : XT Λ w a ea f) (hk' : XT Λ w k ek fk)
    (h1 : ∀ s, readO (w s) n = some (eD ek ea (g s))) (h2 : ∀ s z, (w s).set n (some (.o (eD ek ea z))) = w2 (h s z)) : SN Λ w w2 (.setix n k a) fun s => putG (g s) (fk s) (f s) >>= fun l => .ok (h s l) := sn_putP q hk ha.p hk'.p h1 h2
theorem sn_putTP {κ : Type} [DecidableEq κ] {ek : κ → D} {m : Nat} {n : Nat} {k : IR} {f : S → α} {fk : S → Out κ} {g : S → List (κ × α)} {h : S → List (κ × α) → S2} (q : EqE ek m) (hk : ∀ (kvs : List (κ × α)) x, keysOk (kvs.map fun p => (ek p.1, ea p.2)) (ek x) = true) (ha : XT Λ w a ea f) (hk' : XQ Λ w k ek fk)
    (h1 : ∀ s, readO (w s) n = some (eD ek ea (g s))) (h2 : ∀ s z, (w s).set n (some (.o (eD ek ea z))) = w2 (h s z)) : SN Λ w w2 (.setix n k a) fun s => fk s >>= fun z => putG (g s) z (f s) >>= fun l => .ok (h s l) := sn_putP q hk ha.p hk' h1 h2
theorem sn_putPT {κ : Type} [DecidableEq κ] {ek : κ → D} {m : Nat} {n : Nat} {k : IR} {f : S → Out α} {fk : S → κ} {g : S → List (κ × α)} {h : S → List (κ × α) → S2} (q : EqE ek m) (hk : ∀ (kvs : List (κ × α)) x, keysOk (kvs.map fun p => (ek p.1, ea p.2)) (ek x) = true) (ha : XQ Λ w a ea f) (hk' : XT Λ w k ek fk)
    (h1 : ∀ s, readO (w s) n = some (eD ek ea (g s))) (h2 : ∀ s z, (w s).set n (some (.o (eD ek ea z))) = w2 (h s z)) : SN Λ w w2 (.setix n k a) fun s => f s >>= fun x => putG (g s) (fk s) x >>= fun l => .ok (h s l) := sn_putP q hk ha hk'.p h1 h2
theorem sn_augT {n : Nat} {sub : Bool} {f : S → Int} {g : S → Int} {h : S → Int → S2} (ha : XT Λ w a eI f) (h1 : ∀ s, readS (w s) n = some (eI (g s))) (h2 : ∀ s z, (w s).set n (some (.v (eI z))) = w2 (h s z)) :
    SN Λ w w2 (.aug n sub a) fun s => .ok (h s (if sub = true then g s - f s else g s + f s)) := sn_augP ha.p h1 h2
theorem sn_extT {n : Nat} {f : S → List α} {g : S → List α} {h : S → List α → S2} (ha : XT Λ w a (eL ea) f) (h1 : ∀ s, readO (w s) n = some (eL ea (g s))) (h2 : ∀ s z, (w s).set n (some (.o (eL ea z))) = w2 (h s z)) :
    SN Λ w w2 (.ext n a) fun s => fits (g s ++ f s) >>= fun l => .ok (h s l) := sn_extP ha.p h1 h2
/-! .. and what goes on without a change -/
theorem sr_ifTk {i1 i2 : IS} {t : S → Bool} {f : S → Out R} {h : S → S1} {k : S1 → Out R} (hc : XT Λ w a eB t) (hf : SR Λ w P false i1 f) (hg : SN Λ w w1 i2 fun s => .ok (h s)) (hk : SR Λ w1 P z j k) : SR Λ w P z (.seq (.iff a i1 i2) j) fun s => if t s = true then f s else k (h s) := sr_ifT hc hf hg hk
theorem sr_ifPk {i1 i2 : IS} {t : S → Out Bool} {f : S → Out R} {h : S → S1} {k : S1 → Out R} (hc : XQ Λ w a eB t) (hf : SR Λ w P false i1 f) (hg : SN Λ w w1 i2 fun s => .ok (h s)) (hk : SR Λ w1 P z j k) : SR Λ w P z (.seq (.iff a i1 i2) j) fun s => t s >>= fun x => if x = true then f s else k (h s) := sr_ifP hc hf hg hk
theorem sr_ifGk {i1 i2 : IS} {t : S → Out (Bool × S1)} {f : S1 → Out R} {h : S1 → S2} {k : S2 → Out R} (hc : XG Λ w w1 a eB t) (hf : SR Λ w1 P false i1 f) (hg : SN Λ w1 w2 i2 fun s => .ok (h s)) (hk : SR Λ w2 P z j k) : SR Λ w P z (.seq (.iff a i1 i2) j) fun s => t s >>= fun x => if x.1 = true then f x.2 else k (h x.2) := sr_ifG hc hf hg hk
theorem ss_leaveTk {i1 i2 : IS} {t : S → Bool} {f : S → Out R} {h : S → S1} {k : S1 → Out (TF S2 B R)} (hc : XT Λ w a eB t) (hf : SR Λ w P false i1 f) (hg : SN Λ w w1 i2 fun s => .ok (h s)) (hk : SS Λ w1 w2 wb P j k) : SS Λ w w2 wb P (.seq (.iff a i1 i2) j) fun s => if t s = true then f s >>= fun r => .ok (.rt r) else k (h s) := ss_leaveT hc hf hg hk
theorem ss_leavePk {i1 i2 : IS} {t : S → Out Bool} {f : S → Out R} {h : S → S1} {k : S1 → Out (TF S2 B R)} (hc : XQ Λ w a eB t) (hf : SR Λ w P false i1 f) (hg : SN Λ w w1 i2 fun s => .ok (h s)) (hk : SS Λ w1 w2 wb P j k) : SS Λ w w2 wb P (.seq (.iff a i1 i2) j) fun s => t s >>= fun x => if x = true then f s >>= fun r => .ok (.rt r) else k (h s) := ss_leaveP hc hf hg hk
theorem ss_leaveGk {i1 i2 : IS} {t : S → Out (Bool × S1)} {f : S1 → Out R} {h : S1 → S2} {k : S2 → Out (TF S3 B R)} (hc : XG Λ w w1 a eB t) (hf : SR Λ w1 P false i1 f) (hg : SN Λ w1 w2 i2 fun s => .ok (h s)) (hk : SS Λ w2 w3 wb P j k) : SS Λ w w3 wb P (.seq (.iff a i1 i2) j) fun s => t s >>= fun x => if x.1 = true then f x.2 >>= fun r => .ok (.rt r) else k (h x.2) := ss_leaveG hc hf hg hk
end
end Fw

set_option Elab.async false
set_option linter.all false
set_option maxRecDepth 100000
set_option maxHeartbeats 4000000
namespace Fw
open PySem PySem.Spec L2
section
variable {Λ : Env} {S S1 α β γ : Type} {w : S → FS} {w1 : S1 → FS} {ea : α → D} {eb : β → D} {a b c : IR}
/-! ### min, max of a list -/
def minT (ea : α → D) : List α → Out α
  | [] => .bad
  | x :: r => if ordX ((x :: r).map ea) = true then .ok (r.foldl (fun a y => if PySem.W.dataLt (ea y) (ea a) = true then y else a) x) else .bad
def maxT (ea : α → D) : List α → Out α
  | [] => .bad
  | x :: r => if ordX ((x :: r).map ea) = true then .ok (r.foldl (fun a y => if PySem.W.dataLt (ea a) (ea y) = true then y else a) x) else .bad
theorem minD_map (x : α) (r : List α) : PySem.W.minD (ea x) (r.map ea) = ea (r.foldl (fun a y => if PySem.W.dataLt (ea y) (ea a) = true then y else a) x) := by
  unfold PySem.W.minD
  induction r generalizing x with
  | nil => rfl
  | cons y r ih =>
    rw [List.map_cons, List.foldl_cons, List.foldl_cons, ← ih]
    cases PySem.W.dataLt (ea y) (ea x) <;> rfl
theorem maxD_map (x : α) (r : List α) : PySem.W.maxD (ea x) (r.map ea) = ea (r.foldl (fun a y => if PySem.W.dataLt (ea a) (ea y) = true then y else a) x) := by
  unfold PySem.W.maxD
  induction r generalizing x with
  | nil => rfl
  | cons y r ih =>
    rw [List.map_cons, List.foldl_cons, List.foldl_cons, ← ih]
    cases PySem.W.dataLt (ea x) (ea y) <;> rfl
theorem p_min (l : List α) : Le (optO (app1 .min (eL ea l))) (minT ea l) ea := by
  cases l with
  | nil => trivial
  | cons x r =>
    show Le (optO (guardO (ordX ((x :: r).map ea)) (PySem.W.minD (ea x) (r.map ea)))) (if ordX ((x :: r).map ea) = true then _ else _) _
    rw [minD_map]
    cases ordX ((x :: r).map ea) with
    | true => rfl
    | false => trivial
theorem p_max (l : List α) : Le (optO (app1 .max (eL ea l))) (maxT ea l) ea := by
  cases l with
  | nil => trivial
  | cons x r =>
    show Le (optO (guardO (ordX ((x :: r).map ea)) (PySem.W.maxD (ea x) (r.map ea)))) (if ordX ((x :: r).map ea) = true then _ else _) _
    rw [maxD_map]
    cases ordX ((x :: r).map ea) with
    | true => rfl
    | false => trivial
/-! ### len(set(..)) -/
def lensX (x : D) : Out Int := match lensetD x with
  | some (.int n) => .ok n
  | _ => .bad
theorem p_lensX (x : D) : Le (optO (lensetD x)) (lensX x) eI := by
  unfold lensX
  cases lensetD x with
  | none => trivial
  | some d => cases d <;> first | rfl | trivial
theorem sem_set : sem Λ (.set a) = sem1 Λ lensetD a := rfl
theorem xp_lens {f : S → Out α} (ha : XQ Λ w a ea f) : XQ Λ w (.set a) eI fun s => f s >>= fun x => lensX (ea x) := fun s => by rw [sem_set]; exact xp1 (fun x => p_lensX (ea x)) ha s
theorem lensX_ints {l : List Int} (h : l.length ≤ 4000) : lensX (eU eI l) = .ok (uniqL l).length := by
  have e : intsD (l.map eI) = some l := intsD_map l
  show (match ((intsD (l.map eI)).bind fun ns => if ns.length ≤ 4000 then some (PyData.int (uniqL ns).length) else none) with
    | some (.int n) => (.ok n : Out Int)
    | _ => .bad) = _
  rw [e]
  show (match (if l.length ≤ 4000 then some (PyData.int (uniqL l).length) else none) with
    | some (.int n) => (.ok n : Out Int)
    | _ => .bad) = _
  rw [if_pos h]
/-! ### a row of what may be None, read as one where nothing is -/
def unO : List (Option α) → Out (List α)
  | [] => .ok []
  | none :: _ => .bad
  | some x :: r => unO r >>= fun q => .ok (x :: q)
theorem unO_ok : ∀ {l : List (Option α)} {m : List α}, unO l = .ok m → l = m.map some
  | [], m, h => by cases h; rfl
  | none :: _, m, h => by cases h
  | some x :: r, m, h => by
    obtain ⟨q, h1, h2⟩ := bind_okd (show (unO r >>= fun q => (.ok (x :: q) : Out (List α))) = .ok m from h)
    cases h2
    rw [unO_ok h1]; rfl
theorem unO_some : ∀ m : List α, unO (m.map some) = .ok m
  | [] => rfl
  | x :: r => by
    show (unO (r.map some) >>= fun q => (.ok (x :: q) : Out (List α))) = _
    rw [unO_some r]; rfl
theorem unO_err : ∀ {l : List (Option α)} {c : Str} {x : D}, unO l ≠ .err c x
  | [], _, _, h => by cases h
  | none :: _, _, _, h => by cases h
  | some y :: r, c, x, h => by
    have h : (unO r >>= fun q => (.ok (y :: q) : Out (List α))) = .err c x := h
    cases h1 : unO r with
    | ok q => rw [h1] at h; cases h
    | err c' x' => exact unO_err h1
    | bad => rw [h1] at h; cases h
theorem xp_unL {f : S → Out (List (Option α))} (ha : XQ Λ w a (eL (eO ea)) f) : XQ Λ w a (eL ea) fun s => f s >>= unO := fun s => by
  have := ha s
  show Le _ (f s >>= unO) _
  cases hf : f s with
  | ok l =>
    rw [hf] at this
    show Le _ (unO l) _
    cases h : unO l with
    | ok m =>
      rw [unO_ok h] at this
      have this : sem Λ a (w s) = .ok (eL (eO ea) (m.map some), w s) := this
      show sem Λ a (w s) = .ok (eL ea m, w s)
      rw [this]
      show Out.ok (PyData.list ((m.map some).map (eO ea)), w s) = Out.ok (PyData.list (m.map ea), w s)
      rw [List.map_map]; rfl
    | err c x => exact absurd h unO_err
    | bad => trivial
  | err c x => rw [hf] at this; exact this
  | bad => trivial
theorem xp_unU {f : S → Out (List (Option α))} (ha : XQ Λ w a (eU (eO ea)) f) : XQ Λ w a (eU ea) fun s => f s >>= unO := fun s => by
  have := ha s
  show Le _ (f s >>= unO) _
  cases hf : f s with
  | ok l =>
    rw [hf] at this
    show Le _ (unO l) _
    cases h : unO l with
    | ok m =>
      rw [unO_ok h] at this
      have this : sem Λ a (w s) = .ok (eU (eO ea) (m.map some), w s) := this
      show sem Λ a (w s) = .ok (eU ea m, w s)
      rw [this]
      show Out.ok (PyData.tuple ((m.map some).map (eO ea)), w s) = Out.ok (PyData.tuple (m.map ea), w s)
      rw [List.map_map]; rfl
    | err c x => exact absurd h unO_err
    | bad => trivial
  | err c x => rw [hf] at this; exact this
  | bad => trivial
theorem xg_unU {f : S → Out (List (Option α) × S1)} (ha : XG Λ w w1 a (eU (eO ea)) f) : XG Λ w w1 a (eU ea) fun s => f s >>= fun p => unO p.1 >>= fun z => .ok (z, p.2) := fun s => by
  have := ha s
  show Le _ (f s >>= fun p => unO p.1 >>= fun z => .ok (z, p.2)) _
  cases hf : f s with
  | ok p =>
    rw [hf] at this
    show Le _ (unO p.1 >>= fun z => .ok (z, p.2)) _
    cases h : unO p.1 with
    | ok m =>
      have this : sem Λ a (w s) = .ok (eU (eO ea) p.1, w1 p.2) := this
      rw [unO_ok h] at this
      show sem Λ a (w s) = .ok (eU ea m, w1 p.2)
      rw [this]
      show Out.ok (PyData.tuple ((m.map some).map (eO ea)), w1 p.2) = Out.ok (PyData.tuple (m.map ea), w1 p.2)
      rw [List.map_map]; rfl
    | err c x => exact absurd h unO_err
    | bad => trivial
  | err c x => rw [hf] at this; exact this
  | bad => trivial
theorem xp_b1T {k : B1} {g : S → α} {h : α → Out β} (ho : ∀ x, Le (optO (app1 k (ea x))) (h x) eb) (ha : XT Λ w a ea g) : XQ Λ w (.b1 k a) eb fun s => h (g s) := xp_b1 ho ha.p
theorem xp_lensT {g : S → α} (ha : XT Λ w a ea g) : XQ Λ w (.set a) eI fun s => lensX (ea (g s)) := xp_lens ha.p
theorem xp_unLT {g : S → List (Option α)} (ha : XT Λ w a (eL (eO ea)) g) : XQ Λ w a (eL ea) fun s => unO (g s) := xp_unL ha.p
theorem xp_unUT {g : S → List (Option α)} (ha : XT Λ w a (eU (eO ea)) g) : XQ Λ w a (eU ea) fun s => unO (g s) := xp_unU ha.p
theorem up_U {k : α → β} (h : ∀ x, eb (k x) = ea x) (l : List α) : eU eb (List.map k l) = eU ea l := by
  show PyData.tuple ((l.map k).map eb) = PyData.tuple (l.map ea)
  rw [List.map_map]
  exact congrArg PyData.tuple (List.map_congr_left fun x _ => h x)
theorem up_L {k : α → β} (h : ∀ x, eb (k x) = ea x) (l : List α) : eL eb (List.map k l) = eL ea l := by
  show PyData.list ((l.map k).map eb) = PyData.list (l.map ea)
  rw [List.map_map]
  exact congrArg PyData.list (List.map_congr_left fun x _ => h x)
end
end Fw

set_option Elab.async false
set_option linter.all false
set_option maxRecDepth 100000
set_option maxHeartbeats 1000000
namespace Fw
open PySem
/-! ### plain facts about the typed operations -/
section
variable {α β γ T R B : Type}
/-- as bind_ok, told by a proof -/
theorem bok (a : α) (f : α → Out β) : (Out.ok a >>= f) = f a := (bind_ok a f).trans (Eq.refl _)
theorem fits_ok {l : List α} (h : l.length ≤ 16777216) : fits l = .ok l := by
  unfold fits fitsL
  rw [if_pos]
  rw [decide_eq_true_eq]
  exact h
theorem rng0_ok {n : Int} (h : -4000000000000000000 ≤ n) (h2 : n ≤ 4000000000000000000) : rng0 n = .ok (rng 0 n) := by
  unfold rng0
  rw [if_pos]
  unfold rngOk
  rw [decide_eq_true_eq]
  constructor <;> omega
theorem rngG_ok {m n : Int} (h : -4000000000000000000 ≤ m) (h2 : m ≤ 4000000000000000000) (h3 : -4000000000000000000 ≤ n) (h4 : n ≤ 4000000000000000000) : rngG m n = .ok (rng m n) := by
  unfold rngG
  rw [if_pos]
  unfold rngOk
  rw [Bool.and_eq_true, decide_eq_true_eq, decide_eq_true_eq]
  constructor <;> constructor <;> omega
theorem rngC_ok {n : Int} (h : -4000000000000000000 ≤ n) (h2 : n ≤ 16777216) : rngC n = .ok (rng 0 n) := by
  unfold rngC
  rw [if_pos]
  rw [decide_eq_true_eq]
  constructor <;> omega
theorem modG_ok {x m : Int} (h : 0 < m) : modG x m = .ok (x % m) := by
  unfold modG
  rw [if_pos (decide_eq_true h)]
theorem fdivG_ok {x m : Int} (h : 0 < m) (h2 : m < 1073741824) : fdivG x m = .ok (x / m) := by
  unfold fdivG divOk
  rw [if_pos (decide_eq_true ⟨h, h2⟩)]
theorem mulG_ok {x y : Int} (h : -18446744073709551616 < x) (h2 : x < 18446744073709551616) : mulG x y = .ok (x * y) := by
  unfold mulG mulOk
  rw [if_pos]
  rw [decide_eq_true_eq]
  left; constructor <;> omega
theorem mem_rng {i lo hi : Int} : i ∈ rng lo hi ↔ lo ≤ i ∧ i < hi := by
  unfold rng
  rw [List.mem_map]
  constructor
  · rintro ⟨j, hj, rfl⟩
    have := List.mem_range.mp hj
    omega
  · rintro ⟨h1, h2⟩
    refine ⟨(i - lo).toNat, List.mem_range.mpr (by omega), by omega⟩
theorem rng_length (lo hi : Int) : (rng lo hi).length = (hi - lo).toNat := by unfold rng; simp
theorem rng_nat (n : Nat) : rng 0 (n : Int) = (List.range n).map fun (i : Nat) => (i : Int) := by
  unfold rng
  have : ((n : Int) - 0).toNat = n := by omega
  rw [this]
  exact List.map_congr_left fun i _ => by omega
theorem ixN_nat {n i : Nat} (h : i < n) : L2.ixN n (i : Int) = some i := by
  unfold L2.ixN
  rw [if_pos (by omega), if_pos (by omega)]; rfl
theorem atG_nat {l : List α} {i : Nat} (h : i < l.length) : atG l (i : Int) = .ok l[i] := by
  unfold atG L2.atI
  rw [ixN_nat h]
  show optO (l[i]?) = _
  rw [List.getElem?_eq_getElem h]; rfl
theorem atG_int {l : List α} {i : Int} (h0 : 0 ≤ i) (h : i < l.length) : atG l i = .ok (l[i.toNat]'(by omega)) := by
  obtain ⟨n, rfl⟩ := Int.eq_ofNat_of_zero_le h0
  exact atG_nat (by omega)
theorem setG_nat {l : List α} {i : Nat} {x : α} (h : i < l.length) : setG l (i : Int) x = .ok (l.set i x) := by
  unfold setG
  rw [ixN_nat h]; rfl
theorem appG_ok {l : List α} {x : α} (h : l.length < 16777216) : appG l x = .ok (l ++ [x]) := by
  unfold appG
  rw [if_pos (show l.length < sizeLine from h)]
theorem popG_nat {l : List α} {i : Nat} (h : i < l.length) (h2 : l.length ≤ 16777216) : popG l (i : Int) = .ok (l[i], l.eraseIdx i) := by
  unfold popG
  rw [if_pos, ixN_nat h]
  · show (optO (l[i]?) >>= _) = _
    rw [List.getElem?_eq_getElem h]; rfl
  · unfold rngOk
    rw [decide_eq_true_eq]
    constructor <;> omega
theorem flat_rep (k : Nat) (x : α) : (List.replicate k [x]).flatten = List.replicate k x := by
  induction k with
  | zero => rfl
  | succ k ih => rw [List.replicate_succ, List.flatten_cons, ih]; rfl
theorem repG_one {x : α} {k : Int} (h : -4000000000000000000 ≤ k) (h2 : k ≤ 100000) : repG [x] k = .ok (List.replicate k.toNat x) := by
  unfold repG
  rw [if_pos, flat_rep]
  unfold repOk
  rw [decide_eq_true_eq, List.length_singleton]
  refine ⟨by omega, by omega, by omega⟩
theorem noErr_okk (x : α) : noErr (.ok x) = .ok x := rfl
theorem lcQ_map {f : α → Out β} {g : α → β} : ∀ {l : List α}, (∀ x ∈ l, f x = .ok (g x)) → lcQ f l = .ok (l.map g)
  | [], _ => rfl
  | x :: l, h => by
    unfold lcQ
    rw [h x List.mem_cons_self, lcQ_map fun y hy => h y (List.mem_cons_of_mem _ hy)]; rfl
theorem lcP_filter {f : α → Out (Option β)} {c : α → Bool} {g : α → β} : ∀ {l : List α}, (∀ x ∈ l, f x = .ok (if c x = true then some (g x) else none)) → lcP f l = .ok ((l.filter c).map g)
  | [], _ => rfl
  | x :: l, h => by
    unfold lcP
    rw [h x List.mem_cons_self, lcP_filter fun y hy => h y (List.mem_cons_of_mem _ hy)]
    show Out.ok _ = _
    cases hc : c x with
    | true => rw [List.filter_cons_of_pos hc]; rfl
    | false => rw [List.filter_cons_of_neg (by rw [hc]; decide)]; rfl
theorem lcR_inv {f : α → T → Out (β × T)} {I : T → Prop} {Q : β → Prop} : ∀ {l : List α} {t : T}, I t → (∀ x ∈ l, ∀ t, I t → ∃ y t', f x t = .ok (y, t') ∧ I t' ∧ Q y) → ∃ ys t', lcR f l t = .ok (ys, t') ∧ I t' ∧ ys.length = l.length ∧ ∀ y ∈ ys, Q y
  | [], t, h, _ => ⟨[], t, rfl, h, rfl, fun y hy => by cases hy⟩
  | x :: l, t, h, hs => by
    obtain ⟨y, t1, e1, h1, q1⟩ := hs x List.mem_cons_self t h
    obtain ⟨ys, t2, e2, h2, hl, q2⟩ := lcR_inv (l := l) h1 fun z hz => hs z (List.mem_cons_of_mem _ hz)
    refine ⟨y :: ys, t2, ?_, h2, by simp [hl], fun z hz => ?_⟩
    · unfold lcR
      rw [e1]
      show (lcR f l t1 >>= _) = _
      rw [e2]; rfl
    · rcases List.mem_cons.mp hz with rfl | hz
      · exact q1
      · exact q2 z hz
theorem forN_inv {body : α → T → Out T} {I : List α → T → Prop} : ∀ {l : List α} {t : T} (pre : List α), I pre t → (∀ p x r t, pre ++ l = p ++ x :: r → I p t → ∃ t', body x t = .ok t' ∧ I (p ++ [x]) t') → ∃ t', forN body l t = .ok t' ∧ I (pre ++ l) t'
  | [], t, pre, h, _ => ⟨t, rfl, by rwa [List.append_nil]⟩
  | x :: l, t, pre, h, hs => by
    obtain ⟨t1, e1, h1⟩ := hs pre x l t rfl h
    obtain ⟨t2, e2, h2⟩ := forN_inv (l := l) (pre ++ [x]) h1 fun p y r t e => hs p y r t (by rw [← e, List.append_assoc]; rfl)
    refine ⟨t2, ?_, by rw [List.append_assoc] at h2; exact h2⟩
    unfold forN
    rw [e1]; exact e2
/-- a loop whose turn is a plain function -/
theorem forN_fold {body : α → T → Out T} {g : α → T → T} {I : T → Prop} : ∀ {l : List α} {t : T}, I t → (∀ x ∈ l, ∀ t, I t → body x t = .ok (g x t) ∧ I (g x t)) → forN body l t = .ok (l.foldl (fun t x => g x t) t) ∧ I (l.foldl (fun t x => g x t) t)
  | [], t, h, _ => ⟨rfl, h⟩
  | x :: l, t, h, hs => by
    obtain ⟨e1, h1⟩ := hs x List.mem_cons_self t h
    obtain ⟨e2, h2⟩ := forN_fold (l := l) h1 fun y hy => hs y (List.mem_cons_of_mem _ hy)
    refine ⟨?_, h2⟩
    unfold forN
    rw [e1]; exact e2
theorem forS_nx {body : α → T → Out (TF T T R)} {I : T → Prop} : ∀ {l : List α} {t : T}, I t → (∀ x ∈ l, ∀ t, I t → ∃ t', body x t = .ok (.nx t') ∧ I t') → ∃ t', forS body l t = .ok (.nx t') ∧ I t'
  | [], t, h, _ => ⟨t, rfl, h⟩
  | x :: l, t, h, hs => by
    obtain ⟨t1, e1, h1⟩ := hs x List.mem_cons_self t h
    obtain ⟨t2, e2, h2⟩ := forS_nx (l := l) h1 fun y hy => hs y (List.mem_cons_of_mem _ hy)
    refine ⟨t2, ?_, h2⟩
    unfold forS
    rw [e1]; exact e2
theorem thenR_nx {S : Type} {o : Out (TF S Empty R)} {k : S → Out R} {s : S} (h : o = .ok (.nx s)) : thenR o k = k s := by subst h; rfl
theorem thenS_nx {S S1 : Type} {o : Out (TF S Empty R)} {k : S → Out (TF S1 B R)} {s : S} (h : o = .ok (.nx s)) : thenS o k = k s := by subst h; rfl
theorem andThen_nx {S S1 : Type} {o : Out (TF S B R)} {k : S → Out (TF S1 B R)} {s : S} (h : o = .ok (.nx s)) : andThen o k = k s := by subst h; rfl
end
/-- the state of the draws -/
def Cup (c : List Int) : Prop := ∃ a b : Int, c = [a, b] ∧ 0 ≤ a ∧ 0 ≤ b
end Fw

set_option Elab.async false
set_option linter.all false
set_option maxRecDepth 100000
set_option maxHeartbeats 4000000
namespace Lw
open PySem PySem.Spec L2 Fw
def top (i : Nat) : Stmt := PySem.Challenge.pw_sortingoffice_k75_whole_counts_of_wishes.main.body.getD i (.Pass ⟨0, 0, 0, 0⟩)
def Γ (x : Str) : Option D := if x = "ROWS" then some (.int 2000) else if x = "SLOTS" then some (.int 12) else none
theorem g_ROWS : Γ "ROWS" = some (.int 2000) := rfl
theorem g_SLOTS : Γ "SLOTS" = some (.int 12) := rfl
/-! is_whole -/
abbrev s_is_whole : Stmt := top 6
def N_is_whole : List Str := ["value", "low", "high"]
def ps_is_whole : List Str := ["value", "low", "high"]
def fns_is_whole : List Str := []
def exs_is_whole : List Str := []
def is_is_whole : IS := (.seq (.ret false (.and (.isi .int (.var 0)) (.and (.not (.isi .bool (.var 0))) (.chain .le .le (.var 1) (.var 0) (.var 2)))))
 .skip)
theorem ck_is_whole : chkB (ckOf N_is_whole s_is_whole fns_is_whole exs_is_whole false) is_is_whole (defBody s_is_whole) = true := by decide +kernel
theorem sc_is_whole : FnScope N_is_whole ps_is_whole (defScope s_is_whole) := ⟨rfl, rfl, rfl, by decide +kernel, rfl, by decide +kernel, by decide +kernel⟩
def Φ_is_whole : Tab := []
def fd_is_whole : Fd := ⟨"is_whole", ps_is_whole, false, false, runF ⟨Φ_is_whole, Γ⟩ is_is_whole N_is_whole.length false false⟩
/-! is_tuple_of -/
abbrev s_is_tuple_of : Stmt := top 7
def N_is_tuple_of : List Str := ["value", "low", "high"]
def ps_is_tuple_of : List Str := ["value", "low", "high"]
def fns_is_tuple_of : List Str := []
def exs_is_tuple_of : List Str := []
def is_is_tuple_of : IS := (.seq (.ret false (.and (.isi .tuple (.var 0)) (.chain .le .le (.var 1) (.b1 .len (.var 0)) (.var 2))))
 .skip)
theorem ck_is_tuple_of : chkB (ckOf N_is_tuple_of s_is_tuple_of fns_is_tuple_of exs_is_tuple_of false) is_is_tuple_of (defBody s_is_tuple_of) = true := by decide +kernel
theorem sc_is_tuple_of : FnScope N_is_tuple_of ps_is_tuple_of (defScope s_is_tuple_of) := ⟨rfl, rfl, rfl, by decide +kernel, rfl, by decide +kernel, by decide +kernel⟩
def Φ_is_tuple_of : Tab := []
def fd_is_tuple_of : Fd := ⟨"is_tuple_of", ps_is_tuple_of, false, false, runF ⟨Φ_is_tuple_of, Γ⟩ is_is_tuple_of N_is_tuple_of.length false false⟩
/-! fits_wishes -/
abbrev s_fits_wishes : Stmt := top 11
def N_fits_wishes : List Str := ["value", "one"]
def ps_fits_wishes : List Str := ["value"]
def fns_fits_wishes : List Str := ["is_tuple_of", "is_whole"]
def exs_fits_wishes : List Str := []
def lc_fits_wishes_1 : IR := (.lc [("one", 1)] (.nm 1) (.iseq (.idx (.var 0) (.cst (.int 1)))) (.cst (.bool true)) (.call "is_whole" false (.cons (.var 1) (.cons (.cst (.int 0)) (.cons (.bin .sub (.idx (.var 0) (.cst (.int 0))) (.cst (.int 1))) .nil)))))
def is_fits_wishes : IS := (.seq (.iff (.or (.not (.call "is_tuple_of" false (.cons (.var 0) (.cons (.cst (.int 2)) (.cons (.cst (.int 2)) .nil))))) (.or (.not (.call "is_whole" false (.cons (.idx (.var 0) (.cst (.int 0))) (.cons (.cst (.int 1)) (.cons (.glo "SLOTS") .nil))))) (.not (.call "is_tuple_of" false (.cons (.idx (.var 0) (.cst (.int 1))) (.cons (.cst (.int 0)) (.cons (.glo "SLOTS") .nil)))))))
 (.seq (.ret false (.cst (.bool false)))
 .skip)
 .skip)
 (.seq (.ret false (.b1 .all lc_fits_wishes_1))
 .skip))
theorem ck_fits_wishes : chkB (ckOf N_fits_wishes s_fits_wishes fns_fits_wishes exs_fits_wishes false) is_fits_wishes (defBody s_fits_wishes) = true := by decide +kernel
theorem sc_fits_wishes : FnScope N_fits_wishes ps_fits_wishes (defScope s_fits_wishes) := ⟨rfl, rfl, rfl, by decide +kernel, rfl, by decide +kernel, by decide +kernel⟩
def Φ_fits_wishes : Tab := [fd_is_tuple_of, fd_is_whole]
def fd_fits_wishes : Fd := ⟨"fits_wishes", ps_fits_wishes, false, false, runF ⟨Φ_fits_wishes, Γ⟩ is_fits_wishes N_fits_wishes.length false false⟩
/-! need_wishes -/
abbrev s_need_wishes : Stmt := top 12
def N_need_wishes : List Str := ["wishes"]
def ps_need_wishes : List Str := ["wishes"]
def fns_need_wishes : List Str := ["fits_wishes"]
def exs_need_wishes : List Str := ["InvalidSlots"]
def is_need_wishes : IS := (.seq (.iff (.not (.call "fits_wishes" false (.cons (.var 0) .nil)))
 (.seq (.raise "InvalidSlots" (.cst .none))
 .skip)
 .skip)
 (.seq (.fgt [0]) .skip))
theorem ck_need_wishes : chkB (ckOf N_need_wishes s_need_wishes fns_need_wishes exs_need_wishes false) is_need_wishes (defBody s_need_wishes) = true := by decide +kernel
theorem sc_need_wishes : FnScope N_need_wishes ps_need_wishes (defScope s_need_wishes) := ⟨rfl, rfl, rfl, by decide +kernel, rfl, by decide +kernel, by decide +kernel⟩
def Φ_need_wishes : Tab := [fd_fits_wishes]
def fd_need_wishes : Fd := ⟨"need_wishes", ps_need_wishes, false, false, runF ⟨Φ_need_wishes, Γ⟩ is_need_wishes N_need_wishes.length false false⟩
/-! placed -/
abbrev s_placed : Stmt := top 13
def N_placed : List Str := ["wishes", "taken", "found", "wish", "free", "slot"]
def ps_placed : List Str := ["wishes"]
def fns_placed : List Str := []
def exs_placed : List Str := []
def lc_placed_1 : IR := (.lc [("slot", 5)] (.nm 5) (.irng2 (.var 3) (.idx (.var 0) (.cst (.int 0)))) (.cmp .notin (.var 5) (.bor 1)) (.var 5))
def bd_placed_1 : IS := (.seq (.set (.nm 4) lc_placed_1)
 (.seq (.fgt [3]) (.seq (.ex (.app 2 (.ite (.cmp .ne (.var 4) (.lst .nil)) (.idx (.var 4) (.cst (.int 0))) (.cst .none))))
 (.seq (.iff (.cmp .ne (.var 4) (.lst .nil))
 (.seq (.setix 1 (.idx (.var 4) (.cst (.int 0))) (.cst (.bool true)))
 .skip)
 .skip)
 (.seq (.fgt [4]) .skip)))))
def is_placed : IS := (.seq (.par [(1, true), (2, true)] (.cons .emp (.cons (.lst .nil) .nil)))
 (.seq (.for (.nm 3) (.iseq (.idx (.var 0) (.cst (.int 1)))) bd_placed_1)
 (.seq (.fgt [0, 1]) (.seq (.ret false (.var 2))
 .skip))))
theorem ck_placed : chkB (ckOf N_placed s_placed fns_placed exs_placed false) is_placed (defBody s_placed) = true := by decide +kernel
theorem sc_placed : FnScope N_placed ps_placed (defScope s_placed) := ⟨rfl, rfl, rfl, by decide +kernel, rfl, by decide +kernel, by decide +kernel⟩
def Φ_placed : Tab := []
def fd_placed : Fd := ⟨"placed", ps_placed, false, false, runF ⟨Φ_placed, Γ⟩ is_placed N_placed.length false false⟩
/-! more_from -/
abbrev s_more_from : Stmt := top 14
def N_more_from : List Str := ["wishes", "many", "one", "slot"]
def ps_more_from : List Str := ["wishes"]
def fns_more_from : List Str := []
def exs_more_from : List Str := []
def lc_more_from_1 : IR := (.lc [("one", 2)] (.nm 2) (.iseq (.idx (.var 0) (.cst (.int 1)))) (.cmp .ge (.var 2) (.var 3)) (.var 2))
def lc_more_from_2 : IR := (.lc [("slot", 3)] (.nm 3) (.irng (.var 1)) (.cst (.bool true)) (.bin .sub (.b1 .len lc_more_from_1) (.bin .sub (.var 1) (.var 3))))
def is_more_from : IS := (.seq (.set (.nm 1) (.idx (.var 0) (.cst (.int 0))))
 (.seq (.ret false lc_more_from_2)
 .skip))
theorem ck_more_from : chkB (ckOf N_more_from s_more_from fns_more_from exs_more_from false) is_more_from (defBody s_more_from) = true := by decide +kernel
theorem sc_more_from : FnScope N_more_from ps_more_from (defScope s_more_from) := ⟨rfl, rfl, rfl, by decide +kernel, rfl, by decide +kernel, by decide +kernel⟩
def Φ_more_from : Tab := []
def fd_more_from : Fd := ⟨"more_from", ps_more_from, false, false, runF ⟨Φ_more_from, Γ⟩ is_more_from N_more_from.length false false⟩
/-! power -/
abbrev s_power : Stmt := top 15
def N_power : List Str := ["number", "many", "found", "turn"]
def ps_power : List Str := ["number", "many"]
def fns_power : List Str := []
def exs_power : List Str := []
def bd_power_1 : IS := (.seq (.set (.nm 2) (.bin .mul (.var 2) (.var 0)))
 (.seq (.fgt [3]) .skip))
def is_power : IS := (.seq (.set (.nm 2) (.cst (.int 1)))
 (.seq (.for (.nm 3) (.irng (.var 1)) bd_power_1)
 (.seq (.fgt [0, 1]) (.seq (.ret false (.var 2))
 .skip))))
theorem ck_power : chkB (ckOf N_power s_power fns_power exs_power false) is_power (defBody s_power) = true := by decide +kernel
theorem sc_power : FnScope N_power ps_power (defScope s_power) := ⟨rfl, rfl, rfl, by decide +kernel, rfl, by decide +kernel, by decide +kernel⟩
def Φ_power : Tab := []
def fd_power : Fd := ⟨"power", ps_power, false, false, runF ⟨Φ_power, Γ⟩ is_power N_power.length false false⟩
/-! fits_places -/
abbrev s_fits_places : Stmt := top 16
def N_fits_places : List Str := ["many", "value", "one"]
def ps_fits_places : List Str := ["many", "value"]
def fns_fits_places : List Str := ["is_tuple_of", "is_whole"]
def exs_fits_places : List Str := []
def lc_fits_places_1 : IR := (.lc [("one", 2)] (.nm 2) (.iseq (.var 1)) (.cst (.bool true)) (.call "is_whole" false (.cons (.var 2) (.cons (.cst (.int 0)) (.cons (.bin .sub (.var 0) (.cst (.int 1))) .nil)))))
def is_fits_places : IS := (.seq (.iff (.or (.not (.call "is_tuple_of" false (.cons (.var 1) (.cons (.cst (.int 0)) (.cons (.var 0) .nil))))) (.not (.b1 .all lc_fits_places_1)))
 (.seq (.ret false (.cst (.bool false)))
 .skip)
 .skip)
 (.seq (.fgt [0]) (.seq (.ret false (.cmp .eq (.set (.var 1)) (.b1 .len (.var 1))))
 .skip)))
theorem ck_fits_places : chkB (ckOf N_fits_places s_fits_places fns_fits_places exs_fits_places false) is_fits_places (defBody s_fits_places) = true := by decide +kernel
theorem sc_fits_places : FnScope N_fits_places ps_fits_places (defScope s_fits_places) := ⟨rfl, rfl, rfl, by decide +kernel, rfl, by decide +kernel, by decide +kernel⟩
def Φ_fits_places : Tab := [fd_is_tuple_of, fd_is_whole]
def fd_fits_places : Fd := ⟨"fits_places", ps_fits_places, false, false, runF ⟨Φ_fits_places, Γ⟩ is_fits_places N_fits_places.length false false⟩
/-! places -/
abbrev s_places : Stmt := top 17
def N_places : List Str := ["wishes"]
def ps_places : List Str := ["wishes"]
def fns_places : List Str := ["need_wishes", "placed"]
def exs_places : List Str := []
def is_places : IS := (.seq (.ex (.call "need_wishes" false (.cons (.var 0) .nil)))
 (.seq (.ret false (.toT (.call "placed" false (.cons (.var 0) .nil))))
 .skip))
theorem ck_places : chkB (ckOf N_places s_places fns_places exs_places false) is_places (defBody s_places) = true := by decide +kernel
theorem sc_places : FnScope N_places ps_places (defScope s_places) := ⟨rfl, rfl, rfl, by decide +kernel, rfl, by decide +kernel, by decide +kernel⟩
def Φ_places : Tab := [fd_need_wishes, fd_placed]
def fd_places : Fd := ⟨"places", ps_places, false, false, runF ⟨Φ_places, Γ⟩ is_places N_places.length false false⟩
/-! need_counts -/
abbrev s_need_counts : Stmt := top 19
def N_need_counts : List Str := ["many", "parcels"]
def ps_need_counts : List Str := ["many", "parcels"]
def fns_need_counts : List Str := ["is_whole"]
def exs_need_counts : List Str := ["InvalidNumber"]
def is_need_counts : IS := (.seq (.iff (.or (.not (.call "is_whole" false (.cons (.var 0) (.cons (.cst (.int 1)) (.cons (.glo "SLOTS") .nil))))) (.not (.call "is_whole" false (.cons (.var 1) (.cons (.cst (.int 0)) (.cons (.glo "SLOTS") .nil))))))
 (.seq (.raise "InvalidNumber" (.cst .none))
 .skip)
 .skip)
 (.seq (.fgt [0, 1]) .skip))
theorem ck_need_counts : chkB (ckOf N_need_counts s_need_counts fns_need_counts exs_need_counts false) is_need_counts (defBody s_need_counts) = true := by decide +kernel
theorem sc_need_counts : FnScope N_need_counts ps_need_counts (defScope s_need_counts) := ⟨rfl, rfl, rfl, by decide +kernel, rfl, by decide +kernel, by decide +kernel⟩
def Φ_need_counts : Tab := [fd_is_whole]
def fd_need_counts : Fd := ⟨"need_counts", ps_need_counts, false, false, runF ⟨Φ_need_counts, Γ⟩ is_need_counts N_need_counts.length false false⟩
/-! count_finding -/
abbrev s_count_finding : Stmt := top 18
def N_count_finding : List Str := ["many", "parcels", "whole"]
def ps_count_finding : List Str := ["many", "parcels"]
def fns_count_finding : List Str := ["need_counts", "power"]
def exs_count_finding : List Str := []
def is_count_finding : IS := (.seq (.ex (.call "need_counts" false (.cons (.var 0) (.cons (.var 1) .nil))))
 (.seq (.set (.nm 2) (.call "power" false (.cons (.var 0) (.cons (.var 1) .nil))))
 (.seq (.iff (.cmp .gt (.var 1) (.var 0))
 (.seq (.ret false (.tup (.cons (.var 2) (.cons (.cst (.int 0)) .nil))))
 .skip)
 .skip)
 (.seq (.ret false (.tup (.cons (.var 2) (.cons (.ite (.cmp .gt (.var 1) (.cst (.int 0))) (.bin .mul (.bin .sub (.bin .add (.var 0) (.cst (.int 1))) (.var 1)) (.call "power" false (.cons (.bin .add (.var 0) (.cst (.int 1))) (.cons (.bin .sub (.var 1) (.cst (.int 1))) .nil)))) (.cst (.int 1))) .nil))))
 .skip))))
theorem ck_count_finding : chkB (ckOf N_count_finding s_count_finding fns_count_finding exs_count_finding false) is_count_finding (defBody s_count_finding) = true := by decide +kernel
theorem sc_count_finding : FnScope N_count_finding ps_count_finding (defScope s_count_finding) := ⟨rfl, rfl, rfl, by decide +kernel, rfl, by decide +kernel, by decide +kernel⟩
def Φ_count_finding : Tab := [fd_need_counts, fd_power]
def fd_count_finding : Fd := ⟨"count_finding", ps_count_finding, false, false, runF ⟨Φ_count_finding, Γ⟩ is_count_finding N_count_finding.length false false⟩
/-! all_finding -/
abbrev s_all_finding : Stmt := top 20
def N_all_finding : List Str := ["many", "parcels", "line", "turn", "longer", "row", "one"]
def ps_all_finding : List Str := ["many", "parcels"]
def fns_all_finding : List Str := ["count_finding", "more_from"]
def exs_all_finding : List Str := []
def lc_all_finding_1 : IR := (.lc [("row", 5)] (.nm 5) (.iseq (.var 4)) (.cmp .le (.b1 .max (.call "more_from" false (.cons (.tup (.cons (.var 0) (.cons (.var 5) .nil))) .nil))) (.cst (.int 0))) (.var 5))
def lc_all_finding_2 : IR := (.lc2 [("row", 5), ("one", 6)] [6] (.nm 5) (.iseq (.var 2)) (.cst (.bool true)) (.nm 6) (.irng (.var 0)) (.cst (.bool true)) (.bin .add (.var 5) (.tup (.cons (.var 6) .nil))))
def bd_all_finding_1 : IS := (.seq (.set (.nm 4) lc_all_finding_2)
 (.seq (.fgt [2, 3]) (.seq (.set (.nm 2) lc_all_finding_1)
 (.seq (.fgt [4]) .skip))))
def is_all_finding : IS := (.seq (.iff (.cmp .gt (.idx (.call "count_finding" false (.cons (.var 0) (.cons (.var 1) .nil))) (.cst (.int 1))) (.glo "ROWS"))
 (.seq .nevS
 .skip)
 .skip)
 (.seq (.iff (.cmp .gt (.var 1) (.var 0))
 (.seq (.ret false (.tup .nil))
 .skip)
 .skip)
 (.seq (.set (.nm 2) (.lst (.cons (.tup .nil) .nil)))
 (.seq (.for (.nm 3) (.irng (.var 1)) bd_all_finding_1)
 (.seq (.fgt [0, 1]) (.seq (.ret false (.toT (.var 2)))
 .skip))))))
theorem ck_all_finding : chkB (ckOf N_all_finding s_all_finding fns_all_finding exs_all_finding false) is_all_finding (defBody s_all_finding) = true := by decide +kernel
theorem sc_all_finding : FnScope N_all_finding ps_all_finding (defScope s_all_finding) := ⟨rfl, rfl, rfl, by decide +kernel, rfl, by decide +kernel, by decide +kernel⟩
def Φ_all_finding : Tab := [fd_count_finding, fd_more_from]
def fd_all_finding : Fd := ⟨"all_finding", ps_all_finding, false, false, runF ⟨Φ_all_finding, Γ⟩ is_all_finding N_all_finding.length false false⟩
/-! runs_ahead -/
abbrev s_runs_ahead : Stmt := top 21
def N_runs_ahead : List Str := ["many", "own", "taken", "found", "slot", "begin"]
def ps_runs_ahead : List Str := ["many", "own"]
def fns_runs_ahead : List Str := []
def exs_runs_ahead : List Str := []
def bd_runs_ahead_1 : IS := (.seq (.set (.nm 5) (.bin .sub (.var 5) (.cst (.int 1))))
 .skip)
def bd_runs_ahead_2 : IS := (.seq (.setix 2 (.var 4) (.cst (.bool true)))
 (.seq (.set (.nm 5) (.var 4))
 (.seq (.whl 1000 (.cmp .isin (.bin .sub (.var 5) (.cst (.int 1))) (.bor 2)) bd_runs_ahead_1)
 (.seq (.ex (.app 3 (.bin .add (.bin .sub (.var 4) (.var 5)) (.cst (.int 1)))))
 (.seq (.fgt [4, 5]) .skip)))))
def is_runs_ahead : IS := (.seq (.fgt [0]) (.seq (.par [(2, true), (3, true)] (.cons .emp (.cons (.lst .nil) .nil)))
 (.seq (.for (.nm 4) (.iseq (.var 1)) bd_runs_ahead_2)
 (.seq (.fgt [1, 2]) (.seq (.ret false (.var 3))
 .skip)))))
theorem ck_runs_ahead : chkB (ckOf N_runs_ahead s_runs_ahead fns_runs_ahead exs_runs_ahead false) is_runs_ahead (defBody s_runs_ahead) = true := by decide +kernel
theorem sc_runs_ahead : FnScope N_runs_ahead ps_runs_ahead (defScope s_runs_ahead) := ⟨rfl, rfl, rfl, by decide +kernel, rfl, by decide +kernel, by decide +kernel⟩
def Φ_runs_ahead : Tab := []
def fd_runs_ahead : Fd := ⟨"runs_ahead", ps_runs_ahead, false, false, runF ⟨Φ_runs_ahead, Γ⟩ is_runs_ahead N_runs_ahead.length false false⟩
/-! need_places -/
abbrev s_need_places : Stmt := top 22
def N_need_places : List Str := ["many", "own"]
def ps_need_places : List Str := ["many", "own"]
def fns_need_places : List Str := ["fits_places", "is_whole"]
def exs_need_places : List Str := ["InvalidNumber", "InvalidSlots"]
def is_need_places : IS := (.seq (.iff (.not (.call "is_whole" false (.cons (.var 0) (.cons (.cst (.int 1)) (.cons (.glo "SLOTS") .nil)))))
 (.seq (.raise "InvalidNumber" (.cst .none))
 .skip)
 .skip)
 (.seq (.iff (.not (.call "fits_places" false (.cons (.var 0) (.cons (.var 1) .nil))))
 (.seq (.raise "InvalidSlots" (.cst .none))
 .skip)
 .skip)
 (.seq (.fgt [0, 1]) .skip)))
theorem ck_need_places : chkB (ckOf N_need_places s_need_places fns_need_places exs_need_places false) is_need_places (defBody s_need_places) = true := by decide +kernel
theorem sc_need_places : FnScope N_need_places ps_need_places (defScope s_need_places) := ⟨rfl, rfl, rfl, by decide +kernel, rfl, by decide +kernel, by decide +kernel⟩
def Φ_need_places : Tab := [fd_fits_places, fd_is_whole]
def fd_need_places : Fd := ⟨"need_places", ps_need_places, false, false, runF ⟨Φ_need_places, Γ⟩ is_need_places N_need_places.length false false⟩
/-! count_for -/
abbrev s_count_for : Stmt := top 23
def N_count_for : List Str := ["many", "own", "found", "run"]
def ps_count_for : List Str := ["many", "own"]
def fns_count_for : List Str := ["need_places", "runs_ahead"]
def exs_count_for : List Str := []
def bd_count_for_1 : IS := (.seq (.set (.nm 2) (.bin .mul (.var 2) (.var 3)))
 (.seq (.fgt [3]) .skip))
def is_count_for : IS := (.seq (.ex (.call "need_places" false (.cons (.var 0) (.cons (.var 1) .nil))))
 (.seq (.set (.nm 2) (.cst (.int 1)))
 (.seq (.for (.nm 3) (.iseq (.call "runs_ahead" false (.cons (.var 0) (.cons (.var 1) .nil)))) bd_count_for_1)
 (.seq (.fgt [0, 1]) (.seq (.ret false (.var 2))
 .skip)))))
theorem ck_count_for : chkB (ckOf N_count_for s_count_for fns_count_for exs_count_for false) is_count_for (defBody s_count_for) = true := by decide +kernel
theorem sc_count_for : FnScope N_count_for ps_count_for (defScope s_count_for) := ⟨rfl, rfl, rfl, by decide +kernel, rfl, by decide +kernel, by decide +kernel⟩
def Φ_count_for : Tab := [fd_need_places, fd_runs_ahead]
def fd_count_for : Fd := ⟨"count_for", ps_count_for, false, false, runF ⟨Φ_count_for, Γ⟩ is_count_for N_count_for.length false false⟩
/-! first_for -/
abbrev s_first_for : Stmt := top 24
def N_first_for : List Str := ["many", "own", "slot", "run"]
def ps_first_for : List Str := ["many", "own"]
def fns_first_for : List Str := ["need_places", "runs_ahead"]
def exs_first_for : List Str := []
def lc_first_for_1 : IR := (.lc [("slot", 2), ("run", 3)] (.tp (.cons (.nm 2) (.cons (.nm 3) .nil))) (.izip (.var 1) (.call "runs_ahead" false (.cons (.var 0) (.cons (.var 1) .nil)))) (.cst (.bool true)) (.bin .add (.bin .sub (.var 2) (.var 3)) (.cst (.int 1))))
def is_first_for : IS := (.seq (.ex (.call "need_places" false (.cons (.var 0) (.cons (.var 1) .nil))))
 (.seq (.ret false (.toT lc_first_for_1))
 .skip))
theorem ck_first_for : chkB (ckOf N_first_for s_first_for fns_first_for exs_first_for false) is_first_for (defBody s_first_for) = true := by decide +kernel
theorem sc_first_for : FnScope N_first_for ps_first_for (defScope s_first_for) := ⟨rfl, rfl, rfl, by decide +kernel, rfl, by decide +kernel, by decide +kernel⟩
def Φ_first_for : Tab := [fd_need_places, fd_runs_ahead]
def fd_first_for : Fd := ⟨"first_for", ps_first_for, false, false, runF ⟨Φ_first_for, Γ⟩ is_first_for N_first_for.length false false⟩
/-! most_steps -/
abbrev s_most_steps : Stmt := top 25
def N_most_steps : List Str := ["many", "parcels"]
def ps_most_steps : List Str := ["many", "parcels"]
def fns_most_steps : List Str := ["need_counts"]
def exs_most_steps : List Str := ["InvalidNumber"]
def is_most_steps : IS := (.seq (.ex (.call "need_counts" false (.cons (.var 0) (.cons (.var 1) .nil))))
 (.seq (.iff (.cmp .gt (.var 1) (.var 0))
 (.seq (.raise "InvalidNumber" (.cst .none))
 .skip)
 .skip)
 (.seq (.fgt [0]) (.seq (.ret false (.tup (.cons (.bin .fdiv (.bin .mul (.var 1) (.bin .sub (.var 1) (.cst (.int 1)))) (.cst (.int 2))) (.cons (.bin .mul (.tup (.cons (.cst (.int 0)) .nil)) (.var 1)) .nil))))
 .skip))))
theorem ck_most_steps : chkB (ckOf N_most_steps s_most_steps fns_most_steps exs_most_steps false) is_most_steps (defBody s_most_steps) = true := by decide +kernel
theorem sc_most_steps : FnScope N_most_steps ps_most_steps (defScope s_most_steps) := ⟨rfl, rfl, rfl, by decide +kernel, rfl, by decide +kernel, by decide +kernel⟩
def Φ_most_steps : Tab := [fd_need_counts]
def fd_most_steps : Fd := ⟨"most_steps", ps_most_steps, false, false, runF ⟨Φ_most_steps, Γ⟩ is_most_steps N_most_steps.length false false⟩
/-! _law_cup -/
abbrev s_law_cup : Stmt := top 27
def N_law_cup : List Str := ["script", "cell"]
def ps_law_cup : List Str := ["script"]
def fns_law_cup : List Str := []
def exs_law_cup : List Str := []
def is_law_cup : IS := (.seq (.set (.nm 1) (.b1 .abs (.idx (.bin .addL (.toL (.var 0)) (.lst (.cons (.cst (.int 0)) .nil))) (.cst (.int 0)))))
 (.seq (.fgt [0]) (.seq (.ret true (.lst (.cons (.ite (.cmp .ge (.var 1) (.bin .pow (.cst (.int 10)) (.cst (.int 18)))) (.bin .fdiv (.var 1) (.cst (.int 79))) (.cst (.int 0))) (.cons (.bin .add (.bin .mod (.b1 .int (.bin .add (.bin .mul (.var 1) (.cst (.int 313))) (.cst (.int 4021)))) (.cst (.int 2077495741))) (.cst (.int 163))) .nil))))
 .skip)))
theorem ck_law_cup : chkB (ckOf N_law_cup s_law_cup fns_law_cup exs_law_cup false) is_law_cup (defBody s_law_cup) = true := by decide +kernel
theorem sc_law_cup : FnScope N_law_cup ps_law_cup (defScope s_law_cup) := ⟨rfl, rfl, rfl, by decide +kernel, rfl, by decide +kernel, by decide +kernel⟩
def Φ_law_cup : Tab := []
def fd_law_cup : Fd := ⟨"_law_cup", ps_law_cup, false, true, runF ⟨Φ_law_cup, Γ⟩ is_law_cup N_law_cup.length false true⟩
/-! _law_roll -/
abbrev s_law_roll : Stmt := top 28
def N_law_roll : List Str := ["cup", "many", "found", "deep"]
def ps_law_roll : List Str := ["cup", "many"]
def fns_law_roll : List Str := []
def exs_law_roll : List Str := []
def is_law_roll : IS := (.seq (.iff (.cmp .gt (.idx (.bor 0) (.cst (.int 0))) (.cst (.int 0)))
 (.seq (.set (.nm 2) (.bin .mod (.b1 .int (.idx (.bor 0) (.cst (.int 0)))) (.var 1)))
 (.seq (.setix 0 (.cst (.int 0)) (.bin .fdiv (.idx (.bor 0) (.cst (.int 0))) (.var 1)))
 (.seq (.ret false (.var 2))
 .skip)))
 .skip)
 (.seq (.setix 0 (.cst (.int 1)) (.bin .mod (.b1 .int (.bin .add (.bin .mul (.idx (.bor 0) (.cst (.int 1))) (.cst (.int 30881))) (.cst (.int 7879)))) (.cst (.int 2147483399))))
 (.seq (.set (.nm 3) (.bin .mod (.b1 .int (.bin .mul (.idx (.bor 0) (.cst (.int 1))) (.bin .add (.idx (.bor 0) (.cst (.int 1))) (.cst (.int 233))))) (.cst (.int 2147483563))))
 (.seq (.ret false (.bin .mod (.b1 .int (.bin .fdiv (.var 3) (.cst (.int 821)))) (.var 1)))
 .skip))))
theorem ck_law_roll : chkB (ckOf N_law_roll s_law_roll fns_law_roll exs_law_roll true) is_law_roll (defBody s_law_roll) = true := by decide +kernel
theorem sc_law_roll : FnScope N_law_roll ps_law_roll (defScope s_law_roll) := ⟨rfl, rfl, rfl, by decide +kernel, rfl, by decide +kernel, by decide +kernel⟩
def Φ_law_roll : Tab := []
def fd_law_roll : Fd := ⟨"_law_roll", ps_law_roll, true, false, runF ⟨Φ_law_roll, Γ⟩ is_law_roll N_law_roll.length true false⟩
/-! _law_some -/
abbrev s_law_some : Stmt := top 29
def N_law_some : List Str := ["cup", "things"]
def ps_law_some : List Str := ["cup", "things"]
def fns_law_some : List Str := ["_law_roll"]
def exs_law_some : List Str := []
def is_law_some : IS := (.seq (.ret false (.idx (.var 1) (.callc "_law_roll" false 0 (.cons (.b1 .len (.var 1)) .nil))))
 .skip)
theorem ck_law_some : chkB (ckOf N_law_some s_law_some fns_law_some exs_law_some true) is_law_some (defBody s_law_some) = true := by decide +kernel
theorem sc_law_some : FnScope N_law_some ps_law_some (defScope s_law_some) := ⟨rfl, rfl, rfl, by decide +kernel, rfl, by decide +kernel, by decide +kernel⟩
def Φ_law_some : Tab := [fd_law_roll]
def fd_law_some : Fd := ⟨"_law_some", ps_law_some, true, false, runF ⟨Φ_law_some, Γ⟩ is_law_some N_law_some.length true false⟩
/-! _law_same -/
abbrev s_law_same : Stmt := top 30
def N_law_same : List Str := ["told", "due", "at"]
def ps_law_same : List Str := ["told", "due"]
def fns_law_same : List Str := ["_law_same"]
def exs_law_same : List Str := []
def lc_law_same_1 : IR := (.lc [("at", 2)] (.nm 2) (.irng (.b1 .len (.var 1))) (.cst (.bool true)) (.call "_law_same" false (.cons (.idx (.var 0) (.var 2)) (.cons (.idx (.var 1) (.var 2)) .nil))))
def is_law_same : IS := (.seq (.iff (.isi .tuple (.var 1))
 (.seq (.iff (.or (.not (.isi .tuple (.var 0))) (.cmp .ne (.b1 .len (.var 0)) (.b1 .len (.var 1))))
 (.seq (.ret false (.cst (.bool false)))
 .skip)
 .skip)
 (.seq (.ret false (.b1 .all lc_law_same_1))
 .skip))
 .skip)
 (.seq (.iff (.cmp .is (.var 1) (.cst .none))
 (.seq (.ret false (.cmp .is (.var 0) (.cst .none)))
 .skip)
 .skip)
 (.seq (.iff (.isi .bool (.var 1))
 (.seq (.ret false (.ite (.var 1) (.cmp .is (.var 0) (.cst (.bool true))) (.cmp .is (.var 0) (.cst (.bool false)))))
 .skip)
 .skip)
 (.seq (.iff (.isi .int (.var 1))
 (.seq (.ret false (.and (.isi .int (.var 0)) (.and (.not (.isi .bool (.var 0))) (.cmp .eq (.b1 .int (.var 0)) (.var 1)))))
 .skip)
 .skip)
 (.seq (.ret false (.and (.isi .str (.var 0)) (.cmp .eq .nev (.var 1))))
 .skip)))))
theorem ck_law_same : chkB (ckOf N_law_same s_law_same fns_law_same exs_law_same false) is_law_same (defBody s_law_same) = true := by decide +kernel
theorem sc_law_same : FnScope N_law_same ps_law_same (defScope s_law_same) := ⟨rfl, rfl, rfl, by decide +kernel, rfl, by decide +kernel, by decide +kernel⟩
def fd_law_same : Nat → Fd
  | 0 => ⟨"_law_same", ps_law_same, false, false, fun _ _ => .bad⟩
  | k + 1 => ⟨"_law_same", ps_law_same, false, false, runF ⟨[fd_law_same k], Γ⟩ is_law_same N_law_same.length false false⟩
/-! _law_turned -/
abbrev s_law_turned : Stmt := top 31
def N_law_turned : List Str := ["cup", "things", "left", "found", "turn"]
def ps_law_turned : List Str := ["cup", "things"]
def fns_law_turned : List Str := ["_law_roll"]
def exs_law_turned : List Str := []
def bd_law_turned_1 : IS := (.seq (.ex (.app 3 (.popi 2 (.callc "_law_roll" false 0 (.cons (.b1 .len (.bor 2)) .nil)))))
 (.seq (.fgt [4]) .skip))
def is_law_turned : IS := (.seq (.par [(2, true), (3, true)] (.cons (.toL (.var 1)) (.cons (.lst .nil) .nil)))
 (.seq (.fgt [1]) (.seq (.for (.nm 4) (.irng (.b1 .len (.bor 2))) bd_law_turned_1)
 (.seq (.fgt [2]) (.seq (.ret false (.toT (.bor 3)))
 .skip)))))
theorem ck_law_turned : chkB (ckOf N_law_turned s_law_turned fns_law_turned exs_law_turned true) is_law_turned (defBody s_law_turned) = true := by decide +kernel
theorem sc_law_turned : FnScope N_law_turned ps_law_turned (defScope s_law_turned) := ⟨rfl, rfl, rfl, by decide +kernel, rfl, by decide +kernel, by decide +kernel⟩
def Φ_law_turned : Tab := [fd_law_roll]
def fd_law_turned : Fd := ⟨"_law_turned", ps_law_turned, true, false, runF ⟨Φ_law_turned, Γ⟩ is_law_turned N_law_turned.length true false⟩
/-! _law_places -/
abbrev s_law_places : Stmt := top 32
def N_law_places : List Str := ["many", "own", "row", "found", "at", "slot", "turn"]
def ps_law_places : List Str := ["many", "own"]
def fns_law_places : List Str := []
def exs_law_places : List Str := []
def bd_law_places_1 : IS := (.seq (.iff (.and (.cmp .lt (.var 5) (.var 0)) (.cmp .isnot (.idx (.bor 2) (.var 5)) (.cst .none)))
 (.seq (.set (.nm 5) (.bin .add (.var 5) (.cst (.int 1))))
 .skip)
 .skip)
 (.seq (.fgt [6]) .skip))
def bd_law_places_2 : IS := (.seq (.set (.nm 5) (.idx (.var 1) (.var 4)))
 (.seq (.for (.nm 6) (.irng (.var 0)) bd_law_places_1)
 (.seq (.ex (.app 3 (.ite (.cmp .lt (.var 5) (.var 0)) (.var 5) (.cst .none))))
 (.seq (.iff (.cmp .lt (.var 5) (.var 0))
 (.seq (.setix 2 (.var 5) (.var 4))
 .skip)
 .skip)
 (.seq (.fgt [4, 5]) .skip)))))
def is_law_places : IS := (.seq (.par [(2, true), (3, true)] (.cons (.bin .mulL (.lst (.cons (.cst .none) .nil)) (.var 0)) (.cons (.lst .nil) .nil)))
 (.seq (.for (.nm 4) (.irng (.b1 .len (.var 1))) bd_law_places_2)
 (.seq (.fgt [0, 1, 2]) (.seq (.ret false (.var 3))
 .skip))))
theorem ck_law_places : chkB (ckOf N_law_places s_law_places fns_law_places exs_law_places false) is_law_places (defBody s_law_places) = true := by decide +kernel
theorem sc_law_places : FnScope N_law_places ps_law_places (defScope s_law_places) := ⟨rfl, rfl, rfl, by decide +kernel, rfl, by decide +kernel, by decide +kernel⟩
def Φ_law_places : Tab := []
def fd_law_places : Fd := ⟨"_law_places", ps_law_places, false, false, runF ⟨Φ_law_places, Γ⟩ is_law_places N_law_places.length false false⟩
/-! _law_rows -/
abbrev s_law_rows : Stmt := top 33
def N_law_rows : List Str := ["many", "parcels", "found", "turn", "longer", "row", "one"]
def ps_law_rows : List Str := ["many", "parcels"]
def fns_law_rows : List Str := []
def exs_law_rows : List Str := []
def lc_law_rows_1 : IR := (.lc [("one", 6)] (.nm 6) (.irng (.var 0)) (.cst (.bool true)) (.bin .add (.var 5) (.tup (.cons (.var 6) .nil))))
def bd_law_rows_1 : IS := (.seq (.set (.nm 4) (.bin .addL (.var 4) lc_law_rows_1))
 (.seq (.fgt [5]) .skip))
def bd_law_rows_2 : IS := (.seq (.set (.nm 4) (.lst .nil))
 (.seq (.fgt [3]) (.seq (.for (.nm 5) (.iseq (.var 2)) bd_law_rows_1)
 (.seq (.fgt [2]) (.seq (.set (.nm 2) (.var 4))
 (.seq (.fgt [4]) .skip))))))
def is_law_rows : IS := (.seq (.set (.nm 2) (.lst (.cons (.tup .nil) .nil)))
 (.seq (.for (.nm 3) (.irng (.var 1)) bd_law_rows_2)
 (.seq (.fgt [0, 1]) (.seq (.ret false (.var 2))
 .skip))))
theorem ck_law_rows : chkB (ckOf N_law_rows s_law_rows fns_law_rows exs_law_rows false) is_law_rows (defBody s_law_rows) = true := by decide +kernel
theorem sc_law_rows : FnScope N_law_rows ps_law_rows (defScope s_law_rows) := ⟨rfl, rfl, rfl, by decide +kernel, rfl, by decide +kernel, by decide +kernel⟩
def Φ_law_rows : Tab := []
def fd_law_rows : Fd := ⟨"_law_rows", ps_law_rows, false, false, runF ⟨Φ_law_rows, Γ⟩ is_law_rows N_law_rows.length false false⟩
/-! _law_power -/
abbrev s_law_power : Stmt := top 34
def N_law_power : List Str := ["number", "many", "found", "turn"]
def ps_law_power : List Str := ["number", "many"]
def fns_law_power : List Str := []
def exs_law_power : List Str := []
def bd_law_power_1 : IS := (.seq (.set (.nm 2) (.bin .mul (.var 2) (.var 0)))
 (.seq (.fgt [3]) .skip))
def is_law_power : IS := (.seq (.set (.nm 2) (.cst (.int 1)))
 (.seq (.for (.nm 3) (.irng (.var 1)) bd_law_power_1)
 (.seq (.fgt [0, 1]) (.seq (.ret false (.var 2))
 .skip))))
theorem ck_law_power : chkB (ckOf N_law_power s_law_power fns_law_power exs_law_power false) is_law_power (defBody s_law_power) = true := by decide +kernel
theorem sc_law_power : FnScope N_law_power ps_law_power (defScope s_law_power) := ⟨rfl, rfl, rfl, by decide +kernel, rfl, by decide +kernel, by decide +kernel⟩
def Φ_law_power : Tab := []
def fd_law_power : Fd := ⟨"_law_power", ps_law_power, false, false, runF ⟨Φ_law_power, Γ⟩ is_law_power N_law_power.length false false⟩
/-! law -/
abbrev s_law : Stmt := top 35
def N_law : List Str := ["script", "cup", "turn", "many", "parcels", "rows", "good", "row", "own", "same", "sums", "size", "first", "whole", "at", "run", "far", "wish", "slot", "every", "some", "told"]
def ps_law : List Str := ["script"]
def fns_law : List Str := ["_law_cup", "_law_places", "_law_power", "_law_roll", "_law_rows", "_law_same", "_law_some", "_law_turned", "all_finding", "count_finding", "count_for", "first_for", "most_steps", "places"]
def exs_law : List Str := []
def lc_law_1 : IR := (.lc [("wish", 17), ("slot", 18)] (.tp (.cons (.nm 17) (.cons (.nm 18) .nil))) (.izip (.var 12) (.var 8)) (.cmp .gt (.var 17) (.var 18)) (.cst (.int 1)))
def bd_law_1 : IS := (.seq (.set (.nm 15) (.ite (.and (.cmp .eq (.var 15) (.var 16)) (.cmp .isin (.bin .sub (.idx (.var 8) (.var 14)) (.var 16)) (.sli (.var 8) (.cst .none) (.var 14)))) (.bin .add (.var 15) (.cst (.int 1))) (.var 15)))
 (.seq (.fgt [16]) .skip))
def bd_law_2 : IS := (.seq (.set (.nm 15) (.cst (.int 1)))
 (.seq (.for (.nm 16) (.irng2 (.cst (.int 1)) (.var 3)) bd_law_1)
 (.seq (.fgt [14]) (.seq (.set (.nm 13) (.bin .mul (.var 13) (.var 15)))
 (.seq (.fgt [15]) .skip)))))
def bd_law_3 : IS := (.seq (.set (.nm 3) (.bin .add (.cst (.int 1)) (.callc "_law_roll" false 1 (.cons (.cst (.int 12)) .nil))))
 (.seq (.fgt [2]) (.seq (.set (.nm 8) (.sli (.callc "_law_turned" false 1 (.cons (.rngL (.var 3)) .nil)) (.cst .none) (.callc "_law_roll" false 1 (.cons (.bin .add (.var 3) (.cst (.int 1))) .nil))))
 (.seq (.par [(12, false), (13, false)] (.cons (.call "first_for" false (.cons (.var 3) (.cons (.var 8) .nil))) (.cons (.cst (.int 1)) .nil)))
 (.seq (.for (.nm 14) (.irng (.b1 .len (.var 8))) bd_law_2)
 (.seq (.iff (.or (.cmp .ne (.call "places" false (.cons (.tup (.cons (.var 3) (.cons (.var 12) .nil))) .nil)) (.var 8)) (.or (.not (.call "_law_same" false (.cons (.call "count_for" false (.cons (.var 3) (.cons (.var 8) .nil))) (.cons (.var 13) .nil)))) (.cmp .ne lc_law_1 (.lst .nil))))
 (.seq (.ret false (.cst (.bool false)))
 .skip)
 .skip)
 (.seq (.fgt [12]) (.seq (.set (.tp (.cons (.nm 19) (.cons (.nm 20) .nil))) (.call "count_finding" false (.cons (.var 3) (.cons (.b1 .len (.var 8)) .nil))))
 (.seq (.iff (.or (.cmp .gt (.var 20) (.var 19)) (.or (.cmp .gt (.var 13) (.var 20)) (.and (.cmp .gt (.b1 .len (.var 8)) (.cst (.int 0))) (.cmp .ne (.var 20) (.bin .mul (.bin .sub (.bin .add (.var 3) (.cst (.int 1))) (.b1 .len (.var 8))) (.call "_law_power" false (.cons (.bin .add (.var 3) (.cst (.int 1))) (.cons (.bin .sub (.b1 .len (.var 8)) (.cst (.int 1))) .nil))))))))
 (.seq (.ret false (.cst (.bool false)))
 .skip)
 .skip)
 (.seq (.fgt [3, 8, 13, 19, 20]) .skip))))))))))
def lc_law_2 : IR := (.lc [("row", 7), ("size", 11)] (.tp (.cons (.nm 7) (.cons (.nm 11) .nil))) (.izip (.var 6) (.var 10)) (.cmp .eq (.var 11) (.b1 .max (.var 10))) (.var 7))
def lc_law_3 : IR := (.lc [("row", 7)] (.nm 7) (.iseq (.var 6)) (.cst (.bool true)) (.bin .sub (.b1 .sum (.call "_law_places" false (.cons (.var 3) (.cons (.var 7) .nil)))) (.b1 .sum (.var 7))))
def lc_law_4 : IR := (.lc [("row", 7)] (.nm 7) (.iseq (.var 6)) (.cmp .eq (.toT (.call "_law_places" false (.cons (.var 3) (.cons (.var 7) .nil)))) (.var 8)) (.var 7))
def lc_law_5 : IR := (.lc [("row", 7)] (.nm 7) (.iseq (.var 5)) (.cmp .notin (.cst .none) (.call "_law_places" false (.cons (.var 3) (.cons (.var 7) .nil)))) (.var 7))
def bd_law_4 : IS := (.seq (.par [(3, false), (4, false)] (.cons (.bin .add (.cst (.int 1)) (.callc "_law_roll" false 1 (.cons (.cst (.int 4)) .nil))) (.cons (.callc "_law_roll" false 1 (.cons (.cst (.int 5)) .nil)) .nil)))
 (.seq (.fgt [2]) (.seq (.set (.nm 5) (.call "_law_rows" false (.cons (.var 3) (.cons (.var 4) .nil))))
 (.seq (.set (.nm 6) lc_law_5)
 (.seq (.iff (.not (.call "_law_same" false (.cons (.tup (.cons (.call "count_finding" false (.cons (.var 3) (.cons (.var 4) .nil))) (.cons (.call "all_finding" false (.cons (.var 3) (.cons (.var 4) .nil))) .nil))) (.cons (.tup (.cons (.tup (.cons (.b1 .len (.var 5)) (.cons (.b1 .len (.var 6)) .nil))) (.cons (.toT (.var 6)) .nil))) .nil))))
 (.seq (.ret false (.cst (.bool false)))
 .skip)
 .skip)
 (.seq (.fgt [5]) (.seq (.iff (.cmp .ne (.var 6) (.lst .nil))
 (.seq (.set (.nm 8) (.toT (.call "_law_places" false (.cons (.var 3) (.cons (.callc "_law_some" false 1 (.cons (.var 6) .nil)) .nil)))))
 (.seq (.set (.nm 9) lc_law_4)
 (.seq (.iff (.not (.call "_law_same" false (.cons (.tup (.cons (.call "count_for" false (.cons (.var 3) (.cons (.var 8) .nil))) (.cons (.call "first_for" false (.cons (.var 3) (.cons (.var 8) .nil))) .nil))) (.cons (.tup (.cons (.b1 .len (.var 9)) (.cons (.idx (.var 9) (.cst (.int 0))) .nil))) .nil))))
 (.seq (.ret false (.cst (.bool false)))
 .skip)
 .skip)
 (.seq (.fgt [8, 9]) (.seq (.set (.nm 10) lc_law_3)
 (.seq (.iff (.not (.call "_law_same" false (.cons (.call "most_steps" false (.cons (.var 3) (.cons (.var 4) .nil))) (.cons (.tup (.cons (.b1 .max (.var 10)) (.cons (.idx lc_law_2 (.cst (.int 0))) .nil))) .nil))))
 (.seq (.ret false (.cst (.bool false)))
 .skip)
 .skip)
 (.seq (.fgt [10]) .skip)))))))
 .skip)
 (.seq (.fgt [3, 4, 6]) .skip))))))))
def is_law : IS := (.seq (.seto 1 (.call "_law_cup" true (.cons (.var 0) .nil)))
 (.seq (.fgt [0]) (.seq (.for (.nm 2) (.irng (.cst (.int 3))) bd_law_4)
 (.seq (.for (.nm 2) (.irng (.cst (.int 3))) bd_law_3)
 (.seq (.set (.nm 3) (.bin .add (.cst (.int 1)) (.callc "_law_roll" false 1 (.cons (.cst (.int 12)) .nil))))
 (.seq (.fgt [1]) (.seq (.set (.nm 21) (.tup (.cons (.idx (.call "count_finding" false (.cons (.var 3) (.cons (.var 3) .nil))) (.cst (.int 1))) (.cons (.call "count_finding" false (.cons (.var 3) (.cons (.cst (.int 1)) .nil))) (.cons (.call "count_finding" false (.cons (.var 3) (.cons (.cst (.int 0)) .nil))) (.cons (.call "most_steps" false (.cons (.var 3) (.cons (.var 3) .nil))) .nil))))))
 (.seq (.ret false (.call "_law_same" false (.cons (.var 21) (.cons (.tup (.cons (.call "_law_power" false (.cons (.bin .add (.var 3) (.cst (.int 1))) (.cons (.bin .sub (.var 3) (.cst (.int 1))) .nil))) (.cons (.tup (.cons (.var 3) (.cons (.var 3) .nil))) (.cons (.tup (.cons (.cst (.int 1)) (.cons (.cst (.int 1)) .nil))) (.cons (.tup (.cons (.bin .fdiv (.bin .mul (.var 3) (.bin .sub (.var 3) (.cst (.int 1)))) (.cst (.int 2))) (.cons (.bin .mul (.tup (.cons (.cst (.int 0)) .nil)) (.var 3)) .nil))) .nil))))) .nil))))
 .skip))))))))
theorem ck_law : chkB (ckOf N_law s_law fns_law exs_law false) is_law (defBody s_law) = true := by decide +kernel
theorem sc_law : FnScope N_law ps_law (defScope s_law) := ⟨rfl, rfl, rfl, by decide +kernel, rfl, by decide +kernel, by decide +kernel⟩
def Φ_law : Tab := [fd_law_cup, fd_law_places, fd_law_power, fd_law_roll, fd_law_rows, fd_law_same 6, fd_law_some, fd_law_turned, fd_all_finding, fd_count_finding, fd_count_for, fd_first_for, fd_most_steps, fd_places]
def fd_law : Fd := ⟨"law", ps_law, false, false, runF ⟨Φ_law, Γ⟩ is_law N_law.length false false⟩
/-! what the top has written -/
structure Facts (Θ : Th) : Prop where
  mo : ModOk Γ Θ
  d_is_whole : DefAt Θ "is_whole" s_is_whole ps_is_whole
  d_is_tuple_of : DefAt Θ "is_tuple_of" s_is_tuple_of ps_is_tuple_of
  d_fits_wishes : DefAt Θ "fits_wishes" s_fits_wishes ps_fits_wishes
  d_need_wishes : DefAt Θ "need_wishes" s_need_wishes ps_need_wishes
  d_placed : DefAt Θ "placed" s_placed ps_placed
  d_more_from : DefAt Θ "more_from" s_more_from ps_more_from
  d_power : DefAt Θ "power" s_power ps_power
  d_fits_places : DefAt Θ "fits_places" s_fits_places ps_fits_places
  d_places : DefAt Θ "places" s_places ps_places
  d_need_counts : DefAt Θ "need_counts" s_need_counts ps_need_counts
  d_count_finding : DefAt Θ "count_finding" s_count_finding ps_count_finding
  d_all_finding : DefAt Θ "all_finding" s_all_finding ps_all_finding
  d_runs_ahead : DefAt Θ "runs_ahead" s_runs_ahead ps_runs_ahead
  d_need_places : DefAt Θ "need_places" s_need_places ps_need_places
  d_count_for : DefAt Θ "count_for" s_count_for ps_count_for
  d_first_for : DefAt Θ "first_for" s_first_for ps_first_for
  d_most_steps : DefAt Θ "most_steps" s_most_steps ps_most_steps
  d_law_cup : DefAt Θ "_law_cup" s_law_cup ps_law_cup
  d_law_roll : DefAt Θ "_law_roll" s_law_roll ps_law_roll
  d_law_some : DefAt Θ "_law_some" s_law_some ps_law_some
  d_law_same : DefAt Θ "_law_same" s_law_same ps_law_same
  d_law_turned : DefAt Θ "_law_turned" s_law_turned ps_law_turned
  d_law_places : DefAt Θ "_law_places" s_law_places ps_law_places
  d_law_rows : DefAt Θ "_law_rows" s_law_rows ps_law_rows
  d_law_power : DefAt Θ "_law_power" s_law_power ps_law_power
  d_law : DefAt Θ "law" s_law ps_law
  e_InvalidNumber : ExcG Θ "InvalidNumber"
  e_InvalidSlots : ExcG Θ "InvalidSlots"
section
variable {Θ : Th} {base : Heap}
theorem ok_is_whole (T : Facts Θ) : OkAt Θ base 1 fd_is_whole := ok_def (fd := fd_is_whole) (Φ := Φ_is_whole) (fns := fns_is_whole) (exs := exs_is_whole) T.mo T.d_is_whole (List.forall_mem_nil _) rfl (List.forall_mem_nil _) sc_is_whole (by show ps_is_whole.length ≤ N_is_whole.length; decide) ck_is_whole fun _ _ => .inr rfl
theorem ok_is_tuple_of (T : Facts Θ) : OkAt Θ base 1 fd_is_tuple_of := ok_def (fd := fd_is_tuple_of) (Φ := Φ_is_tuple_of) (fns := fns_is_tuple_of) (exs := exs_is_tuple_of) T.mo T.d_is_tuple_of (List.forall_mem_nil _) rfl (List.forall_mem_nil _) sc_is_tuple_of (by show ps_is_tuple_of.length ≤ N_is_tuple_of.length; decide) ck_is_tuple_of fun _ _ => .inr rfl
theorem ok_fits_wishes (T : Facts Θ) : OkAt Θ base 2 fd_fits_wishes := ok_def (fd := fd_fits_wishes) (Φ := Φ_fits_wishes) (fns := fns_fits_wishes) (exs := exs_fits_wishes) T.mo T.d_fits_wishes (List.forall_mem_cons.mpr ⟨(ok_is_tuple_of T).mono (by omega), List.forall_mem_cons.mpr ⟨(ok_is_whole T).mono (by omega), List.forall_mem_nil _⟩⟩) rfl (List.forall_mem_nil _) sc_fits_wishes (by show ps_fits_wishes.length ≤ N_fits_wishes.length; decide) ck_fits_wishes fun _ _ => .inr rfl
theorem ok_need_wishes (T : Facts Θ) : OkAt Θ base 3 fd_need_wishes := ok_def (fd := fd_need_wishes) (Φ := Φ_need_wishes) (fns := fns_need_wishes) (exs := exs_need_wishes) T.mo T.d_need_wishes (List.forall_mem_cons.mpr ⟨(ok_fits_wishes T).mono (by omega), List.forall_mem_nil _⟩) rfl (List.forall_mem_cons.mpr ⟨T.e_InvalidSlots, List.forall_mem_nil _⟩) sc_need_wishes (by show ps_need_wishes.length ≤ N_need_wishes.length; decide) ck_need_wishes fun _ _ => .inr rfl
theorem ok_placed (T : Facts Θ) : OkAt Θ base 1 fd_placed := ok_def (fd := fd_placed) (Φ := Φ_placed) (fns := fns_placed) (exs := exs_placed) T.mo T.d_placed (List.forall_mem_nil _) rfl (List.forall_mem_nil _) sc_placed (by show ps_placed.length ≤ N_placed.length; decide) ck_placed fun _ _ => .inr rfl
theorem ok_more_from (T : Facts Θ) : OkAt Θ base 1 fd_more_from := ok_def (fd := fd_more_from) (Φ := Φ_more_from) (fns := fns_more_from) (exs := exs_more_from) T.mo T.d_more_from (List.forall_mem_nil _) rfl (List.forall_mem_nil _) sc_more_from (by show ps_more_from.length ≤ N_more_from.length; decide) ck_more_from fun _ _ => .inr rfl
theorem ok_power (T : Facts Θ) : OkAt Θ base 1 fd_power := ok_def (fd := fd_power) (Φ := Φ_power) (fns := fns_power) (exs := exs_power) T.mo T.d_power (List.forall_mem_nil _) rfl (List.forall_mem_nil _) sc_power (by show ps_power.length ≤ N_power.length; decide) ck_power fun _ _ => .inr rfl
theorem ok_fits_places (T : Facts Θ) : OkAt Θ base 2 fd_fits_places := ok_def (fd := fd_fits_places) (Φ := Φ_fits_places) (fns := fns_fits_places) (exs := exs_fits_places) T.mo T.d_fits_places (List.forall_mem_cons.mpr ⟨(ok_is_tuple_of T).mono (by omega), List.forall_mem_cons.mpr ⟨(ok_is_whole T).mono (by omega), List.forall_mem_nil _⟩⟩) rfl (List.forall_mem_nil _) sc_fits_places (by show ps_fits_places.length ≤ N_fits_places.length; decide) ck_fits_places fun _ _ => .inr rfl
theorem ok_places (T : Facts Θ) : OkAt Θ base 4 fd_places := ok_def (fd := fd_places) (Φ := Φ_places) (fns := fns_places) (exs := exs_places) T.mo T.d_places (List.forall_mem_cons.mpr ⟨(ok_need_wishes T).mono (by omega), List.forall_mem_cons.mpr ⟨(ok_placed T).mono (by omega), List.forall_mem_nil _⟩⟩) rfl (List.forall_mem_nil _) sc_places (by show ps_places.length ≤ N_places.length; decide) ck_places fun _ _ => .inr rfl
theorem ok_need_counts (T : Facts Θ) : OkAt Θ base 2 fd_need_counts := ok_def (fd := fd_need_counts) (Φ := Φ_need_counts) (fns := fns_need_counts) (exs := exs_need_counts) T.mo T.d_need_counts (List.forall_mem_cons.mpr ⟨(ok_is_whole T).mono (by omega), List.forall_mem_nil _⟩) rfl (List.forall_mem_cons.mpr ⟨T.e_InvalidNumber, List.forall_mem_nil _⟩) sc_need_counts (by show ps_need_counts.length ≤ N_need_counts.length; decide) ck_need_counts fun _ _ => .inr rfl
theorem ok_count_finding (T : Facts Θ) : OkAt Θ base 3 fd_count_finding := ok_def (fd := fd_count_finding) (Φ := Φ_count_finding) (fns := fns_count_finding) (exs := exs_count_finding) T.mo T.d_count_finding (List.forall_mem_cons.mpr ⟨(ok_need_counts T).mono (by omega), List.forall_mem_cons.mpr ⟨(ok_power T).mono (by omega), List.forall_mem_nil _⟩⟩) rfl (List.forall_mem_nil _) sc_count_finding (by show ps_count_finding.length ≤ N_count_finding.length; decide) ck_count_finding fun _ _ => .inr rfl
theorem ok_all_finding (T : Facts Θ) : OkAt Θ base 4 fd_all_finding := ok_def (fd := fd_all_finding) (Φ := Φ_all_finding) (fns := fns_all_finding) (exs := exs_all_finding) T.mo T.d_all_finding (List.forall_mem_cons.mpr ⟨(ok_count_finding T).mono (by omega), List.forall_mem_cons.mpr ⟨(ok_more_from T).mono (by omega), List.forall_mem_nil _⟩⟩) rfl (List.forall_mem_nil _) sc_all_finding (by show ps_all_finding.length ≤ N_all_finding.length; decide) ck_all_finding fun _ _ => .inr rfl
theorem ok_runs_ahead (T : Facts Θ) : OkAt Θ base 1 fd_runs_ahead := ok_def (fd := fd_runs_ahead) (Φ := Φ_runs_ahead) (fns := fns_runs_ahead) (exs := exs_runs_ahead) T.mo T.d_runs_ahead (List.forall_mem_nil _) rfl (List.forall_mem_nil _) sc_runs_ahead (by show ps_runs_ahead.length ≤ N_runs_ahead.length; decide) ck_runs_ahead fun _ _ => .inr rfl
theorem ok_need_places (T : Facts Θ) : OkAt Θ base 3 fd_need_places := ok_def (fd := fd_need_places) (Φ := Φ_need_places) (fns := fns_need_places) (exs := exs_need_places) T.mo T.d_need_places (List.forall_mem_cons.mpr ⟨(ok_fits_places T).mono (by omega), List.forall_mem_cons.mpr ⟨(ok_is_whole T).mono (by omega), List.forall_mem_nil _⟩⟩) rfl (List.forall_mem_cons.mpr ⟨T.e_InvalidNumber, List.forall_mem_cons.mpr ⟨T.e_InvalidSlots, List.forall_mem_nil _⟩⟩) sc_need_places (by show ps_need_places.length ≤ N_need_places.length; decide) ck_need_places fun _ _ => .inr rfl
theorem ok_count_for (T : Facts Θ) : OkAt Θ base 4 fd_count_for := ok_def (fd := fd_count_for) (Φ := Φ_count_for) (fns := fns_count_for) (exs := exs_count_for) T.mo T.d_count_for (List.forall_mem_cons.mpr ⟨(ok_need_places T).mono (by omega), List.forall_mem_cons.mpr ⟨(ok_runs_ahead T).mono (by omega), List.forall_mem_nil _⟩⟩) rfl (List.forall_mem_nil _) sc_count_for (by show ps_count_for.length ≤ N_count_for.length; decide) ck_count_for fun _ _ => .inr rfl
theorem ok_first_for (T : Facts Θ) : OkAt Θ base 4 fd_first_for := ok_def (fd := fd_first_for) (Φ := Φ_first_for) (fns := fns_first_for) (exs := exs_first_for) T.mo T.d_first_for (List.forall_mem_cons.mpr ⟨(ok_need_places T).mono (by omega), List.forall_mem_cons.mpr ⟨(ok_runs_ahead T).mono (by omega), List.forall_mem_nil _⟩⟩) rfl (List.forall_mem_nil _) sc_first_for (by show ps_first_for.length ≤ N_first_for.length; decide) ck_first_for fun _ _ => .inr rfl
theorem ok_most_steps (T : Facts Θ) : OkAt Θ base 3 fd_most_steps := ok_def (fd := fd_most_steps) (Φ := Φ_most_steps) (fns := fns_most_steps) (exs := exs_most_steps) T.mo T.d_most_steps (List.forall_mem_cons.mpr ⟨(ok_need_counts T).mono (by omega), List.forall_mem_nil _⟩) rfl (List.forall_mem_cons.mpr ⟨T.e_InvalidNumber, List.forall_mem_nil _⟩) sc_most_steps (by show ps_most_steps.length ≤ N_most_steps.length; decide) ck_most_steps fun _ _ => .inr rfl
theorem ok_law_cup (T : Facts Θ) : OkAt Θ base 1 fd_law_cup := ok_def (fd := fd_law_cup) (Φ := Φ_law_cup) (fns := fns_law_cup) (exs := exs_law_cup) T.mo T.d_law_cup (List.forall_mem_nil _) rfl (List.forall_mem_nil _) sc_law_cup (by show ps_law_cup.length ≤ N_law_cup.length; decide) ck_law_cup fun _ _ => .inr rfl
theorem ok_law_roll (T : Facts Θ) : OkAt Θ base 1 fd_law_roll := ok_def (fd := fd_law_roll) (Φ := Φ_law_roll) (fns := fns_law_roll) (exs := exs_law_roll) T.mo T.d_law_roll (List.forall_mem_nil _) rfl (List.forall_mem_nil _) sc_law_roll (by show ps_law_roll.length ≤ N_law_roll.length; decide) ck_law_roll fun _ _ => .inr rfl
theorem ok_law_some (T : Facts Θ) : OkAt Θ base 2 fd_law_some := ok_def (fd := fd_law_some) (Φ := Φ_law_some) (fns := fns_law_some) (exs := exs_law_some) T.mo T.d_law_some (List.forall_mem_cons.mpr ⟨(ok_law_roll T).mono (by omega), List.forall_mem_nil _⟩) rfl (List.forall_mem_nil _) sc_law_some (by show ps_law_some.length ≤ N_law_some.length; decide) ck_law_some fun _ _ => .inr rfl
theorem ok_law_same (T : Facts Θ) : ∀ k, OkAt Θ base (1 + k) (fd_law_same k)
  | 0 => ok_none (fd := fd_law_same 0) (st := s_law_same) T.d_law_same fun _ _ => rfl
  | k + 1 => by
    have ih := ok_law_same T k
    exact ok_def (fd := fd_law_same (k + 1)) (Φ := [fd_law_same k]) (fns := fns_law_same) (exs := exs_law_same) T.mo T.d_law_same (List.forall_mem_cons.mpr ⟨ih, List.forall_mem_nil _⟩) (by cases k <;> rfl) (List.forall_mem_nil _) sc_law_same (by show ps_law_same.length ≤ N_law_same.length; decide) ck_law_same fun _ _ => .inr rfl
theorem ok_law_turned (T : Facts Θ) : OkAt Θ base 2 fd_law_turned := ok_def (fd := fd_law_turned) (Φ := Φ_law_turned) (fns := fns_law_turned) (exs := exs_law_turned) T.mo T.d_law_turned (List.forall_mem_cons.mpr ⟨(ok_law_roll T).mono (by omega), List.forall_mem_nil _⟩) rfl (List.forall_mem_nil _) sc_law_turned (by show ps_law_turned.length ≤ N_law_turned.length; decide) ck_law_turned fun _ _ => .inr rfl
theorem ok_law_places (T : Facts Θ) : OkAt Θ base 1 fd_law_places := ok_def (fd := fd_law_places) (Φ := Φ_law_places) (fns := fns_law_places) (exs := exs_law_places) T.mo T.d_law_places (List.forall_mem_nil _) rfl (List.forall_mem_nil _) sc_law_places (by show ps_law_places.length ≤ N_law_places.length; decide) ck_law_places fun _ _ => .inr rfl
theorem ok_law_rows (T : Facts Θ) : OkAt Θ base 1 fd_law_rows := ok_def (fd := fd_law_rows) (Φ := Φ_law_rows) (fns := fns_law_rows) (exs := exs_law_rows) T.mo T.d_law_rows (List.forall_mem_nil _) rfl (List.forall_mem_nil _) sc_law_rows (by show ps_law_rows.length ≤ N_law_rows.length; decide) ck_law_rows fun _ _ => .inr rfl
theorem ok_law_power (T : Facts Θ) : OkAt Θ base 1 fd_law_power := ok_def (fd := fd_law_power) (Φ := Φ_law_power) (fns := fns_law_power) (exs := exs_law_power) T.mo T.d_law_power (List.forall_mem_nil _) rfl (List.forall_mem_nil _) sc_law_power (by show ps_law_power.length ≤ N_law_power.length; decide) ck_law_power fun _ _ => .inr rfl
theorem fn_law (T : Facts Θ) {f : Addr} {fdata : FuncData} (F : Fun Θ.K "law" "law" s_law f fdata) : FnOk Θ.P Θ.w Θ.K Θ.M base (L2.CX Θ.P Θ.w) 8 f fdata ps_law (spF Θ fd_law) := ok_fn (fd := fd_law) (Φ := Φ_law) (fns := fns_law) (exs := exs_law) T.mo F (List.forall_mem_cons.mpr ⟨(ok_law_cup T).mono (by omega), List.forall_mem_cons.mpr ⟨(ok_law_places T).mono (by omega), List.forall_mem_cons.mpr ⟨(ok_law_power T).mono (by omega), List.forall_mem_cons.mpr ⟨(ok_law_roll T).mono (by omega), List.forall_mem_cons.mpr ⟨(ok_law_rows T).mono (by omega), List.forall_mem_cons.mpr ⟨(ok_law_same T 6).mono (by omega), List.forall_mem_cons.mpr ⟨(ok_law_some T).mono (by omega), List.forall_mem_cons.mpr ⟨(ok_law_turned T).mono (by omega), List.forall_mem_cons.mpr ⟨(ok_all_finding T).mono (by omega), List.forall_mem_cons.mpr ⟨(ok_count_finding T).mono (by omega), List.forall_mem_cons.mpr ⟨(ok_count_for T).mono (by omega), List.forall_mem_cons.mpr ⟨(ok_first_for T).mono (by omega), List.forall_mem_cons.mpr ⟨(ok_most_steps T).mono (by omega), List.forall_mem_cons.mpr ⟨(ok_places T).mono (by omega), List.forall_mem_nil _⟩⟩⟩⟩⟩⟩⟩⟩⟩⟩⟩⟩⟩⟩) rfl (List.forall_mem_nil _) sc_law (by show ps_law.length ≤ N_law.length; decide) ck_law fun _ _ => .inr rfl
end
end Lw

set_option Elab.async false
set_option linter.all false
set_option maxRecDepth 100000
set_option maxHeartbeats 400000
namespace Lw
open PySem Fw
def t_law_same_1 (rec : D → D → Out Bool) (p1 : D) (p2 : D) : Out Bool := ((optO (isTy .tuple p2)) >>= fun x34 => if x34 = true then ((((optO (isTy .tuple p1)) >>= fun x3 => Out.ok (!x3)) >>= fun x6 => (if x6 = true then Out.ok true else ((lenX p1) >>= fun x4 => ((lenX p2) >>= fun x5 => Out.ok (!eqT x4 x5))))) >>= fun x16 => if x16 = true then (Out.ok false) else ((((lenX p2) >>= rng0) >>= fun x14 => (lcQ (fun (i8 : Int) => (((optO (appIdx p1 ((fun x => (eI x : D)) i8))) >>= fun x12 => (((optO (appIdx p2 ((fun x => (eI x : D)) i8))) >>= fun x10 => Out.ok (x10, ())) >>= fun y11 => Out.ok (x12, y11))) >>= fun x13 => rec x13.1 x13.2.1)) x14 >>= fun r => fits r)) >>= fun x15 => Out.ok (List.all x15 id))) else ((cmpX .is p2 ((fun x => (eN x : D)) ())) >>= fun x33 => if x33 = true then (cmpX .is p1 ((fun x => (eN x : D)) ())) else ((optO (isTy .bool p2)) >>= fun x32 => if x32 = true then (((Out.ok p2) >>= toB) >>= fun x18 => (if x18 = true then (cmpX .is p1 ((fun x => (eB x : D)) true)) else (cmpX .is p1 ((fun x => (eB x : D)) false)))) else ((optO (isTy .int p2)) >>= fun x31 => if x31 = true then ((optO (isTy .int p1)) >>= fun x27 => (if x27 = true then (((optO (isTy .bool p1)) >>= fun x22 => Out.ok (!x22)) >>= fun x26 => (if x26 = true then (((((Out.ok p1) >>= toI) >>= fun x23 => Out.ok x23) >>= fun x24 => Out.ok ((fun x => (eI x : D)) x24)) >>= fun x25 => (cmpX .eq x25 p2)) else Out.ok false)) else Out.ok false)) else ((optO (isTy .str p1)) >>= fun x30 => (if x30 = true then (Out.bad >>= fun x29 => (cmpX .eq x29 p2)) else Out.ok false))))))
theorem r_law_same_1 (k : Nat) (rec : D → D → Out Bool) (hr : RF (fd_law_same k) (ac eX (ac eX a0)) eB (fun x => rec x.1 x.2.1)) : RF (fd_law_same (k + 1)) (ac eX (ac eX a0)) eB (fun x => t_law_same_1 rec x.1 x.2.1) := by
  have h : SR ⟨[fd_law_same k], Γ⟩ (fun (s : (D × D × Unit)) => ([some (.v (eX s.1)), some (.v (eX s.2.1)), none] : FS)) (fun (r : Bool) fr d _ => fr = false ∧ d = eB r) false is_law_same _ :=
 (sr_ifPk (xp_isi (XT.p (xt_var (ea := eX) (g := fun s => s.2.1) (fun _ => rfl))))
 (sr_ifPk (xp_or (xp_not (xp_isi (XT.p (xt_var (ea := eX) (g := fun s => s.1) (fun _ => rfl))))) (xp_cmp (ea := eI) (eb := eI) (fun x y => le_some ((o_ne q_int) x y)) (xp_b1 (k := .len) (h := lenX) p_lenX (XT.p (xt_var (ea := eX) (g := fun s => s.1) (fun _ => rfl)))) (xp_b1 (k := .len) (h := lenX) p_lenX (XT.p (xt_var (ea := eX) (g := fun s => s.2.1) (fun _ => rfl))))))
 (sr_retT (g := (fun x _ => x)) (xt_cst (ea := eB) (x := false) rfl) (fun _ _ => ⟨rfl, rfl⟩))
 (sn_endT (w1 := (fun (s : (D × D × Unit)) => ([some (.v (eX s.1)), some (.v (eX s.2.1)), none] : FS))) (h := fun s => (s.1, s.2.1, ())) (fun _ => rfl))
 (sr_retV (xp_b1 (eb := eB) (ea := (eL eB)) (fun x => le_some (o_all x)) (xp_lc1 (ea := eI) (eb := eB) (xp_irng (xp_b1 (k := .len) (h := lenX) p_lenX (XT.p (xt_var (ea := eX) (g := fun s => s.2.1) (fun _ => rfl))))) (fun _ => rfl) (fun _ _ => rfl) (fun _ _ => rfl) (fun _ => rfl) (fun _ _ => rfl) (wt := (fun (s : ((D × D × Unit) × Int)) => ([some (.v (eX s.1.1)), some (.v (eX s.1.2.1)), some (.v (eI s.2))] : FS))) (xp_call (fd := fd_law_same k) (by cases k <;> rfl) (by cases k <;> rfl) (fun _ => by cases k <;> rfl) hr (ap_cons (xp_idxTT (ea := eX) (eb := eX) p_idxX (xt_var (ea := eX) (g := fun s => s.1.1) (fun _ => rfl)) (XT.up (ea := eI) (eb := eX) (xt_var (ea := eI) (g := fun s => s.2) (fun _ => rfl)) (fun x => (eI x : D)) (fun _ => rfl))) (ap_consP (xp_idxTT (ea := eX) (eb := eX) p_idxX (xt_var (ea := eX) (g := fun s => s.1.2.1) (fun _ => rfl)) (XT.up (ea := eI) (eb := eX) (xt_var (ea := eI) (g := fun s => s.2) (fun _ => rfl)) (fun x => (eI x : D)) (fun _ => rfl))) at_nil))))) (fun _ _ => ⟨rfl, rfl⟩)))
 (sn_endT (w1 := (fun (s : (D × D × Unit)) => ([some (.v (eX s.1)), some (.v (eX s.2.1)), none] : FS))) (h := fun s => (s.1, s.2.1, ())) (fun _ => rfl))
 (sr_ifPk (xp_cmpTT (ea := eX) (eb := eX) (p_cmpX .is) (xt_var (ea := eX) (g := fun s => s.2.1) (fun _ => rfl)) (XT.up (ea := eN) (eb := eX) (xt_cst (ea := eN) (x := ()) rfl) (fun x => (eN x : D)) (fun _ => rfl)))
 (sr_retV (xp_cmpTT (ea := eX) (eb := eX) (p_cmpX .is) (xt_var (ea := eX) (g := fun s => s.1) (fun _ => rfl)) (XT.up (ea := eN) (eb := eX) (xt_cst (ea := eN) (x := ()) rfl) (fun x => (eN x : D)) (fun _ => rfl))) (fun _ _ => ⟨rfl, rfl⟩))
 (sn_endT (w1 := (fun (s : (D × D × Unit)) => ([some (.v (eX s.1)), some (.v (eX s.2.1)), none] : FS))) (h := fun s => (s.1, s.2.1, ())) (fun _ => rfl))
 (sr_ifPk (xp_isi (XT.p (xt_var (ea := eX) (g := fun s => s.2.1) (fun _ => rfl))))
 (sr_retV (xp_ite (xp_toB (XT.p (xt_var (ea := eX) (g := fun s => s.2.1) (fun _ => rfl)))) (xp_cmpTT (ea := eX) (eb := eX) (p_cmpX .is) (xt_var (ea := eX) (g := fun s => s.1) (fun _ => rfl)) (XT.up (ea := eB) (eb := eX) (xt_cst (ea := eB) (x := true) rfl) (fun x => (eB x : D)) (fun _ => rfl))) (xp_cmpTT (ea := eX) (eb := eX) (p_cmpX .is) (xt_var (ea := eX) (g := fun s => s.1) (fun _ => rfl)) (XT.up (ea := eB) (eb := eX) (xt_cst (ea := eB) (x := false) rfl) (fun x => (eB x : D)) (fun _ => rfl)))) (fun _ _ => ⟨rfl, rfl⟩))
 (sn_endT (w1 := (fun (s : (D × D × Unit)) => ([some (.v (eX s.1)), some (.v (eX s.2.1)), none] : FS))) (h := fun s => (s.1, s.2.1, ())) (fun _ => rfl))
 (sr_ifPk (xp_isi (XT.p (xt_var (ea := eX) (g := fun s => s.2.1) (fun _ => rfl))))
 (sr_retV (xp_and (xp_isi (XT.p (xt_var (ea := eX) (g := fun s => s.1) (fun _ => rfl)))) (xp_and (xp_not (xp_isi (XT.p (xt_var (ea := eX) (g := fun s => s.1) (fun _ => rfl))))) (xp_cmpPT (ea := eX) (eb := eX) (p_cmpX .eq) (XQ.up (ea := eI) (eb := eX) (xp_b1 (eb := eI) (ea := eI) (fun x => le_some (o_int x)) (xp_toI (XT.p (xt_var (ea := eX) (g := fun s => s.1) (fun _ => rfl))))) (fun x => (eI x : D)) (fun _ => rfl)) (xt_var (ea := eX) (g := fun s => s.2.1) (fun _ => rfl))))) (fun _ _ => ⟨rfl, rfl⟩))
 (sn_endT (w1 := (fun (s : (D × D × Unit)) => ([some (.v (eX s.1)), some (.v (eX s.2.1)), none] : FS))) (h := fun s => (s.1, s.2.1, ())) (fun _ => rfl))
 (sr_retV (xp_and (xp_isi (XT.p (xt_var (ea := eX) (g := fun s => s.1) (fun _ => rfl)))) (xp_cmpPT (ea := eX) (eb := eX) (p_cmpX .eq) xp_nev (xt_var (ea := eX) (g := fun s => s.2.1) (fun _ => rfl)))) (fun _ _ => ⟨rfl, rfl⟩))))))
  exact rf_srE rfl rfl (fun _ _ => rfl) h rfl
def plOk : Nat → D → Bool
  | 0, _ => false
  | _ + 1, .int _ => true
  | _ + 1, .bool _ => true
  | _ + 1, .none => true
  | k + 1, .tuple l => decide (l.length ≤ 100000) && l.all (plOk k)
  | _ + 1, _ => false
@[irreducible] def sameG (a b : D) : Out Bool := if (sameD a b && plOk 6 a) = true then .ok true else .bad
def sameN : Nat → D → D → Out Bool
  | 0 => fun _ _ => .bad
  | k + 1 => t_law_same_1 (sameN k)
theorem sameN_ok : ∀ k, RF (fd_law_same k) (ac eX (ac eX a0)) eB (fun x => sameN k x.1 x.2.1)
  | 0 => ⟨rfl, fun _ _ => trivial⟩
  | k + 1 => r_law_same_1 k (sameN k) (sameN_ok k)
theorem sameN_diag : ∀ (k : Nat) (d : D), plOk k d = true → sameN k d d = .ok true
  | 0, d, h => by cases d <;> cases h
  | k + 1, d, h => by
    show t_law_same_1 (sameN k) d d = _
    cases d with
    | int i =>
      have e : shp (.int i) = true := rfl
      have e2 : eqD (.int i) (.int i) = true := by simp [eqD, PyData.eqv]
      simp [t_law_same_1, isTy, cmpX, boolG, appCmp, isO, boolO, isD, isNone, toI, eqO, e, e2, eX, eN]
    | bool b => cases b <;> simp [t_law_same_1, isTy, cmpX, boolG, appCmp, isO, boolO, isD, isNone, toB, eX, eB, eN]
    | none => simp [t_law_same_1, isTy, cmpX, boolG, appCmp, isO, boolO, isD, isNone, eX, eN]
    | tuple l =>
      have h : (decide (l.length ≤ 100000) && l.all (plOk k)) = true := h
      rw [Bool.and_eq_true, decide_eq_true_eq] at h
      obtain ⟨hl, hp⟩ := h
      obtain ⟨L, hL⟩ : ∃ L : Int, L = (l.length : Int) := ⟨_, rfl⟩
      have hr : rng0 L = .ok (rng 0 L) := by
        unfold rng0
        rw [if_pos]
        unfold rngOk
        rw [decide_eq_true_eq]
        constructor <;> omega
      have hq : ∀ m : List Int, (∀ i ∈ m, 0 ≤ i ∧ i < L) → lcQ (fun (i8 : Int) => (((optO (appIdx (.tuple l) (.int i8))) >>= fun x12 => (((optO (appIdx (.tuple l) (.int i8))) >>= fun x10 => Out.ok (x10, ())) >>= fun y11 => Out.ok (x12, y11))) >>= fun x13 => sameN k x13.1 x13.2.1)) m = .ok (m.map fun _ => true) := by
        intro m
        induction m with
        | nil => intro _; rfl
        | cons i m ih =>
          intro hm
          obtain ⟨h1, h2⟩ := hm i List.mem_cons_self
          obtain ⟨n, rfl⟩ := Int.eq_ofNat_of_zero_le h1
          have hn : n < l.length := by omega
          have hd := sameN_diag k l[n] (List.all_eq_true.mp hp _ (List.getElem_mem hn))
          have hi : appIdx (.tuple l) (.int (n : Int)) = some l[n] := by
            show L2.atI l (n : Int) = _
            simp [L2.atI, L2.ixN, hn]
          unfold lcQ
          rw [ih fun j hj => hm j (List.mem_cons_of_mem _ hj)]
          simp [hi, hd, noErr]
      have hm : ∀ i ∈ rng 0 L, 0 ≤ i ∧ i < L := by
        intro i hi
        unfold rng at hi
        obtain ⟨j, hj, rfl⟩ := List.mem_map.mp hi
        have := List.mem_range.mp hj
        omega
      have hf : fits ((rng 0 L).map fun _ => true) = .ok ((rng 0 L).map fun _ => true) := by
        unfold fits
        rw [if_pos]
        unfold fitsL
        rw [decide_eq_true_eq]
        unfold rng
        simp [sizeLine]
        omega
      have hlen : lenX (.tuple l) = .ok L := by rw [hL]; rfl
      have hall : ∀ m : List Int, List.all (m.map fun _ => true) id = true := by intro m; induction m <;> simp_all
      have hty : isTy .tuple (.tuple l) = some true := rfl
      have hq := hq _ hm
      unfold t_law_same_1
      rw [hty]
      simp only [optO_some, bind_ok, if_true, Bool.not_true, hlen, eqT, decide_true, if_false, Bool.false_eq_true, hr, hq, hf, hall]
    | _ => cases h
theorem RF.weak {α β : Type} {fd : Fd} {es : α → List D} {er : β → D} {f g : α → Out β} (h : RF fd es er f) (hg : ∀ x, g x = f x ∨ g x = .bad) : RF fd es er g := ⟨h.lent, fun c x => by
  rcases hg x with e | e
  · rw [e]; exact h.run c x
  · rw [e]; trivial⟩
theorem r_same : RF (fd_law_same 6) (ac eX (ac eX a0)) eB (fun p => sameG p.1 p.2.1) := RF.weak (sameN_ok 6) fun x => by
  unfold sameG
  by_cases h : (sameD x.1 x.2.1 && plOk 6 x.1) = true
  · rw [if_pos h]
    rw [Bool.and_eq_true] at h
    left
    have e := sameD_eq _ _ h.1
    rw [← e]
    exact (sameN_diag 6 _ h.2).symm
  · rw [if_neg h]
    exact .inr rfl
mutual
theorem sameD_refl : ∀ (k : Nat) (d : D), plOk k d = true → sameD d d = true
  | 0, d, h => by cases d <;> cases h
  | k + 1, .none, _ => rfl
  | k + 1, .bool b, _ => by cases b <;> rfl
  | k + 1, .int i, _ => by show decide (i = i) = true; simp
  | k + 1, .tuple l, h => by
    have h : (decide (l.length ≤ 100000) && l.all (plOk k)) = true := h
    rw [Bool.and_eq_true] at h
    exact sameDs_refl k l h.2
  | k + 1, .str _, h => by cases h
  | k + 1, .list _, h => by cases h
  | k + 1, .dict _, h => by cases h
theorem sameDs_refl : ∀ (k : Nat) (l : List D), l.all (plOk k) = true → sameDs l l = true
  | _, [], _ => rfl
  | k, d :: l, h => by
    rw [List.all_cons, Bool.and_eq_true] at h
    show (sameD d d && sameDs l l) = true
    rw [sameD_refl k d h.1, sameDs_refl k l h.2]; rfl
end
theorem sameG_ok {d : D} (h : plOk 6 d = true) : sameG d d = .ok true := by
  unfold sameG
  rw [if_pos]
  rw [sameD_refl 6 d h, h]; rfl
theorem pl_U {α : Type} {e : α → D} {k : Nat} {l : List α} (h : l.length ≤ 100000) (hk : ∀ x ∈ l, plOk k (e x) = true) : plOk (k + 1) (eU e l) = true := by
  show (decide ((l.map e).length ≤ 100000) && (l.map e).all (plOk k)) = true
  rw [List.length_map, decide_eq_true h, Bool.true_and, List.all_eq_true]
  intro x hx
  obtain ⟨y, hy, rfl⟩ := List.mem_map.mp hx
  exact hk y hy

def t_law_cup_1 (p1 : D) : Out (List Int) := ((((((toLX p1) >>= fun x35 => (fits (x35 ++ [((fun x => (eI x : D)) (0 : Int))]))) >>= fun x36 => (atG x36 (0 : Int))) >>= toI) >>= fun x37 => Out.ok (if x37 < 0 then -x37 else x37)) >>= fun cell_38 =>
 (Out.ok [(if (decide ((1000000000000000000 : Int) ≤ cell_38)) = true then (cell_38 / 79) else (0 : Int)), ((((cell_38 * 313) + (4021 : Int)) % 2077495741) + (163 : Int))]))
theorem r_law_cup_1 : RF fd_law_cup (ac eX a0) (eL eI) (fun x => t_law_cup_1 x.1) := by
  have h : SR ⟨Φ_law_cup, Γ⟩ (fun (s : (D × Unit)) => ([some (.v (eX s.1)), none] : FS)) (fun (r : (List Int)) fr d _ => fr = true ∧ d = (eL eI) r) false is_law_cup _ :=
 (sr_seqP (sn_setP (ea := eI) (xp_b1 (eb := eI) (ea := eI) (fun x => le_some (o_abs x)) (xp_toI (xp_idxPT (ea := (eL eX)) (eb := eI) p_atL (xp_binPT (ea := (eL eX)) (eb := (eL eX)) p_catL (xp_toL (eb := eL eX) p_toLX (XT.p (xt_var (ea := eX) (g := fun s => s.1) (fun _ => rfl)))) (xt_lst (eb := (eL eX)) (k := (fun x => [x.1])) (at_cons (XT.up (ea := eI) (eb := eX) (xt_cst (ea := eI) (x := (0 : Int)) rfl) (fun x => (eI x : D)) (fun _ => rfl)) at_nil) (fun _ => rfl) (fun _ => rfl))) (xt_cst (ea := eI) (x := (0 : Int)) rfl)))) (w2 := (fun (s : (D × Int × Unit)) => ([some (.v (eX s.1)), some (.v (eI s.2.1))] : FS))) (h := fun s x => (s.1, x, ())) (fun _ _ => rfl))
 (sr_seqT (sn_fgt (w1 := (fun (s : (Int × Unit)) => ([none, some (.v (eI s.1))] : FS))) (h := fun s => (s.2.1, ())) (fun _ => rfl))
 (sr_retT (g := (fun x _ => x)) (xt_lst (eb := (eL eI)) (k := (fun x => [x.1, x.2.1])) (at_cons (xt_ite (xt_cmp (ea := eI) (eb := eI) o_ge (xt_var (ea := eI) (g := fun s => s.1) (fun _ => rfl)) (show XT _ _ _ eI (fun _ => (1000000000000000000 : Int)) from fun _ => rfl)) (xt_bink (ea := eI) (o_fdivc 79 (by decide)) (xt_var (ea := eI) (g := fun s => s.1) (fun _ => rfl))) (xt_cst (ea := eI) (x := (0 : Int)) rfl)) (at_cons (xt_bin (ea := eI) (eb := eI) o_add (xt_bink (ea := eI) (o_modc 2077495741 (by decide)) (xt_b1 (eb := eI) (ea := eI) o_int (xt_bin (ea := eI) (eb := eI) o_add (xt_bink (ea := eI) (o_mulc 313 (by decide)) (xt_var (ea := eI) (g := fun s => s.1) (fun _ => rfl))) (xt_cst (ea := eI) (x := (4021 : Int)) rfl)))) (xt_cst (ea := eI) (x := (163 : Int)) rfl)) at_nil)) (fun _ => rfl) (fun _ => rfl)) (fun _ _ => ⟨rfl, rfl⟩))))
  exact rf_srE rfl rfl (fun _ _ => rfl) h rfl
def t_law_roll_1 (p1 : (List Int)) (p2 : Int) : Out (Int × (List Int)) := (((atG p1 (0 : Int)) >>= fun x43 => Out.ok (decide ((0 : Int) < x43))) >>= fun x71 => if x71 = true then ((((atG p1 (0 : Int)) >>= fun x44 => Out.ok x44) >>= fun x45 => (modG x45 p2)) >>= fun found_46 =>
 ((((atG p1 (0 : Int)) >>= fun x48 => (fdivG x48 p2)) >>= fun x52 => (setG p1 (0 : Int) x52 >>= fun l51 => Out.ok (l51, ()))) >>= fun m53 =>
 (Out.ok (found_46, m53.1)))) else (((((((atG p1 (1 : Int)) >>= fun x55 => Out.ok (x55 * 30881)) >>= fun x56 => Out.ok (x56 + (7879 : Int))) >>= fun x57 => Out.ok x57) >>= fun x58 => Out.ok (x58 % 2147483399)) >>= fun x62 => (setG p1 (1 : Int) x62 >>= fun l61 => Out.ok (l61, ()))) >>= fun m63 =>
 (((((atG m63.1 (1 : Int)) >>= fun x65 => (((atG m63.1 (1 : Int)) >>= fun x64 => Out.ok (x64 + (233 : Int))) >>= fun x66 => (mulG x65 x66))) >>= fun x67 => Out.ok x67) >>= fun x68 => Out.ok (x68 % 2147483563)) >>= fun deep_69 =>
 ((modG (deep_69 / 821) p2) >>= fun x70 => Out.ok (x70, m63.1)))))
theorem r_law_roll_1 : RC fd_law_roll (eL eI) (ac eI a0) eI (fun c x => t_law_roll_1 c x.1) := by
  have h : SR ⟨Φ_law_roll, Γ⟩ (fun (s : ((List Int) × Int × Unit)) => ([some (.o ((eL eI) s.1)), some (.v (eI s.2.1)), none, none] : FS)) (fun (r : (Int × (List Int))) fr d ŝ => fr = false ∧ d = eI r.1 ∧ readO ŝ 0 = some ((eL eI) r.2)) false is_law_roll _ :=
 (sr_ifPk (xp_cmpPT (ea := eI) (eb := eI) (fun x y => le_some (o_gt x y)) (xp_idxTT (ea := (eL eI)) (eb := eI) p_atL (xt_bor (ea := (eL eI)) (g := fun s => s.1) (fun _ => rfl)) (xt_cst (ea := eI) (x := (0 : Int)) rfl)) (xt_cst (ea := eI) (x := (0 : Int)) rfl))
 (sr_seqP (sn_setP (ea := eI) (xp_binPT (ea := eI) (eb := eI) p_mod (xp_b1 (eb := eI) (ea := eI) (fun x => le_some (o_int x)) (xp_idxTT (ea := (eL eI)) (eb := eI) p_atL (xt_bor (ea := (eL eI)) (g := fun s => s.1) (fun _ => rfl)) (xt_cst (ea := eI) (x := (0 : Int)) rfl))) (xt_var (ea := eI) (g := fun s => s.2.1) (fun _ => rfl))) (w2 := (fun (s : ((List Int) × Int × Int × Unit)) => ([some (.o ((eL eI) s.1)), some (.v (eI s.2.1)), some (.v (eI s.2.2.1)), none] : FS))) (h := fun s x => (s.1, s.2.1, x, ())) (fun _ _ => rfl))
 (sr_seqP (sn_frame (κ := (fun s : ((List Int) × Int × Int × Unit) => (s.2.1, s.2.2.1, ()))) (μ := (fun s : ((List Int) × Int × Int × Unit) => (s.1, ()))) (wv := fun (c47 : (Int × Int × Unit)) => (fun (s : ((List Int) × Unit)) => ([some (.o ((eL eI) s.1)), some (.v (eI c47.1)), some (.v (eI c47.2.1)), none] : FS))) (wv1 := fun (c47 : (Int × Int × Unit)) => (fun (s : ((List Int) × Unit)) => ([some (.o ((eL eI) s.1)), some (.v (eI c47.1)), some (.v (eI c47.2.1)), none] : FS))) (w2 := (fun (s : ((List Int) × Int × Int × Unit)) => ([some (.o ((eL eI) s.1)), some (.v (eI s.2.1)), some (.v (eI s.2.2.1)), none] : FS))) (back := (fun (c47 : (Int × Int × Unit)) (m : ((List Int) × Unit)) => (m.1, c47.1, c47.2.1, ()))) (fun _ => rfl) (fun _ _ => rfl) (fun c47 => ⟨_,
 (sn_setixPT (ea := eI) (xp_binPT (ea := eI) (eb := eI) p_fdiv (xp_idxTT (ea := (eL eI)) (eb := eI) p_atL (xt_bor (ea := (eL eI)) (g := fun s => s.1) (fun _ => rfl)) (xt_cst (ea := eI) (x := (0 : Int)) rfl)) (xt_var (ea := eI) (g := fun s => c47.1) (fun _ => rfl))) (xt_cst (ea := eI) (x := (0 : Int)) rfl) (g := fun s => s.1) (w2 := (fun (s : ((List Int) × Unit)) => ([some (.o ((eL eI) s.1)), some (.v (eI c47.1)), some (.v (eI c47.2.1)), none] : FS))) (h := fun s z => (z, ())) (fun _ => rfl) (fun _ _ => rfl))⟩))
 (sr_retT (g := (fun x s => (x, s.1))) (xt_var (ea := eI) (g := fun s => s.2.2.1) (fun _ => rfl)) (fun _ _ => ⟨rfl, rfl, rfl⟩))))
 (sn_endT (w1 := (fun (s : ((List Int) × Int × Unit)) => ([some (.o ((eL eI) s.1)), some (.v (eI s.2.1)), none, none] : FS))) (h := fun s => (s.1, s.2.1, ())) (fun _ => rfl))
 (sr_seqP (sn_frame (κ := (fun s : ((List Int) × Int × Unit) => (s.2.1, ()))) (μ := (fun s : ((List Int) × Int × Unit) => (s.1, ()))) (wv := fun (c54 : (Int × Unit)) => (fun (s : ((List Int) × Unit)) => ([some (.o ((eL eI) s.1)), some (.v (eI c54.1)), none, none] : FS))) (wv1 := fun (c54 : (Int × Unit)) => (fun (s : ((List Int) × Unit)) => ([some (.o ((eL eI) s.1)), some (.v (eI c54.1)), none, none] : FS))) (w2 := (fun (s : ((List Int) × Int × Unit)) => ([some (.o ((eL eI) s.1)), some (.v (eI s.2.1)), none, none] : FS))) (back := (fun (c54 : (Int × Unit)) (m : ((List Int) × Unit)) => (m.1, c54.1, ()))) (fun _ => rfl) (fun _ _ => rfl) (fun c54 => ⟨_,
 (sn_setixPT (ea := eI) (xp_bink (ea := eI) (fun x => le_some ((o_modc 2147483399 (by decide)) x)) (xp_b1 (eb := eI) (ea := eI) (fun x => le_some (o_int x)) (xp_binPT (ea := eI) (eb := eI) (fun x y => le_some (o_add x y)) (xp_bink (ea := eI) (fun x => le_some ((o_mulc 30881 (by decide)) x)) (xp_idxTT (ea := (eL eI)) (eb := eI) p_atL (xt_bor (ea := (eL eI)) (g := fun s => s.1) (fun _ => rfl)) (xt_cst (ea := eI) (x := (1 : Int)) rfl))) (xt_cst (ea := eI) (x := (7879 : Int)) rfl)))) (xt_cst (ea := eI) (x := (1 : Int)) rfl) (g := fun s => s.1) (w2 := (fun (s : ((List Int) × Unit)) => ([some (.o ((eL eI) s.1)), some (.v (eI c54.1)), none, none] : FS))) (h := fun s z => (z, ())) (fun _ => rfl) (fun _ _ => rfl))⟩))
 (sr_seqP (sn_setP (ea := eI) (xp_bink (ea := eI) (fun x => le_some ((o_modc 2147483563 (by decide)) x)) (xp_b1 (eb := eI) (ea := eI) (fun x => le_some (o_int x)) (xp_bin (ea := eI) (eb := eI) p_mul (xp_idxTT (ea := (eL eI)) (eb := eI) p_atL (xt_bor (ea := (eL eI)) (g := fun s => s.1) (fun _ => rfl)) (xt_cst (ea := eI) (x := (1 : Int)) rfl)) (xp_binPT (ea := eI) (eb := eI) (fun x y => le_some (o_add x y)) (xp_idxTT (ea := (eL eI)) (eb := eI) p_atL (xt_bor (ea := (eL eI)) (g := fun s => s.1) (fun _ => rfl)) (xt_cst (ea := eI) (x := (1 : Int)) rfl)) (xt_cst (ea := eI) (x := (233 : Int)) rfl))))) (w2 := (fun (s : ((List Int) × Int × Int × Unit)) => ([some (.o ((eL eI) s.1)), some (.v (eI s.2.1)), none, some (.v (eI s.2.2.1))] : FS))) (h := fun s x => (s.1, s.2.1, x, ())) (fun _ _ => rfl))
 (sr_retP (g := (fun x s => (x, s.1))) (xp_binTT (ea := eI) (eb := eI) p_mod (xt_b1 (eb := eI) (ea := eI) o_int (xt_bink (ea := eI) (o_fdivc 821 (by decide)) (xt_var (ea := eI) (g := fun s => s.2.2.1) (fun _ => rfl)))) (xt_var (ea := eI) (g := fun s => s.2.1) (fun _ => rfl))) (fun _ _ => ⟨rfl, rfl, rfl⟩)))))
  exact rc_sr rfl rfl (fun _ _ => rfl) h (fun _ _ => rfl)
def t_law_rows_1 (p1 : Int) (p2 : Int) : Out (List (List Int)) := let found_91 : (List (List Int)) := [([] : (List Int))];
 (((rng0 p2) >>= fun x108 => (forN (fun (i93 : Int) (t94 : ((List (List Int)) × Unit)) =>
 let longer_95 : (List (List Int)) := ([] : (List (List Int)));
 ((forN (fun (i97 : (List Int)) (t98 : ((List (List Int)) × Unit)) =>
 ((((rng0 p1) >>= fun x101 => (lcQ (fun (i100 : Int) => (fits (i97 ++ [i100]))) x101 >>= fun r => fits r)) >>= fun x102 => (fits (t98.1 ++ x102))) >>= fun longer_103 =>
 (Out.ok (longer_103, ())))) t94.1 (longer_95, ())) >>= fun m105 =>
 let found_106 : (List (List Int)) := m105.1;
 (Out.ok (found_106, ())))) x108 (found_91, ()))) >>= fun m109 =>
 (Out.ok m109.1))
theorem r_law_rows_1 : RF fd_law_rows (ac eI (ac eI a0)) (eL (eU eI)) (fun x => t_law_rows_1 x.1 x.2.1) := by
  have h : SR ⟨Φ_law_rows, Γ⟩ (fun (s : (Int × Int × Unit)) => ([some (.v (eI s.1)), some (.v (eI s.2.1)), none, none, none, none, none] : FS)) (fun (r : (List (List Int))) fr d _ => fr = false ∧ d = (eL (eU eI)) r) false is_law_rows _ :=
 (sr_seqT (sn_setT (ea := (eL (eU eI))) (xt_lst (eb := (eL (eU eI))) (k := (fun x => [x.1])) (at_cons (xt_tup at_nil (eb := (eU eI)) (k := fun _ => []) (fun _ => rfl) (fun _ => rfl)) at_nil) (fun _ => rfl) (fun _ => rfl)) (w2 := (fun (s : (Int × Int × (List (List Int)) × Unit)) => ([some (.v (eI s.1)), some (.v (eI s.2.1)), some (.v ((eL (eU eI)) s.2.2.1)), none, none, none, none] : FS))) (h := fun s x => (s.1, s.2.1, x, ())) (fun _ _ => rfl))
 (sr_seqP (sn_frame (κ := (fun s : (Int × Int × (List (List Int)) × Unit) => (s.1, s.2.1, ()))) (μ := (fun s : (Int × Int × (List (List Int)) × Unit) => (s.2.2.1, ()))) (wv := fun (c92 : (Int × Int × Unit)) => (fun (s : ((List (List Int)) × Unit)) => ([some (.v (eI c92.1)), some (.v (eI c92.2.1)), some (.v ((eL (eU eI)) s.1)), none, none, none, none] : FS))) (wv1 := fun (c92 : (Int × Int × Unit)) => (fun (s : ((List (List Int)) × Unit)) => ([some (.v (eI c92.1)), some (.v (eI c92.2.1)), some (.v ((eL (eU eI)) s.1)), none, none, none, none] : FS))) (w2 := (fun (s : (Int × Int × (List (List Int)) × Unit)) => ([some (.v (eI s.1)), some (.v (eI s.2.1)), some (.v ((eL (eU eI)) s.2.2.1)), none, none, none, none] : FS))) (back := (fun (c92 : (Int × Int × Unit)) (m : ((List (List Int)) × Unit)) => (c92.1, c92.2.1, m.1, ()))) (fun _ => rfl) (fun _ _ => rfl) (fun c92 => ⟨_,
 (sn_for (ea := eI) (xp_irngT (xt_var (ea := eI) (g := fun s => c92.2.1) (fun _ => rfl))) (wt := (fun (s : (((List (List Int)) × Unit) × Int)) => ([some (.v (eI c92.1)), some (.v (eI c92.2.1)), some (.v ((eL (eU eI)) s.1.1)), some (.v (eI s.2)), none, none, none] : FS))) (fun _ _ => rfl)
 (sn_seqT (sn_setT (ea := (eL (eU eI))) (xt_lst at_nil (eb := (eL (eU eI))) (k := fun _ => []) (fun _ => rfl) (fun _ => rfl)) (w2 := (fun (s : ((List (List Int)) × Int × (List (List Int)) × Unit)) => ([some (.v (eI c92.1)), some (.v (eI c92.2.1)), some (.v ((eL (eU eI)) s.1)), some (.v (eI s.2.1)), some (.v ((eL (eU eI)) s.2.2.1)), none, none] : FS))) (h := fun s x => (s.1.1, s.2, x, ())) (fun _ _ => rfl))
 (sn_seqT (sn_fgt (w1 := (fun (s : ((List (List Int)) × (List (List Int)) × Unit)) => ([some (.v (eI c92.1)), some (.v (eI c92.2.1)), some (.v ((eL (eU eI)) s.1)), none, some (.v ((eL (eU eI)) s.2.1)), none, none] : FS))) (h := fun s => (s.1, s.2.2.1, ())) (fun _ => rfl))
 (sn_seqP (sn_frame (κ := (fun s : ((List (List Int)) × (List (List Int)) × Unit) => (s.1, ()))) (μ := (fun s : ((List (List Int)) × (List (List Int)) × Unit) => (s.2.1, ()))) (wv := fun (c96 : ((List (List Int)) × Unit)) => (fun (s : ((List (List Int)) × Unit)) => ([some (.v (eI c92.1)), some (.v (eI c92.2.1)), some (.v ((eL (eU eI)) c96.1)), none, some (.v ((eL (eU eI)) s.1)), none, none] : FS))) (wv1 := fun (c96 : ((List (List Int)) × Unit)) => (fun (s : ((List (List Int)) × Unit)) => ([some (.v (eI c92.1)), some (.v (eI c92.2.1)), some (.v ((eL (eU eI)) c96.1)), none, some (.v ((eL (eU eI)) s.1)), none, none] : FS))) (w2 := (fun (s : ((List (List Int)) × (List (List Int)) × Unit)) => ([some (.v (eI c92.1)), some (.v (eI c92.2.1)), some (.v ((eL (eU eI)) s.1)), none, some (.v ((eL (eU eI)) s.2.1)), none, none] : FS))) (back := (fun (c96 : ((List (List Int)) × Unit)) (m : ((List (List Int)) × Unit)) => (c96.1, m.1, ()))) (fun _ => rfl) (fun _ _ => rfl) (fun c96 => ⟨_,
 (sn_forT (ea := (eU eI)) (xt_iseq (ea := (eL (eU eI))) (eb := (eU eI)) o_seqL (xt_var (ea := (eL (eU eI))) (g := fun s => c96.1) (fun _ => rfl))) (wt := (fun (s : (((List (List Int)) × Unit) × (List Int))) => ([some (.v (eI c92.1)), some (.v (eI c92.2.1)), some (.v ((eL (eU eI)) c96.1)), none, some (.v ((eL (eU eI)) s.1.1)), some (.v ((eU eI) s.2)), none] : FS))) (fun _ _ => rfl)
 (sn_seqP (sn_setP (ea := (eL (eU eI))) (xp_binTP (ea := (eL (eU eI))) (eb := (eL (eU eI))) p_catL (xt_var (ea := (eL (eU eI))) (g := fun s => s.1.1) (fun _ => rfl)) (xp_lc1 (ea := eI) (eb := (eU eI)) (xp_irngT (xt_var (ea := eI) (g := fun s => c92.1) (fun _ => rfl))) (fun _ => rfl) (fun _ _ => rfl) (fun _ _ => rfl) (fun _ => rfl) (fun _ _ => rfl) (wt := (fun (s : ((((List (List Int)) × Unit) × (List Int)) × Int)) => ([some (.v (eI c92.1)), some (.v (eI c92.2.1)), some (.v ((eL (eU eI)) c96.1)), none, some (.v ((eL (eU eI)) s.1.1.1)), some (.v ((eU eI) s.1.2)), some (.v (eI s.2))] : FS))) (xp_binTT (ea := (eU eI)) (eb := (eU eI)) p_catU (xt_var (ea := (eU eI)) (g := fun s => s.1.2) (fun _ => rfl)) (xt_tup (eb := (eU eI)) (k := (fun x => [x.1])) (at_cons (xt_var (ea := eI) (g := fun s => s.2) (fun _ => rfl)) at_nil) (fun _ => rfl) (fun _ => rfl))))) (w2 := (fun (s : ((List (List Int)) × (List Int) × Unit)) => ([some (.v (eI c92.1)), some (.v (eI c92.2.1)), some (.v ((eL (eU eI)) c96.1)), none, some (.v ((eL (eU eI)) s.1)), some (.v ((eU eI) s.2.1)), none] : FS))) (h := fun s x => (x, s.2, ())) (fun _ _ => rfl))
 (sn_seqT (sn_fgt (w1 := (fun (s : ((List (List Int)) × Unit)) => ([some (.v (eI c92.1)), some (.v (eI c92.2.1)), some (.v ((eL (eU eI)) c96.1)), none, some (.v ((eL (eU eI)) s.1)), none, none] : FS))) (h := fun s => (s.1, ())) (fun _ => rfl))
 (sn_endT (w1 := (fun (s : ((List (List Int)) × Unit)) => ([some (.v (eI c92.1)), some (.v (eI c92.2.1)), some (.v ((eL (eU eI)) c96.1)), none, some (.v ((eL (eU eI)) s.1)), none, none] : FS))) (h := fun s => (s.1, ())) (fun _ => rfl)))))⟩))
 (sn_seqT (sn_fgt (w1 := (fun (s : ((List (List Int)) × Unit)) => ([some (.v (eI c92.1)), some (.v (eI c92.2.1)), none, none, some (.v ((eL (eU eI)) s.1)), none, none] : FS))) (h := fun s => (s.2.1, ())) (fun _ => rfl))
 (sn_seqT (sn_setT (ea := (eL (eU eI))) (xt_var (ea := (eL (eU eI))) (g := fun s => s.1) (fun _ => rfl)) (w2 := (fun (s : ((List (List Int)) × (List (List Int)) × Unit)) => ([some (.v (eI c92.1)), some (.v (eI c92.2.1)), some (.v ((eL (eU eI)) s.1)), none, some (.v ((eL (eU eI)) s.2.1)), none, none] : FS))) (h := fun s x => (x, s.1, ())) (fun _ _ => rfl))
 (sn_seqT (sn_fgt (w1 := (fun (s : ((List (List Int)) × Unit)) => ([some (.v (eI c92.1)), some (.v (eI c92.2.1)), some (.v ((eL (eU eI)) s.1)), none, none, none, none] : FS))) (h := fun s => (s.1, ())) (fun _ => rfl))
 (sn_endT (w1 := (fun (s : ((List (List Int)) × Unit)) => ([some (.v (eI c92.1)), some (.v (eI c92.2.1)), some (.v ((eL (eU eI)) s.1)), none, none, none, none] : FS))) (h := fun s => (s.1, ())) (fun _ => rfl)))))))))⟩))
 (sr_seqT (sn_fgt (w1 := (fun (s : ((List (List Int)) × Unit)) => ([none, none, some (.v ((eL (eU eI)) s.1)), none, none, none, none] : FS))) (h := fun s => (s.2.2.1, ())) (fun _ => rfl))
 (sr_retT (g := (fun x _ => x)) (xt_var (ea := (eL (eU eI))) (g := fun s => s.1) (fun _ => rfl)) (fun _ _ => ⟨rfl, rfl⟩)))))
  exact rf_srE rfl rfl (fun _ _ => rfl) h rfl
def t_law_places_1 (p1 : Int) (p2 : (List Int)) : Out (List (Option Int)) := (((repG [((fun _ => (none : (Option Int))) ())] p1) >>= fun x114 => Out.ok (x114, (([] : (List (Option Int))), ()))) >>= fun u115 =>
 (((rng0 ((List.length p2 : Nat) : Int)) >>= fun x144 => (forN (fun (i117 : Int) (t118 : ((List (Option Int)) × (List (Option Int)) × Unit)) =>
 ((atG p2 i117) >>= fun slot_119 =>
 (((rng0 p1) >>= fun x129 => (forN (fun (i121 : Int) (t122 : (Int × Unit)) =>
 (((if (decide (t122.1 < p1)) = true then ((atG t118.1 t122.1) >>= fun x124 => Out.ok (Option.isSome x124)) else Out.ok false) >>= fun x126 => if x126 = true then let slot_125 : Int := (t122.1 + (1 : Int));
 (Out.ok (slot_125, ())) else (Out.ok (t122.1, ()))) >>= fun m127 =>
 (Out.ok (m127.1, ())))) x129 (slot_119, ()))) >>= fun m130 =>
 (((appG t118.2.1 (if (decide (m130.1 < p1)) = true then (some m130.1) else ((fun _ => (none : (Option Int))) ())) >>= fun l133 => Out.ok ((), (l133, ()))) >>= fun q134 => Out.ok q134.2) >>= fun m135 =>
 ((if (decide (m130.1 < p1)) = true then ((setG t118.1 m130.1 (some i117) >>= fun l140 => Out.ok (l140, ())) >>= fun m141 =>
 (Out.ok (m141.1, ()))) else (Out.ok (t118.1, ()))) >>= fun m142 =>
 (Out.ok (m142.1, m135.1, ()))))))) x144 (u115.1, u115.2.1, ()))) >>= fun m145 =>
 ((Out.ok (m145.2.1, (m145.2.1, ()))) >>= fun q146 => Out.ok q146.1)))
theorem r_law_places_1 : RF fd_law_places (ac eI (ac (eU eI) a0)) (eL (eO eI)) (fun x => t_law_places_1 x.1 x.2.1) := by
  have h : SR ⟨Φ_law_places, Γ⟩ (fun (s : (Int × (List Int) × Unit)) => ([some (.v (eI s.1)), some (.v ((eU eI) s.2.1)), none, none, none, none, none] : FS)) (fun (r : (List (Option Int))) fr d _ => fr = false ∧ d = (eL (eO eI)) r) false is_law_places _ :=
 (sr_seqP (sn_parP (es := (ac (eL (eO eI)) (ac (eL (eO eI)) a0))) (ap_consP (xp_binTT (ea := (eL (eO eI))) (eb := eI) p_repL (xt_lst (eb := (eL (eO eI))) (k := (fun x => [x.1])) (at_cons (XT.up (ea := eN) (eb := (eO eI)) (xt_cst (ea := eN) (x := ()) rfl) (fun _ => (none : (Option Int))) (fun _ => rfl)) at_nil) (fun _ => rfl) (fun _ => rfl)) (xt_var (ea := eI) (g := fun s => s.1) (fun _ => rfl))) (at_cons (xt_lst at_nil (eb := (eL (eO eI))) (k := fun _ => []) (fun _ => rfl) (fun _ => rfl)) at_nil)) (w2 := (fun (s : (Int × (List Int) × (List (Option Int)) × (List (Option Int)) × Unit)) => ([some (.v (eI s.1)), some (.v ((eU eI) s.2.1)), some (.o ((eL (eO eI)) s.2.2.1)), some (.o ((eL (eO eI)) s.2.2.2.1)), none, none, none] : FS))) (h := fun s x => (s.1, s.2.1, x.1, x.2.1, ())) (fun _ _ => rfl))
 (sr_seqP (sn_frame (κ := (fun s : (Int × (List Int) × (List (Option Int)) × (List (Option Int)) × Unit) => (s.1, s.2.1, ()))) (μ := (fun s : (Int × (List Int) × (List (Option Int)) × (List (Option Int)) × Unit) => (s.2.2.1, s.2.2.2.1, ()))) (wv := fun (c116 : (Int × (List Int) × Unit)) => (fun (s : ((List (Option Int)) × (List (Option Int)) × Unit)) => ([some (.v (eI c116.1)), some (.v ((eU eI) c116.2.1)), some (.o ((eL (eO eI)) s.1)), some (.o ((eL (eO eI)) s.2.1)), none, none, none] : FS))) (wv1 := fun (c116 : (Int × (List Int) × Unit)) => (fun (s : ((List (Option Int)) × (List (Option Int)) × Unit)) => ([some (.v (eI c116.1)), some (.v ((eU eI) c116.2.1)), some (.o ((eL (eO eI)) s.1)), some (.o ((eL (eO eI)) s.2.1)), none, none, none] : FS))) (w2 := (fun (s : (Int × (List Int) × (List (Option Int)) × (List (Option Int)) × Unit)) => ([some (.v (eI s.1)), some (.v ((eU eI) s.2.1)), some (.o ((eL (eO eI)) s.2.2.1)), some (.o ((eL (eO eI)) s.2.2.2.1)), none, none, none] : FS))) (back := (fun (c116 : (Int × (List Int) × Unit)) (m : ((List (Option Int)) × (List (Option Int)) × Unit)) => (c116.1, c116.2.1, m.1, m.2.1, ()))) (fun _ => rfl) (fun _ _ => rfl) (fun c116 => ⟨_,
 (sn_for (ea := eI) (xp_irngT (xt_b1 (eb := eI) (ea := (eU eI)) o_lenU (xt_var (ea := (eU eI)) (g := fun s => c116.2.1) (fun _ => rfl)))) (wt := (fun (s : (((List (Option Int)) × (List (Option Int)) × Unit) × Int)) => ([some (.v (eI c116.1)), some (.v ((eU eI) c116.2.1)), some (.o ((eL (eO eI)) s.1.1)), some (.o ((eL (eO eI)) s.1.2.1)), some (.v (eI s.2)), none, none] : FS))) (fun _ _ => rfl)
 (sn_seqP (sn_setP (ea := eI) (xp_idxTT (ea := (eU eI)) (eb := eI) p_atU (xt_var (ea := (eU eI)) (g := fun s => c116.2.1) (fun _ => rfl)) (xt_var (ea := eI) (g := fun s => s.2) (fun _ => rfl))) (w2 := (fun (s : ((List (Option Int)) × (List (Option Int)) × Int × Int × Unit)) => ([some (.v (eI c116.1)), some (.v ((eU eI) c116.2.1)), some (.o ((eL (eO eI)) s.1)), some (.o ((eL (eO eI)) s.2.1)), some (.v (eI s.2.2.1)), some (.v (eI s.2.2.2.1)), none] : FS))) (h := fun s x => (s.1.1, s.1.2.1, s.2, x, ())) (fun _ _ => rfl))
 (sn_seqP (sn_frame (κ := (fun s : ((List (Option Int)) × (List (Option Int)) × Int × Int × Unit) => (s.1, s.2.1, s.2.2.1, ()))) (μ := (fun s : ((List (Option Int)) × (List (Option Int)) × Int × Int × Unit) => (s.2.2.2.1, ()))) (wv := fun (c120 : ((List (Option Int)) × (List (Option Int)) × Int × Unit)) => (fun (s : (Int × Unit)) => ([some (.v (eI c116.1)), some (.v ((eU eI) c116.2.1)), some (.o ((eL (eO eI)) c120.1)), some (.o ((eL (eO eI)) c120.2.1)), some (.v (eI c120.2.2.1)), some (.v (eI s.1)), none] : FS))) (wv1 := fun (c120 : ((List (Option Int)) × (List (Option Int)) × Int × Unit)) => (fun (s : (Int × Unit)) => ([some (.v (eI c116.1)), some (.v ((eU eI) c116.2.1)), some (.o ((eL (eO eI)) c120.1)), some (.o ((eL (eO eI)) c120.2.1)), some (.v (eI c120.2.2.1)), some (.v (eI s.1)), none] : FS))) (w2 := (fun (s : ((List (Option Int)) × (List (Option Int)) × Int × Int × Unit)) => ([some (.v (eI c116.1)), some (.v ((eU eI) c116.2.1)), some (.o ((eL (eO eI)) s.1)), some (.o ((eL (eO eI)) s.2.1)), some (.v (eI s.2.2.1)), some (.v (eI s.2.2.2.1)), none] : FS))) (back := (fun (c120 : ((List (Option Int)) × (List (Option Int)) × Int × Unit)) (m : (Int × Unit)) => (c120.1, c120.2.1, c120.2.2.1, m.1, ()))) (fun _ => rfl) (fun _ _ => rfl) (fun c120 => ⟨_,
 (sn_for (ea := eI) (xp_irngT (xt_var (ea := eI) (g := fun s => c116.1) (fun _ => rfl))) (wt := (fun (s : ((Int × Unit) × Int)) => ([some (.v (eI c116.1)), some (.v ((eU eI) c116.2.1)), some (.o ((eL (eO eI)) c120.1)), some (.o ((eL (eO eI)) c120.2.1)), some (.v (eI c120.2.2.1)), some (.v (eI s.1.1)), some (.v (eI s.2))] : FS))) (fun _ _ => rfl)
 (sn_seqP (sn_frame (κ := (fun s : ((Int × Unit) × Int) => (s.2, ()))) (μ := (fun s : ((Int × Unit) × Int) => (s.1.1, ()))) (wv := fun (c123 : (Int × Unit)) => (fun (s : (Int × Unit)) => ([some (.v (eI c116.1)), some (.v ((eU eI) c116.2.1)), some (.o ((eL (eO eI)) c120.1)), some (.o ((eL (eO eI)) c120.2.1)), some (.v (eI c120.2.2.1)), some (.v (eI s.1)), some (.v (eI c123.1))] : FS))) (wv1 := fun (c123 : (Int × Unit)) => (fun (s : (Int × Unit)) => ([some (.v (eI c116.1)), some (.v ((eU eI) c116.2.1)), some (.o ((eL (eO eI)) c120.1)), some (.o ((eL (eO eI)) c120.2.1)), some (.v (eI c120.2.2.1)), some (.v (eI s.1)), some (.v (eI c123.1))] : FS))) (w2 := (fun (s : (Int × Int × Unit)) => ([some (.v (eI c116.1)), some (.v ((eU eI) c116.2.1)), some (.o ((eL (eO eI)) c120.1)), some (.o ((eL (eO eI)) c120.2.1)), some (.v (eI c120.2.2.1)), some (.v (eI s.1)), some (.v (eI s.2.1))] : FS))) (back := (fun (c123 : (Int × Unit)) (m : (Int × Unit)) => (m.1, c123.1, ()))) (fun _ => rfl) (fun _ _ => rfl) (fun c123 => ⟨_,
 (sn_ifP (xp_andT (xt_cmp (ea := eI) (eb := eI) o_lt (xt_var (ea := eI) (g := fun s => s.1) (fun _ => rfl)) (xt_var (ea := eI) (g := fun s => c116.1) (fun _ => rfl))) (xp_cmpPT (ea := (eO eI)) (eb := eN) (fun x y => le_some ((o_nsN (fun _ => rfl)) x y)) (xp_idxTT (ea := (eL (eO eI))) (eb := eI) p_atL (xt_bor (ea := (eL (eO eI))) (g := fun s => c120.1) (fun _ => rfl)) (xt_var (ea := eI) (g := fun s => s.1) (fun _ => rfl))) (xt_cst (ea := eN) (x := ()) rfl)))
 (sn_seqT (sn_setT (ea := eI) (xt_bin (ea := eI) (eb := eI) o_add (xt_var (ea := eI) (g := fun s => s.1) (fun _ => rfl)) (xt_cst (ea := eI) (x := (1 : Int)) rfl)) (w2 := (fun (s : (Int × Unit)) => ([some (.v (eI c116.1)), some (.v ((eU eI) c116.2.1)), some (.o ((eL (eO eI)) c120.1)), some (.o ((eL (eO eI)) c120.2.1)), some (.v (eI c120.2.2.1)), some (.v (eI s.1)), some (.v (eI c123.1))] : FS))) (h := fun s x => (x, ())) (fun _ _ => rfl))
 (sn_endT (w1 := (fun (s : (Int × Unit)) => ([some (.v (eI c116.1)), some (.v ((eU eI) c116.2.1)), some (.o ((eL (eO eI)) c120.1)), some (.o ((eL (eO eI)) c120.2.1)), some (.v (eI c120.2.2.1)), some (.v (eI s.1)), some (.v (eI c123.1))] : FS))) (h := fun s => (s.1, ())) (fun _ => rfl)))
 (sn_endT (w1 := (fun (s : (Int × Unit)) => ([some (.v (eI c116.1)), some (.v ((eU eI) c116.2.1)), some (.o ((eL (eO eI)) c120.1)), some (.o ((eL (eO eI)) c120.2.1)), some (.v (eI c120.2.2.1)), some (.v (eI s.1)), some (.v (eI c123.1))] : FS))) (h := fun s => (s.1, ())) (fun _ => rfl)))⟩))
 (sn_seqT (sn_fgt (w1 := (fun (s : (Int × Unit)) => ([some (.v (eI c116.1)), some (.v ((eU eI) c116.2.1)), some (.o ((eL (eO eI)) c120.1)), some (.o ((eL (eO eI)) c120.2.1)), some (.v (eI c120.2.2.1)), some (.v (eI s.1)), none] : FS))) (h := fun s => (s.1, ())) (fun _ => rfl))
 (sn_endT (w1 := (fun (s : (Int × Unit)) => ([some (.v (eI c116.1)), some (.v ((eU eI) c116.2.1)), some (.o ((eL (eO eI)) c120.1)), some (.o ((eL (eO eI)) c120.2.1)), some (.v (eI c120.2.2.1)), some (.v (eI s.1)), none] : FS))) (h := fun s => (s.1, ())) (fun _ => rfl)))))⟩))
 (sn_seqP (sn_frame (κ := (fun s : ((List (Option Int)) × (List (Option Int)) × Int × Int × Unit) => (s.1, s.2.2.1, s.2.2.2.1, ()))) (μ := (fun s : ((List (Option Int)) × (List (Option Int)) × Int × Int × Unit) => (s.2.1, ()))) (wv := fun (c132 : ((List (Option Int)) × Int × Int × Unit)) => (fun (s : ((List (Option Int)) × Unit)) => ([some (.v (eI c116.1)), some (.v ((eU eI) c116.2.1)), some (.o ((eL (eO eI)) c132.1)), some (.o ((eL (eO eI)) s.1)), some (.v (eI c132.2.1)), some (.v (eI c132.2.2.1)), none] : FS))) (wv1 := fun (c132 : ((List (Option Int)) × Int × Int × Unit)) => (fun (s : ((List (Option Int)) × Unit)) => ([some (.v (eI c116.1)), some (.v ((eU eI) c116.2.1)), some (.o ((eL (eO eI)) c132.1)), some (.o ((eL (eO eI)) s.1)), some (.v (eI c132.2.1)), some (.v (eI c132.2.2.1)), none] : FS))) (w2 := (fun (s : ((List (Option Int)) × (List (Option Int)) × Int × Int × Unit)) => ([some (.v (eI c116.1)), some (.v ((eU eI) c116.2.1)), some (.o ((eL (eO eI)) s.1)), some (.o ((eL (eO eI)) s.2.1)), some (.v (eI s.2.2.1)), some (.v (eI s.2.2.2.1)), none] : FS))) (back := (fun (c132 : ((List (Option Int)) × Int × Int × Unit)) (m : ((List (Option Int)) × Unit)) => (c132.1, m.1, c132.2.1, c132.2.2.1, ()))) (fun _ => rfl) (fun _ _ => rfl) (fun c132 => ⟨_,
 (sn_ex (xg_appT (ea := (eO eI)) (g1 := fun s => s.1) (w2 := (fun (s : ((List (Option Int)) × Unit)) => ([some (.v (eI c116.1)), some (.v ((eU eI) c116.2.1)), some (.o ((eL (eO eI)) c132.1)), some (.o ((eL (eO eI)) s.1)), some (.v (eI c132.2.1)), some (.v (eI c132.2.2.1)), none] : FS))) (h := fun s z => (z, ())) (fun _ => rfl) (fun _ _ => rfl) (xt_ite (xt_cmp (ea := eI) (eb := eI) o_lt (xt_var (ea := eI) (g := fun s => c132.2.2.1) (fun _ => rfl)) (xt_var (ea := eI) (g := fun s => c116.1) (fun _ => rfl))) (XT.up (ea := eI) (eb := (eO eI)) (xt_var (ea := eI) (g := fun s => c132.2.2.1) (fun _ => rfl)) some (fun _ => rfl)) (XT.up (ea := eN) (eb := (eO eI)) (xt_cst (ea := eN) (x := ()) rfl) (fun _ => (none : (Option Int))) (fun _ => rfl)))))⟩))
 (sn_seqP (sn_frame (κ := (fun s : ((List (Option Int)) × (List (Option Int)) × Int × Int × Unit) => (s.2.1, s.2.2.1, s.2.2.2.1, ()))) (μ := (fun s : ((List (Option Int)) × (List (Option Int)) × Int × Int × Unit) => (s.1, ()))) (wv := fun (c136 : ((List (Option Int)) × Int × Int × Unit)) => (fun (s : ((List (Option Int)) × Unit)) => ([some (.v (eI c116.1)), some (.v ((eU eI) c116.2.1)), some (.o ((eL (eO eI)) s.1)), some (.o ((eL (eO eI)) c136.1)), some (.v (eI c136.2.1)), some (.v (eI c136.2.2.1)), none] : FS))) (wv1 := fun (c136 : ((List (Option Int)) × Int × Int × Unit)) => (fun (s : ((List (Option Int)) × Unit)) => ([some (.v (eI c116.1)), some (.v ((eU eI) c116.2.1)), some (.o ((eL (eO eI)) s.1)), some (.o ((eL (eO eI)) c136.1)), some (.v (eI c136.2.1)), some (.v (eI c136.2.2.1)), none] : FS))) (w2 := (fun (s : ((List (Option Int)) × (List (Option Int)) × Int × Int × Unit)) => ([some (.v (eI c116.1)), some (.v ((eU eI) c116.2.1)), some (.o ((eL (eO eI)) s.1)), some (.o ((eL (eO eI)) s.2.1)), some (.v (eI s.2.2.1)), some (.v (eI s.2.2.2.1)), none] : FS))) (back := (fun (c136 : ((List (Option Int)) × Int × Int × Unit)) (m : ((List (Option Int)) × Unit)) => (m.1, c136.1, c136.2.1, c136.2.2.1, ()))) (fun _ => rfl) (fun _ _ => rfl) (fun c136 => ⟨_,
 (sn_ifT (xt_cmp (ea := eI) (eb := eI) o_lt (xt_var (ea := eI) (g := fun s => c136.2.2.1) (fun _ => rfl)) (xt_var (ea := eI) (g := fun s => c116.1) (fun _ => rfl)))
 (sn_seqP (sn_frame (κ := (fun s : ((List (Option Int)) × Unit) => ())) (μ := (fun s : ((List (Option Int)) × Unit) => (s.1, ()))) (wv := fun (c137 : Unit) => (fun (s : ((List (Option Int)) × Unit)) => ([some (.v (eI c116.1)), some (.v ((eU eI) c116.2.1)), some (.o ((eL (eO eI)) s.1)), some (.o ((eL (eO eI)) c136.1)), some (.v (eI c136.2.1)), some (.v (eI c136.2.2.1)), none] : FS))) (wv1 := fun (c137 : Unit) => (fun (s : ((List (Option Int)) × Unit)) => ([some (.v (eI c116.1)), some (.v ((eU eI) c116.2.1)), some (.o ((eL (eO eI)) s.1)), some (.o ((eL (eO eI)) c136.1)), some (.v (eI c136.2.1)), some (.v (eI c136.2.2.1)), none] : FS))) (w2 := (fun (s : ((List (Option Int)) × Unit)) => ([some (.v (eI c116.1)), some (.v ((eU eI) c116.2.1)), some (.o ((eL (eO eI)) s.1)), some (.o ((eL (eO eI)) c136.1)), some (.v (eI c136.2.1)), some (.v (eI c136.2.2.1)), none] : FS))) (back := (fun (c137 : Unit) (m : ((List (Option Int)) × Unit)) => (m.1, ()))) (fun _ => rfl) (fun _ _ => rfl) (fun c137 => ⟨_,
 (sn_setixTT (ea := (eO eI)) (XT.up (ea := eI) (eb := (eO eI)) (xt_var (ea := eI) (g := fun s => c136.2.1) (fun _ => rfl)) some (fun _ => rfl)) (xt_var (ea := eI) (g := fun s => c136.2.2.1) (fun _ => rfl)) (g := fun s => s.1) (w2 := (fun (s : ((List (Option Int)) × Unit)) => ([some (.v (eI c116.1)), some (.v ((eU eI) c116.2.1)), some (.o ((eL (eO eI)) s.1)), some (.o ((eL (eO eI)) c136.1)), some (.v (eI c136.2.1)), some (.v (eI c136.2.2.1)), none] : FS))) (h := fun s z => (z, ())) (fun _ => rfl) (fun _ _ => rfl))⟩))
 (sn_endT (w1 := (fun (s : ((List (Option Int)) × Unit)) => ([some (.v (eI c116.1)), some (.v ((eU eI) c116.2.1)), some (.o ((eL (eO eI)) s.1)), some (.o ((eL (eO eI)) c136.1)), some (.v (eI c136.2.1)), some (.v (eI c136.2.2.1)), none] : FS))) (h := fun s => (s.1, ())) (fun _ => rfl)))
 (sn_endT (w1 := (fun (s : ((List (Option Int)) × Unit)) => ([some (.v (eI c116.1)), some (.v ((eU eI) c116.2.1)), some (.o ((eL (eO eI)) s.1)), some (.o ((eL (eO eI)) c136.1)), some (.v (eI c136.2.1)), some (.v (eI c136.2.2.1)), none] : FS))) (h := fun s => (s.1, ())) (fun _ => rfl)))⟩))
 (sn_seqT (sn_fgt (w1 := (fun (s : ((List (Option Int)) × (List (Option Int)) × Unit)) => ([some (.v (eI c116.1)), some (.v ((eU eI) c116.2.1)), some (.o ((eL (eO eI)) s.1)), some (.o ((eL (eO eI)) s.2.1)), none, none, none] : FS))) (h := fun s => (s.1, s.2.1, ())) (fun _ => rfl))
 (sn_endT (w1 := (fun (s : ((List (Option Int)) × (List (Option Int)) × Unit)) => ([some (.v (eI c116.1)), some (.v ((eU eI) c116.2.1)), some (.o ((eL (eO eI)) s.1)), some (.o ((eL (eO eI)) s.2.1)), none, none, none] : FS))) (h := fun s => (s.1, s.2.1, ())) (fun _ => rfl))))))))⟩))
 (sr_seqT (sn_fgt (w1 := (fun (s : ((List (Option Int)) × Unit)) => ([none, none, none, some (.o ((eL (eO eI)) s.1)), none, none, none] : FS))) (h := fun s => (s.2.2.2.1, ())) (fun _ => rfl))
 (sr_ret (g := (fun x _ => x)) (xg_esc (ea := (eL (eO eI))) (w1 := (fun (s : ((List (Option Int)) × Unit)) => ([none, none, none, some (.v ((eL (eO eI)) s.1)), none, none, none] : FS))) (g := fun s => s.1) (h := fun s => s) (fun _ => rfl)) (fun _ _ => ⟨rfl, rfl⟩)))))
  exact rf_srE rfl rfl (fun _ _ => rfl) h rfl
def t_is_whole_1 (p1 : Int) (p2 : Int) (p3 : Int) : Out Bool := (Out.ok (true && ((!false) && ((decide (p2 ≤ p1)) && (decide (p1 ≤ p3))))))
theorem r_is_whole_1 : RF fd_is_whole (ac eI (ac eI (ac eI a0))) eB (fun x => t_is_whole_1 x.1 x.2.1 x.2.2.1) := by
  have h : SR ⟨Φ_is_whole, Γ⟩ (fun (s : (Int × Int × Int × Unit)) => ([some (.v (eI s.1)), some (.v (eI s.2.1)), some (.v (eI s.2.2.1))] : FS)) (fun (r : Bool) fr d _ => fr = false ∧ d = eB r) false is_is_whole _ :=
 (sr_retT (g := (fun x _ => x)) (xt_and (xt_isi (ea := eI) (h := fun _ => true) (fun _ => rfl) (xt_var (ea := eI) (g := fun s => s.1) (fun _ => rfl))) (xt_and (xt_not (xt_isi (ea := eI) (h := fun _ => false) (fun _ => rfl) (xt_var (ea := eI) (g := fun s => s.1) (fun _ => rfl)))) (xt_chain (ea := eI) (eb := eI) (ec := eI) o_le o_le (xt_var (ea := eI) (g := fun s => s.2.1) (fun _ => rfl)) (xt_var (ea := eI) (g := fun s => s.1) (fun _ => rfl)) (xt_var (ea := eI) (g := fun s => s.2.2.1) (fun _ => rfl))))) (fun _ _ => ⟨rfl, rfl⟩))
  exact rf_srE rfl rfl (fun _ _ => rfl) h rfl
def t_need_counts_1 (p1 : Int) (p2 : Int) : Out Unit := ((((t_is_whole_1 p1 (1 : Int) (12 : Int)) >>= fun x151 => Out.ok (!x151)) >>= fun x153 => (if x153 = true then Out.ok true else ((t_is_whole_1 p2 (0 : Int) (12 : Int)) >>= fun x152 => Out.ok (!x152)))) >>= fun x154 => if x154 = true then (Out.err "InvalidNumber" .none) else (Out.ok ()))
theorem r_need_counts_1 : RF fd_need_counts (ac eI (ac eI a0)) eN (fun x => t_need_counts_1 x.1 x.2.1) := by
  have h : SR ⟨Φ_need_counts, Γ⟩ (fun (s : (Int × Int × Unit)) => ([some (.v (eI s.1)), some (.v (eI s.2.1))] : FS)) (fun (r : Unit) fr d _ => fr = false ∧ d = eN r) true is_need_counts _ :=
 (sr_ifPk (xp_or (xp_not (xp_callT (fd := fd_is_whole) rfl rfl (fun _ => rfl) r_is_whole_1 (at_cons (xt_var (ea := eI) (g := fun s => s.1) (fun _ => rfl)) (at_cons (xt_cst (ea := eI) (x := (1 : Int)) rfl) (at_cons (xt_glo (ea := eI) (v := (12 : Int)) g_SLOTS) at_nil))))) (xp_not (xp_callT (fd := fd_is_whole) rfl rfl (fun _ => rfl) r_is_whole_1 (at_cons (xt_var (ea := eI) (g := fun s => s.2.1) (fun _ => rfl)) (at_cons (xt_cst (ea := eI) (x := (0 : Int)) rfl) (at_cons (xt_glo (ea := eI) (v := (12 : Int)) g_SLOTS) at_nil))))))
 (sr_raise)
 (sn_endT (w1 := (fun (s : (Int × Int × Unit)) => ([some (.v (eI s.1)), some (.v (eI s.2.1))] : FS))) (h := fun s => (s.1, s.2.1, ())) (fun _ => rfl))
 (sr_seqT (sn_fgt (w1 := (fun (s : Unit) => ([none, none] : FS))) (h := fun s => ()) (fun _ => rfl))
 (sr_end (g := (fun _ => ())) (fun _ => ⟨rfl, rfl⟩))))
  exact rf_srE rfl rfl (fun _ _ => rfl) h rfl
def t_power_1 (p1 : Int) (p2 : Int) : Out Int := let found_156 : Int := (1 : Int);
 (((rng0 p2) >>= fun x162 => (forN (fun (i158 : Int) (t159 : (Int × Unit)) =>
 ((mulG t159.1 p1) >>= fun found_160 =>
 (Out.ok (found_160, ())))) x162 (found_156, ()))) >>= fun m163 =>
 (Out.ok m163.1))
theorem r_power_1 : RF fd_power (ac eI (ac eI a0)) eI (fun x => t_power_1 x.1 x.2.1) := by
  have h : SR ⟨Φ_power, Γ⟩ (fun (s : (Int × Int × Unit)) => ([some (.v (eI s.1)), some (.v (eI s.2.1)), none, none] : FS)) (fun (r : Int) fr d _ => fr = false ∧ d = eI r) false is_power _ :=
 (sr_seqT (sn_setT (ea := eI) (xt_cst (ea := eI) (x := (1 : Int)) rfl) (w2 := (fun (s : (Int × Int × Int × Unit)) => ([some (.v (eI s.1)), some (.v (eI s.2.1)), some (.v (eI s.2.2.1)), none] : FS))) (h := fun s x => (s.1, s.2.1, x, ())) (fun _ _ => rfl))
 (sr_seqP (sn_frame (κ := (fun s : (Int × Int × Int × Unit) => (s.1, s.2.1, ()))) (μ := (fun s : (Int × Int × Int × Unit) => (s.2.2.1, ()))) (wv := fun (c157 : (Int × Int × Unit)) => (fun (s : (Int × Unit)) => ([some (.v (eI c157.1)), some (.v (eI c157.2.1)), some (.v (eI s.1)), none] : FS))) (wv1 := fun (c157 : (Int × Int × Unit)) => (fun (s : (Int × Unit)) => ([some (.v (eI c157.1)), some (.v (eI c157.2.1)), some (.v (eI s.1)), none] : FS))) (w2 := (fun (s : (Int × Int × Int × Unit)) => ([some (.v (eI s.1)), some (.v (eI s.2.1)), some (.v (eI s.2.2.1)), none] : FS))) (back := (fun (c157 : (Int × Int × Unit)) (m : (Int × Unit)) => (c157.1, c157.2.1, m.1, ()))) (fun _ => rfl) (fun _ _ => rfl) (fun c157 => ⟨_,
 (sn_for (ea := eI) (xp_irngT (xt_var (ea := eI) (g := fun s => c157.2.1) (fun _ => rfl))) (wt := (fun (s : ((Int × Unit) × Int)) => ([some (.v (eI c157.1)), some (.v (eI c157.2.1)), some (.v (eI s.1.1)), some (.v (eI s.2))] : FS))) (fun _ _ => rfl)
 (sn_seqP (sn_setP (ea := eI) (xp_binTT (ea := eI) (eb := eI) p_mul (xt_var (ea := eI) (g := fun s => s.1.1) (fun _ => rfl)) (xt_var (ea := eI) (g := fun s => c157.1) (fun _ => rfl))) (w2 := (fun (s : (Int × Int × Unit)) => ([some (.v (eI c157.1)), some (.v (eI c157.2.1)), some (.v (eI s.1)), some (.v (eI s.2.1))] : FS))) (h := fun s x => (x, s.2, ())) (fun _ _ => rfl))
 (sn_seqT (sn_fgt (w1 := (fun (s : (Int × Unit)) => ([some (.v (eI c157.1)), some (.v (eI c157.2.1)), some (.v (eI s.1)), none] : FS))) (h := fun s => (s.1, ())) (fun _ => rfl))
 (sn_endT (w1 := (fun (s : (Int × Unit)) => ([some (.v (eI c157.1)), some (.v (eI c157.2.1)), some (.v (eI s.1)), none] : FS))) (h := fun s => (s.1, ())) (fun _ => rfl)))))⟩))
 (sr_seqT (sn_fgt (w1 := (fun (s : (Int × Unit)) => ([none, none, some (.v (eI s.1)), none] : FS))) (h := fun s => (s.2.2.1, ())) (fun _ => rfl))
 (sr_retT (g := (fun x _ => x)) (xt_var (ea := eI) (g := fun s => s.1) (fun _ => rfl)) (fun _ _ => ⟨rfl, rfl⟩)))))
  exact rf_srE rfl rfl (fun _ _ => rfl) h rfl
def t_count_finding_1 (p1 : Int) (p2 : Int) : Out (Int × Int) := ((t_need_counts_1 p1 p2) >>= fun (_ : Unit) =>
 ((t_power_1 p1 p2) >>= fun whole_152 =>
 (if (decide (p1 < p2)) = true then (Out.ok (whole_152, (0 : Int))) else ((((if (decide ((0 : Int) < p2)) = true then ((t_power_1 (p1 + (1 : Int)) (p2 - (1 : Int))) >>= fun x153 => (mulG ((p1 + (1 : Int)) - p2) x153)) else (Out.ok (1 : Int))) >>= fun x155 => Out.ok (x155, ())) >>= fun y156 => Out.ok (whole_152, y156)) >>= fun x157 => Out.ok ((fun x => (x.1, x.2.1)) x157)))))
theorem r_count_finding_1 : RF fd_count_finding (ac eI (ac eI a0)) (e2 eI eI) (fun x => t_count_finding_1 x.1 x.2.1) := by
  have h : SR ⟨Φ_count_finding, Γ⟩ (fun (s : (Int × Int × Unit)) => ([some (.v (eI s.1)), some (.v (eI s.2.1)), none] : FS)) (fun (r : (Int × Int)) fr d _ => fr = false ∧ d = (e2 eI eI) r) false is_count_finding _ :=
 (sr_seqP (sn_exQ (xp_callT (fd := fd_need_counts) rfl rfl (fun _ => rfl) r_need_counts_1 (at_cons (xt_var (ea := eI) (g := fun s => s.1) (fun _ => rfl)) (at_cons (xt_var (ea := eI) (g := fun s => s.2.1) (fun _ => rfl)) at_nil))))
 (sr_seqP (sn_setP (ea := eI) (xp_callT (fd := fd_power) rfl rfl (fun _ => rfl) r_power_1 (at_cons (xt_var (ea := eI) (g := fun s => s.1) (fun _ => rfl)) (at_cons (xt_var (ea := eI) (g := fun s => s.2.1) (fun _ => rfl)) at_nil))) (w2 := (fun (s : (Int × Int × Int × Unit)) => ([some (.v (eI s.1)), some (.v (eI s.2.1)), some (.v (eI s.2.2.1))] : FS))) (h := fun s x => (s.1, s.2.1, x, ())) (fun _ _ => rfl))
 (sr_ifTk (xt_cmp (ea := eI) (eb := eI) o_gt (xt_var (ea := eI) (g := fun s => s.2.1) (fun _ => rfl)) (xt_var (ea := eI) (g := fun s => s.1) (fun _ => rfl)))
 (sr_retT (g := (fun x _ => x)) (xt_tup (eb := (e2 eI eI)) (k := (fun x => (x.1, x.2.1))) (at_cons (xt_var (ea := eI) (g := fun s => s.2.2.1) (fun _ => rfl)) (at_cons (xt_cst (ea := eI) (x := (0 : Int)) rfl) at_nil)) (fun _ => rfl) (fun _ => rfl)) (fun _ _ => ⟨rfl, rfl⟩))
 (sn_endT (w1 := (fun (s : (Int × Int × Int × Unit)) => ([some (.v (eI s.1)), some (.v (eI s.2.1)), some (.v (eI s.2.2.1))] : FS))) (h := fun s => (s.1, s.2.1, s.2.2.1, ())) (fun _ => rfl))
 (sr_retV (xp_tup (eb := (e2 eI eI)) (k := (fun x => (x.1, x.2.1))) (ap_consT (xt_var (ea := eI) (g := fun s => s.2.2.1) (fun _ => rfl)) (ap_consP (xp_iteT (xt_cmp (ea := eI) (eb := eI) o_gt (xt_var (ea := eI) (g := fun s => s.2.1) (fun _ => rfl)) (xt_cst (ea := eI) (x := (0 : Int)) rfl)) (xp_binTP (ea := eI) (eb := eI) p_mul (xt_bin (ea := eI) (eb := eI) o_sub (xt_bin (ea := eI) (eb := eI) o_add (xt_var (ea := eI) (g := fun s => s.1) (fun _ => rfl)) (xt_cst (ea := eI) (x := (1 : Int)) rfl)) (xt_var (ea := eI) (g := fun s => s.2.1) (fun _ => rfl))) (xp_callT (fd := fd_power) rfl rfl (fun _ => rfl) r_power_1 (at_cons (xt_bin (ea := eI) (eb := eI) o_add (xt_var (ea := eI) (g := fun s => s.1) (fun _ => rfl)) (xt_cst (ea := eI) (x := (1 : Int)) rfl)) (at_cons (xt_bin (ea := eI) (eb := eI) o_sub (xt_var (ea := eI) (g := fun s => s.2.1) (fun _ => rfl)) (xt_cst (ea := eI) (x := (1 : Int)) rfl)) at_nil)))) (XT.p (xt_cst (ea := eI) (x := (1 : Int)) rfl))) at_nil)) (fun _ => rfl) (fun _ => rfl)) (fun _ _ => ⟨rfl, rfl⟩)))))
  exact rf_srE rfl rfl (fun _ _ => rfl) h rfl
def t_more_from_1 (p1 : (Int × (List Int))) : Out (List Int) := let many_174 : Int := p1.1;
 ((rng0 many_174) >>= fun x181 => (lcQ (fun (i176 : Int) => (((fits ((p1.2.filter fun (i178 : Int) => (decide (i176 ≤ i178))).map fun (i178 : Int) => i178)) >>= fun x179 => Out.ok ((List.length x179 : Nat) : Int)) >>= fun x180 => Out.ok (x180 - (many_174 - i176)))) x181 >>= fun r => fits r))
theorem r_more_from_1 : RF fd_more_from (ac (e2 eI (eU eI)) a0) (eL eI) (fun x => t_more_from_1 x.1) := by
  have h : SR ⟨Φ_more_from, Γ⟩ (fun (s : ((Int × (List Int)) × Unit)) => ([some (.v ((e2 eI (eU eI)) s.1)), none, none, none] : FS)) (fun (r : (List Int)) fr d _ => fr = false ∧ d = (eL eI) r) false is_more_from _ :=
 (sr_seqT (sn_setT (ea := eI) (xt_idxk (ea := (e2 eI (eU eI))) (ec := eI) (h := (fun x => x.1)) (fun _ => rfl) (xt_var (ea := (e2 eI (eU eI))) (g := fun s => s.1) (fun _ => rfl))) (w2 := (fun (s : ((Int × (List Int)) × Int × Unit)) => ([some (.v ((e2 eI (eU eI)) s.1)), some (.v (eI s.2.1)), none, none] : FS))) (h := fun s x => (s.1, x, ())) (fun _ _ => rfl))
 (sr_retV (xp_lc1 (ea := eI) (eb := eI) (xp_irngT (xt_var (ea := eI) (g := fun s => s.2.1) (fun _ => rfl))) (fun _ => rfl) (fun _ _ => rfl) (fun _ _ => rfl) (fun _ => rfl) (fun _ _ => rfl) (wt := (fun (s : (((Int × (List Int)) × Int × Unit) × Int)) => ([some (.v ((e2 eI (eU eI)) s.1.1)), some (.v (eI s.1.2.1)), none, some (.v (eI s.2))] : FS))) (xp_binPT (ea := eI) (eb := eI) (fun x y => le_some (o_sub x y)) (xp_b1 (eb := eI) (ea := (eL eI)) (fun x => le_some (o_lenL x)) (xt_lc (ea := eI) (eb := eI) (XT.p (xt_iseq (ea := (eU eI)) (eb := eI) o_seqU (xt_idxk (ea := (e2 eI (eU eI))) (ec := (eU eI)) (h := (fun x => x.2)) (fun _ => rfl) (xt_var (ea := (e2 eI (eU eI))) (g := fun s => s.1.1) (fun _ => rfl))))) (fun _ => rfl) (fun _ _ => rfl) (fun _ _ => rfl) (fun _ => rfl) (fun _ _ => rfl) (wt := (fun (s : ((((Int × (List Int)) × Int × Unit) × Int) × Int)) => ([some (.v ((e2 eI (eU eI)) s.1.1.1)), some (.v (eI s.1.1.2.1)), some (.v (eI s.2)), some (.v (eI s.1.2))] : FS))) (xt_cmp (ea := eI) (eb := eI) o_ge (xt_var (ea := eI) (g := fun s => s.2) (fun _ => rfl)) (xt_var (ea := eI) (g := fun s => s.1.2) (fun _ => rfl))) (xt_var (ea := eI) (g := fun s => s.2) (fun _ => rfl)))) (xt_bin (ea := eI) (eb := eI) o_sub (xt_var (ea := eI) (g := fun s => s.1.2.1) (fun _ => rfl)) (xt_var (ea := eI) (g := fun s => s.2) (fun _ => rfl))))) (fun _ _ => ⟨rfl, rfl⟩)))
  exact rf_srE rfl rfl (fun _ _ => rfl) h rfl
def t_all_finding_1 (p1 : Int) (p2 : Int) : Out (List (List Int)) := ((((t_count_finding_1 p1 p2) >>= fun x158 => Out.ok x158.2) >>= fun x159 => Out.ok (decide ((2000 : Int) < x159))) >>= fun x181 => if x181 = true then Out.bad else (if (decide (p1 < p2)) = true then (Out.ok ([] : (List (List Int)))) else let line_160 : (List (List Int)) := [([] : (List Int))];
 (((rng0 p2) >>= fun x179 => (forN (fun (i162 : Int) (t163 : ((List (List Int)) × Unit)) =>
 (((Out.ok t163.1) >>= fun l168 => lcF (fun (i164 : (List Int)) => (Out.ok true) >>= fun u166 => if u166 = true then ((rng0 p1) >>= fun l169 => lcF (fun (i165 : Int) => (Out.ok true) >>= fun u167 => if u167 = true then ((fits (i164 ++ [i165])) >>= fun z170 => Out.ok [z170]) else Out.ok []) l169) else Out.ok []) l168 >>= fun r => fits r) >>= fun longer_171 =>
 ((lcP (fun (i173 : (List Int)) => ((((t_more_from_1 (p1, i173)) >>= maxT eI) >>= fun x174 => Out.ok (decide (x174 ≤ (0 : Int)))) >>= fun x176 => (if x176 = true then ((Out.ok i173) >>= fun z175 => Out.ok (some z175)) else Out.ok none))) longer_171 >>= fun r => fits r) >>= fun line_177 =>
 (Out.ok (line_177, ()))))) x179 (line_160, ()))) >>= fun m180 =>
 (Out.ok m180.1))))
theorem r_all_finding_1 : RF fd_all_finding (ac eI (ac eI a0)) (eU (eU eI)) (fun x => t_all_finding_1 x.1 x.2.1) := by
  have h : SR ⟨Φ_all_finding, Γ⟩ (fun (s : (Int × Int × Unit)) => ([some (.v (eI s.1)), some (.v (eI s.2.1)), none, none, none, none, none] : FS)) (fun (r : (List (List Int))) fr d _ => fr = false ∧ d = (eU (eU eI)) r) false is_all_finding _ :=
 (sr_ifPk (xp_cmpPT (ea := eI) (eb := eI) (fun x y => le_some (o_gt x y)) (xp_idxk (ea := (e2 eI eI)) (ec := eI) (h := fun x => .ok x.2) (fun _ => rfl) (xp_callT (fd := fd_count_finding) rfl rfl (fun _ => rfl) r_count_finding_1 (at_cons (xt_var (ea := eI) (g := fun s => s.1) (fun _ => rfl)) (at_cons (xt_var (ea := eI) (g := fun s => s.2.1) (fun _ => rfl)) at_nil)))) (xt_glo (ea := eI) (v := (2000 : Int)) g_ROWS))
 (sr_nev (fun _ => rfl))
 (sn_endT (w1 := (fun (s : (Int × Int × Unit)) => ([some (.v (eI s.1)), some (.v (eI s.2.1)), none, none, none, none, none] : FS))) (h := fun s => (s.1, s.2.1, ())) (fun _ => rfl))
 (sr_ifTk (xt_cmp (ea := eI) (eb := eI) o_gt (xt_var (ea := eI) (g := fun s => s.2.1) (fun _ => rfl)) (xt_var (ea := eI) (g := fun s => s.1) (fun _ => rfl)))
 (sr_retT (g := (fun x _ => x)) (xt_tup at_nil (eb := (eU (eU eI))) (k := fun _ => []) (fun _ => rfl) (fun _ => rfl)) (fun _ _ => ⟨rfl, rfl⟩))
 (sn_endT (w1 := (fun (s : (Int × Int × Unit)) => ([some (.v (eI s.1)), some (.v (eI s.2.1)), none, none, none, none, none] : FS))) (h := fun s => (s.1, s.2.1, ())) (fun _ => rfl))
 (sr_seqT (sn_setT (ea := (eL (eU eI))) (xt_lst (eb := (eL (eU eI))) (k := (fun x => [x.1])) (at_cons (xt_tup at_nil (eb := (eU eI)) (k := fun _ => []) (fun _ => rfl) (fun _ => rfl)) at_nil) (fun _ => rfl) (fun _ => rfl)) (w2 := (fun (s : (Int × Int × (List (List Int)) × Unit)) => ([some (.v (eI s.1)), some (.v (eI s.2.1)), some (.v ((eL (eU eI)) s.2.2.1)), none, none, none, none] : FS))) (h := fun s x => (s.1, s.2.1, x, ())) (fun _ _ => rfl))
 (sr_seqP (sn_frame (κ := (fun s : (Int × Int × (List (List Int)) × Unit) => (s.1, s.2.1, ()))) (μ := (fun s : (Int × Int × (List (List Int)) × Unit) => (s.2.2.1, ()))) (wv := fun (c161 : (Int × Int × Unit)) => (fun (s : ((List (List Int)) × Unit)) => ([some (.v (eI c161.1)), some (.v (eI c161.2.1)), some (.v ((eL (eU eI)) s.1)), none, none, none, none] : FS))) (wv1 := fun (c161 : (Int × Int × Unit)) => (fun (s : ((List (List Int)) × Unit)) => ([some (.v (eI c161.1)), some (.v (eI c161.2.1)), some (.v ((eL (eU eI)) s.1)), none, none, none, none] : FS))) (w2 := (fun (s : (Int × Int × (List (List Int)) × Unit)) => ([some (.v (eI s.1)), some (.v (eI s.2.1)), some (.v ((eL (eU eI)) s.2.2.1)), none, none, none, none] : FS))) (back := (fun (c161 : (Int × Int × Unit)) (m : ((List (List Int)) × Unit)) => (c161.1, c161.2.1, m.1, ()))) (fun _ => rfl) (fun _ _ => rfl) (fun c161 => ⟨_,
 (sn_for (ea := eI) (xp_irngT (xt_var (ea := eI) (g := fun s => c161.2.1) (fun _ => rfl))) (wt := (fun (s : (((List (List Int)) × Unit) × Int)) => ([some (.v (eI c161.1)), some (.v (eI c161.2.1)), some (.v ((eL (eU eI)) s.1.1)), some (.v (eI s.2)), none, none, none] : FS))) (fun _ _ => rfl)
 (sn_seqP (sn_setP (ea := (eL (eU eI))) (xp_lc2 (ea := (eU eI)) (eb := eI) (ec := (eU eI)) (wt := (fun (s : ((((List (List Int)) × Unit) × Int) × (List Int))) => ([some (.v (eI c161.1)), some (.v (eI c161.2.1)), some (.v ((eL (eU eI)) s.1.1.1)), some (.v (eI s.1.2)), none, some (.v ((eU eI) s.2)), none] : FS))) (wt1 := (fun (s : (((((List (List Int)) × Unit) × Int) × (List Int)) × Int)) => ([some (.v (eI c161.1)), some (.v (eI c161.2.1)), some (.v ((eL (eU eI)) s.1.1.1.1)), some (.v (eI s.1.1.2)), none, some (.v ((eU eI) s.1.2)), some (.v (eI s.2))] : FS))) (XT.p (xt_iseq (ea := (eL (eU eI))) (eb := (eU eI)) o_seqL (xt_var (ea := (eL (eU eI))) (g := fun s => s.1.1) (fun _ => rfl)))) (fun _ => rfl) (fun _ _ => rfl) (fun _ _ => rfl) (fun _ _ => rfl) (fun _ _ => rfl) (fun _ => rfl) (fun _ _ => rfl) (fun _ _ => rfl) (fun _ _ => rfl) (XT.p (xt_cst (ea := eB) (x := true) rfl)) (xp_irngT (xt_var (ea := eI) (g := fun s => c161.1) (fun _ => rfl))) (XT.p (xt_cst (ea := eB) (x := true) rfl)) (xp_binTT (ea := (eU eI)) (eb := (eU eI)) p_catU (xt_var (ea := (eU eI)) (g := fun s => s.1.2) (fun _ => rfl)) (xt_tup (eb := (eU eI)) (k := (fun x => [x.1])) (at_cons (xt_var (ea := eI) (g := fun s => s.2) (fun _ => rfl)) at_nil) (fun _ => rfl) (fun _ => rfl)))) (w2 := (fun (s : ((List (List Int)) × Int × (List (List Int)) × Unit)) => ([some (.v (eI c161.1)), some (.v (eI c161.2.1)), some (.v ((eL (eU eI)) s.1)), some (.v (eI s.2.1)), some (.v ((eL (eU eI)) s.2.2.1)), none, none] : FS))) (h := fun s x => (s.1.1, s.2, x, ())) (fun _ _ => rfl))
 (sn_seqT (sn_fgt (w1 := (fun (s : ((List (List Int)) × Unit)) => ([some (.v (eI c161.1)), some (.v (eI c161.2.1)), none, none, some (.v ((eL (eU eI)) s.1)), none, none] : FS))) (h := fun s => (s.2.2.1, ())) (fun _ => rfl))
 (sn_seqP (sn_setP (ea := (eL (eU eI))) (xp_lc (ea := (eU eI)) (eb := (eU eI)) (XT.p (xt_iseq (ea := (eL (eU eI))) (eb := (eU eI)) o_seqL (xt_var (ea := (eL (eU eI))) (g := fun s => s.1) (fun _ => rfl)))) (fun _ => rfl) (fun _ _ => rfl) (fun _ _ => rfl) (fun _ => rfl) (fun _ _ => rfl) (wt := (fun (s : (((List (List Int)) × Unit) × (List Int))) => ([some (.v (eI c161.1)), some (.v (eI c161.2.1)), none, none, some (.v ((eL (eU eI)) s.1.1)), some (.v ((eU eI) s.2)), none] : FS))) (xp_cmpPT (ea := eI) (eb := eI) (fun x y => le_some (o_le x y)) (xp_b1 (k := .max) (ea := (eL eI)) (eb := eI) (h := maxT eI) p_max (xp_callT (fd := fd_more_from) rfl rfl (fun _ => rfl) r_more_from_1 (at_cons (xt_tup (eb := (e2 eI (eU eI))) (k := (fun x => (x.1, x.2.1))) (at_cons (xt_var (ea := eI) (g := fun s => c161.1) (fun _ => rfl)) (at_cons (xt_var (ea := (eU eI)) (g := fun s => s.2) (fun _ => rfl)) at_nil)) (fun _ => rfl) (fun _ => rfl)) at_nil))) (xt_cst (ea := eI) (x := (0 : Int)) rfl)) (XT.p (xt_var (ea := (eU eI)) (g := fun s => s.2) (fun _ => rfl)))) (w2 := (fun (s : ((List (List Int)) × (List (List Int)) × Unit)) => ([some (.v (eI c161.1)), some (.v (eI c161.2.1)), some (.v ((eL (eU eI)) s.1)), none, some (.v ((eL (eU eI)) s.2.1)), none, none] : FS))) (h := fun s x => (x, s.1, ())) (fun _ _ => rfl))
 (sn_seqT (sn_fgt (w1 := (fun (s : ((List (List Int)) × Unit)) => ([some (.v (eI c161.1)), some (.v (eI c161.2.1)), some (.v ((eL (eU eI)) s.1)), none, none, none, none] : FS))) (h := fun s => (s.1, ())) (fun _ => rfl))
 (sn_endT (w1 := (fun (s : ((List (List Int)) × Unit)) => ([some (.v (eI c161.1)), some (.v (eI c161.2.1)), some (.v ((eL (eU eI)) s.1)), none, none, none, none] : FS))) (h := fun s => (s.1, ())) (fun _ => rfl)))))))⟩))
 (sr_seqT (sn_fgt (w1 := (fun (s : ((List (List Int)) × Unit)) => ([none, none, some (.v ((eL (eU eI)) s.1)), none, none, none, none] : FS))) (h := fun s => (s.2.2.1, ())) (fun _ => rfl))
 (sr_retT (g := (fun x _ => x)) (xt_toT (eb := (eU (eU eI))) (ea := (eL (eU eI))) o_toTL (xt_var (ea := (eL (eU eI))) (g := fun s => s.1) (fun _ => rfl))) (fun _ _ => ⟨rfl, rfl⟩)))))))
  exact rf_srE rfl rfl (fun _ _ => rfl) h rfl
def t_law_some_1 (p1 : (List Int)) (p2 : (List (List Int))) : Out ((List Int) × (List Int)) := (((t_law_roll_1 p1 ((List.length p2 : Nat) : Int) >>= fun r194 => Out.ok (r194.1, (r194.2, p2, ()))) >>= fun y195 => ((atG p2 y195.1) >>= fun z196 => Out.ok (z196, y195.2))) >>= fun q197 => Out.ok (q197.1, q197.2.1))
theorem r_law_some_1 : RC fd_law_some (eL eI) (ac (eL (eU eI)) a0) (eU eI) (fun c x => t_law_some_1 c x.1) := by
  have h : SR ⟨Φ_law_some, Γ⟩ (fun (s : ((List Int) × (List (List Int)) × Unit)) => ([some (.o ((eL eI) s.1)), some (.v ((eL (eU eI)) s.2.1))] : FS)) (fun (r : ((List Int) × (List Int))) fr d ŝ => fr = false ∧ d = (eU eI) r.1 ∧ readO ŝ 0 = some ((eL eI) r.2)) false is_law_some _ :=
 (sr_ret (g := (fun x s => (x, s.1))) (xg_idx (ea := (eL (eU eI))) (eb := eI) rfl p_atL (XT.g (xt_var (ea := (eL (eU eI))) (g := fun s => s.2.1) (fun _ => rfl))) (xg_callcT (ec := (eL eI)) (fd := fd_law_roll) rfl rfl (fun _ => rfl) r_law_roll_1 (g1 := fun s => s.1) (w2 := (fun (s : ((List Int) × (List (List Int)) × Unit)) => ([some (.o ((eL eI) s.1)), some (.v ((eL (eU eI)) s.2.1))] : FS))) (h := fun s z => (z, s.2.1, ())) (fun _ => rfl) (fun _ _ => rfl) (at_cons (xt_b1 (eb := eI) (ea := (eL (eU eI))) o_lenL (xt_var (ea := (eL (eU eI))) (g := fun s => s.2.1) (fun _ => rfl))) at_nil))) (fun _ _ => ⟨rfl, rfl, rfl⟩))
  exact rc_sr rfl rfl (fun _ _ => rfl) h (fun _ _ => rfl)
def t_is_tuple_of_1 (p1 : (List Int)) (p2 : Int) (p3 : Int) : Out Bool := (Out.ok (true && ((decide (p2 ≤ ((List.length p1 : Nat) : Int))) && (decide (((List.length p1 : Nat) : Int) ≤ p3)))))
theorem r_is_tuple_of_1 : RF fd_is_tuple_of (ac (eU eI) (ac eI (ac eI a0))) eB (fun x => t_is_tuple_of_1 x.1 x.2.1 x.2.2.1) := by
  have h : SR ⟨Φ_is_tuple_of, Γ⟩ (fun (s : ((List Int) × Int × Int × Unit)) => ([some (.v ((eU eI) s.1)), some (.v (eI s.2.1)), some (.v (eI s.2.2.1))] : FS)) (fun (r : Bool) fr d _ => fr = false ∧ d = eB r) false is_is_tuple_of _ :=
 (sr_retT (g := (fun x _ => x)) (xt_and (xt_isi (ea := (eU eI)) (h := fun _ => true) (fun _ => rfl) (xt_var (ea := (eU eI)) (g := fun s => s.1) (fun _ => rfl))) (xt_chain (ea := eI) (eb := eI) (ec := eI) o_le o_le (xt_var (ea := eI) (g := fun s => s.2.1) (fun _ => rfl)) (xt_b1 (eb := eI) (ea := (eU eI)) o_lenU (xt_var (ea := (eU eI)) (g := fun s => s.1) (fun _ => rfl))) (xt_var (ea := eI) (g := fun s => s.2.2.1) (fun _ => rfl)))) (fun _ _ => ⟨rfl, rfl⟩))
  exact rf_srE rfl rfl (fun _ _ => rfl) h rfl
def t_fits_places_1 (p1 : Int) (p2 : (List Int)) : Out Bool := ((((t_is_tuple_of_1 p2 (0 : Int) p1) >>= fun x231 => Out.ok (!x231)) >>= fun x236 => (if x236 = true then Out.ok true else (((lcQ (fun (i233 : Int) => (t_is_whole_1 i233 (0 : Int) (p1 - (1 : Int)))) p2 >>= fun r => fits r) >>= fun x234 => Out.ok (List.all x234 id)) >>= fun x235 => Out.ok (!x235)))) >>= fun x239 => if x239 = true then (Out.ok false) else ((lensX ((eU eI) p2)) >>= fun x238 => Out.ok (eqT x238 ((List.length p2 : Nat) : Int))))
theorem r_fits_places_1 : RF fd_fits_places (ac eI (ac (eU eI) a0)) eB (fun x => t_fits_places_1 x.1 x.2.1) := by
  have h : SR ⟨Φ_fits_places, Γ⟩ (fun (s : (Int × (List Int) × Unit)) => ([some (.v (eI s.1)), some (.v ((eU eI) s.2.1)), none] : FS)) (fun (r : Bool) fr d _ => fr = false ∧ d = eB r) false is_fits_places _ :=
 (sr_ifPk (xp_or (xp_not (xp_callT (fd := fd_is_tuple_of) rfl rfl (fun _ => rfl) r_is_tuple_of_1 (at_cons (xt_var (ea := (eU eI)) (g := fun s => s.2.1) (fun _ => rfl)) (at_cons (xt_cst (ea := eI) (x := (0 : Int)) rfl) (at_cons (xt_var (ea := eI) (g := fun s => s.1) (fun _ => rfl)) at_nil))))) (xp_not (xp_b1 (eb := eB) (ea := (eL eB)) (fun x => le_some (o_all x)) (xp_lc1 (ea := eI) (eb := eB) (XT.p (xt_iseq (ea := (eU eI)) (eb := eI) o_seqU (xt_var (ea := (eU eI)) (g := fun s => s.2.1) (fun _ => rfl)))) (fun _ => rfl) (fun _ _ => rfl) (fun _ _ => rfl) (fun _ => rfl) (fun _ _ => rfl) (wt := (fun (s : ((Int × (List Int) × Unit) × Int)) => ([some (.v (eI s.1.1)), some (.v ((eU eI) s.1.2.1)), some (.v (eI s.2))] : FS))) (xp_callT (fd := fd_is_whole) rfl rfl (fun _ => rfl) r_is_whole_1 (at_cons (xt_var (ea := eI) (g := fun s => s.2) (fun _ => rfl)) (at_cons (xt_cst (ea := eI) (x := (0 : Int)) rfl) (at_cons (xt_bin (ea := eI) (eb := eI) o_sub (xt_var (ea := eI) (g := fun s => s.1.1) (fun _ => rfl)) (xt_cst (ea := eI) (x := (1 : Int)) rfl)) at_nil))))))))
 (sr_retT (g := (fun x _ => x)) (xt_cst (ea := eB) (x := false) rfl) (fun _ _ => ⟨rfl, rfl⟩))
 (sn_endT (w1 := (fun (s : (Int × (List Int) × Unit)) => ([some (.v (eI s.1)), some (.v ((eU eI) s.2.1)), none] : FS))) (h := fun s => (s.1, s.2.1, ())) (fun _ => rfl))
 (sr_seqT (sn_fgt (w1 := (fun (s : ((List Int) × Unit)) => ([none, some (.v ((eU eI) s.1)), none] : FS))) (h := fun s => (s.2.1, ())) (fun _ => rfl))
 (sr_retV (xp_cmpPT (ea := eI) (eb := eI) (fun x y => le_some ((o_eq q_int) x y)) (xp_lensT (ea := (eU eI)) (xt_var (ea := (eU eI)) (g := fun s => s.1) (fun _ => rfl))) (xt_b1 (eb := eI) (ea := (eU eI)) o_lenU (xt_var (ea := (eU eI)) (g := fun s => s.1) (fun _ => rfl)))) (fun _ _ => ⟨rfl, rfl⟩))))
  exact rf_srE rfl rfl (fun _ _ => rfl) h rfl
def t_need_places_1 (p1 : Int) (p2 : (List Int)) : Out Unit := (((t_is_whole_1 p1 (1 : Int) (12 : Int)) >>= fun x230 => Out.ok (!x230)) >>= fun x233 => if x233 = true then (Out.err "InvalidNumber" .none) else (((t_fits_places_1 p1 p2) >>= fun x231 => Out.ok (!x231)) >>= fun x232 => if x232 = true then (Out.err "InvalidSlots" .none) else (Out.ok ())))
theorem r_need_places_1 : RF fd_need_places (ac eI (ac (eU eI) a0)) eN (fun x => t_need_places_1 x.1 x.2.1) := by
  have h : SR ⟨Φ_need_places, Γ⟩ (fun (s : (Int × (List Int) × Unit)) => ([some (.v (eI s.1)), some (.v ((eU eI) s.2.1))] : FS)) (fun (r : Unit) fr d _ => fr = false ∧ d = eN r) true is_need_places _ :=
 (sr_ifPk (xp_not (xp_callT (fd := fd_is_whole) rfl rfl (fun _ => rfl) r_is_whole_1 (at_cons (xt_var (ea := eI) (g := fun s => s.1) (fun _ => rfl)) (at_cons (xt_cst (ea := eI) (x := (1 : Int)) rfl) (at_cons (xt_glo (ea := eI) (v := (12 : Int)) g_SLOTS) at_nil)))))
 (sr_raise)
 (sn_endT (w1 := (fun (s : (Int × (List Int) × Unit)) => ([some (.v (eI s.1)), some (.v ((eU eI) s.2.1))] : FS))) (h := fun s => (s.1, s.2.1, ())) (fun _ => rfl))
 (sr_ifPk (xp_not (xp_callT (fd := fd_fits_places) rfl rfl (fun _ => rfl) r_fits_places_1 (at_cons (xt_var (ea := eI) (g := fun s => s.1) (fun _ => rfl)) (at_cons (xt_var (ea := (eU eI)) (g := fun s => s.2.1) (fun _ => rfl)) at_nil))))
 (sr_raise)
 (sn_endT (w1 := (fun (s : (Int × (List Int) × Unit)) => ([some (.v (eI s.1)), some (.v ((eU eI) s.2.1))] : FS))) (h := fun s => (s.1, s.2.1, ())) (fun _ => rfl))
 (sr_seqT (sn_fgt (w1 := (fun (s : Unit) => ([none, none] : FS))) (h := fun s => ()) (fun _ => rfl))
 (sr_end (g := (fun _ => ())) (fun _ => ⟨rfl, rfl⟩)))))
  exact rf_srE rfl rfl (fun _ _ => rfl) h rfl
def t_runs_ahead_1 (p1 : Int) (p2 : (List Int)) : Out (List Int) := let taken_238 : (List (Int × Bool)) := ([] : (List (Int × Bool)));
 let found_239 : (List Int) := ([] : (List Int));
 ((forN (fun (i241 : Int) (t242 : ((List (Int × Bool)) × (List Int) × Unit)) =>
 ((putG t242.1 i241 true >>= fun l244 => Out.ok (l244, ())) >>= fun m245 =>
 let begin_246 : Int := i241;
 ((whN (fun (t248 : (Int × Unit)) => (Out.ok ((dGet (t248.1 - (1 : Int)) m245.1).isSome))) (fun (t248 : (Int × Unit)) =>
 let begin_249 : Int := (t248.1 - (1 : Int));
 (Out.ok (begin_249, ()))) 1000 (begin_246, ())) >>= fun m250 =>
 (((appG t242.2.1 ((i241 - m250.1) + (1 : Int)) >>= fun l253 => Out.ok ((), (l253, ()))) >>= fun q254 => Out.ok q254.2) >>= fun m255 =>
 (Out.ok (m245.1, m255.1, ())))))) p2 (taken_238, found_239, ())) >>= fun m257 =>
 ((Out.ok (m257.2.1, (m257.2.1, ()))) >>= fun q258 => Out.ok q258.1))
theorem r_runs_ahead_1 : RF fd_runs_ahead (ac eI (ac (eU eI) a0)) (eL eI) (fun x => t_runs_ahead_1 x.1 x.2.1) := by
  have h : SR ⟨Φ_runs_ahead, Γ⟩ (fun (s : (Int × (List Int) × Unit)) => ([some (.v (eI s.1)), some (.v ((eU eI) s.2.1)), none, none, none, none] : FS)) (fun (r : (List Int)) fr d _ => fr = false ∧ d = (eL eI) r) false is_runs_ahead _ :=
 (sr_seqT (sn_fgt (w1 := (fun (s : ((List Int) × Unit)) => ([none, some (.v ((eU eI) s.1)), none, none, none, none] : FS))) (h := fun s => (s.2.1, ())) (fun _ => rfl))
 (sr_seqT (sn_parT (es := (ac (eD eI eB) (ac (eL eI) a0))) (at_cons (xt_emp (ea := eB) (ek := eI)) (at_cons (xt_lst at_nil (eb := (eL eI)) (k := fun _ => []) (fun _ => rfl) (fun _ => rfl)) at_nil)) (w2 := (fun (s : ((List Int) × (List (Int × Bool)) × (List Int) × Unit)) => ([none, some (.v ((eU eI) s.1)), some (.o ((eD eI eB) s.2.1)), some (.o ((eL eI) s.2.2.1)), none, none] : FS))) (h := fun s x => (s.1, x.1, x.2.1, ())) (fun _ _ => rfl))
 (sr_seqP (sn_frame (κ := (fun s : ((List Int) × (List (Int × Bool)) × (List Int) × Unit) => (s.1, ()))) (μ := (fun s : ((List Int) × (List (Int × Bool)) × (List Int) × Unit) => (s.2.1, s.2.2.1, ()))) (wv := fun (c240 : ((List Int) × Unit)) => (fun (s : ((List (Int × Bool)) × (List Int) × Unit)) => ([none, some (.v ((eU eI) c240.1)), some (.o ((eD eI eB) s.1)), some (.o ((eL eI) s.2.1)), none, none] : FS))) (wv1 := fun (c240 : ((List Int) × Unit)) => (fun (s : ((List (Int × Bool)) × (List Int) × Unit)) => ([none, some (.v ((eU eI) c240.1)), some (.o ((eD eI eB) s.1)), some (.o ((eL eI) s.2.1)), none, none] : FS))) (w2 := (fun (s : ((List Int) × (List (Int × Bool)) × (List Int) × Unit)) => ([none, some (.v ((eU eI) s.1)), some (.o ((eD eI eB) s.2.1)), some (.o ((eL eI) s.2.2.1)), none, none] : FS))) (back := (fun (c240 : ((List Int) × Unit)) (m : ((List (Int × Bool)) × (List Int) × Unit)) => (c240.1, m.1, m.2.1, ()))) (fun _ => rfl) (fun _ _ => rfl) (fun c240 => ⟨_,
 (sn_forT (ea := eI) (xt_iseq (ea := (eU eI)) (eb := eI) o_seqU (xt_var (ea := (eU eI)) (g := fun s => c240.1) (fun _ => rfl))) (wt := (fun (s : (((List (Int × Bool)) × (List Int) × Unit) × Int)) => ([none, some (.v ((eU eI) c240.1)), some (.o ((eD eI eB) s.1.1)), some (.o ((eL eI) s.1.2.1)), some (.v (eI s.2)), none] : FS))) (fun _ _ => rfl)
 (sn_seqP (sn_frame (κ := (fun s : (((List (Int × Bool)) × (List Int) × Unit) × Int) => (s.1.2.1, s.2, ()))) (μ := (fun s : (((List (Int × Bool)) × (List Int) × Unit) × Int) => (s.1.1, ()))) (wv := fun (c243 : ((List Int) × Int × Unit)) => (fun (s : ((List (Int × Bool)) × Unit)) => ([none, some (.v ((eU eI) c240.1)), some (.o ((eD eI eB) s.1)), some (.o ((eL eI) c243.1)), some (.v (eI c243.2.1)), none] : FS))) (wv1 := fun (c243 : ((List Int) × Int × Unit)) => (fun (s : ((List (Int × Bool)) × Unit)) => ([none, some (.v ((eU eI) c240.1)), some (.o ((eD eI eB) s.1)), some (.o ((eL eI) c243.1)), some (.v (eI c243.2.1)), none] : FS))) (w2 := (fun (s : ((List (Int × Bool)) × (List Int) × Int × Unit)) => ([none, some (.v ((eU eI) c240.1)), some (.o ((eD eI eB) s.1)), some (.o ((eL eI) s.2.1)), some (.v (eI s.2.2.1)), none] : FS))) (back := (fun (c243 : ((List Int) × Int × Unit)) (m : ((List (Int × Bool)) × Unit)) => (m.1, c243.1, c243.2.1, ()))) (fun _ => rfl) (fun _ _ => rfl) (fun c243 => ⟨_,
 (sn_putTT (ea := eB) (ek := eI) q_int keys_I (xt_cst (ea := eB) (x := true) rfl) (xt_var (ea := eI) (g := fun s => c243.2.1) (fun _ => rfl)) (g := fun s => s.1) (w2 := (fun (s : ((List (Int × Bool)) × Unit)) => ([none, some (.v ((eU eI) c240.1)), some (.o ((eD eI eB) s.1)), some (.o ((eL eI) c243.1)), some (.v (eI c243.2.1)), none] : FS))) (h := fun s z => (z, ())) (fun _ => rfl) (fun _ _ => rfl))⟩))
 (sn_seqT (sn_setT (ea := eI) (xt_var (ea := eI) (g := fun s => s.2.2.1) (fun _ => rfl)) (w2 := (fun (s : ((List (Int × Bool)) × (List Int) × Int × Int × Unit)) => ([none, some (.v ((eU eI) c240.1)), some (.o ((eD eI eB) s.1)), some (.o ((eL eI) s.2.1)), some (.v (eI s.2.2.1)), some (.v (eI s.2.2.2.1))] : FS))) (h := fun s x => (s.1, s.2.1, s.2.2.1, x, ())) (fun _ _ => rfl))
 (sn_seqP (sn_frame (κ := (fun s : ((List (Int × Bool)) × (List Int) × Int × Int × Unit) => (s.1, s.2.1, s.2.2.1, ()))) (μ := (fun s : ((List (Int × Bool)) × (List Int) × Int × Int × Unit) => (s.2.2.2.1, ()))) (wv := fun (c247 : ((List (Int × Bool)) × (List Int) × Int × Unit)) => (fun (s : (Int × Unit)) => ([none, some (.v ((eU eI) c240.1)), some (.o ((eD eI eB) c247.1)), some (.o ((eL eI) c247.2.1)), some (.v (eI c247.2.2.1)), some (.v (eI s.1))] : FS))) (wv1 := fun (c247 : ((List (Int × Bool)) × (List Int) × Int × Unit)) => (fun (s : (Int × Unit)) => ([none, some (.v ((eU eI) c240.1)), some (.o ((eD eI eB) c247.1)), some (.o ((eL eI) c247.2.1)), some (.v (eI c247.2.2.1)), some (.v (eI s.1))] : FS))) (w2 := (fun (s : ((List (Int × Bool)) × (List Int) × Int × Int × Unit)) => ([none, some (.v ((eU eI) c240.1)), some (.o ((eD eI eB) s.1)), some (.o ((eL eI) s.2.1)), some (.v (eI s.2.2.1)), some (.v (eI s.2.2.2.1))] : FS))) (back := (fun (c247 : ((List (Int × Bool)) × (List Int) × Int × Unit)) (m : (Int × Unit)) => (c247.1, c247.2.1, c247.2.2.1, m.1, ()))) (fun _ => rfl) (fun _ _ => rfl) (fun c247 => ⟨_,
 (sn_whl (XT.p (xt_cmp (ea := eI) (eb := (eD eI eB)) o_inDI (xt_bin (ea := eI) (eb := eI) o_sub (xt_var (ea := eI) (g := fun s => s.1) (fun _ => rfl)) (xt_cst (ea := eI) (x := (1 : Int)) rfl)) (xt_bor (ea := (eD eI eB)) (g := fun s => c247.1) (fun _ => rfl))))
 (sn_seqT (sn_setT (ea := eI) (xt_bin (ea := eI) (eb := eI) o_sub (xt_var (ea := eI) (g := fun s => s.1) (fun _ => rfl)) (xt_cst (ea := eI) (x := (1 : Int)) rfl)) (w2 := (fun (s : (Int × Unit)) => ([none, some (.v ((eU eI) c240.1)), some (.o ((eD eI eB) c247.1)), some (.o ((eL eI) c247.2.1)), some (.v (eI c247.2.2.1)), some (.v (eI s.1))] : FS))) (h := fun s x => (x, ())) (fun _ _ => rfl))
 (sn_endT (w1 := (fun (s : (Int × Unit)) => ([none, some (.v ((eU eI) c240.1)), some (.o ((eD eI eB) c247.1)), some (.o ((eL eI) c247.2.1)), some (.v (eI c247.2.2.1)), some (.v (eI s.1))] : FS))) (h := fun s => (s.1, ())) (fun _ => rfl))))⟩))
 (sn_seqP (sn_frame (κ := (fun s : ((List (Int × Bool)) × (List Int) × Int × Int × Unit) => (s.1, s.2.2.1, s.2.2.2.1, ()))) (μ := (fun s : ((List (Int × Bool)) × (List Int) × Int × Int × Unit) => (s.2.1, ()))) (wv := fun (c252 : ((List (Int × Bool)) × Int × Int × Unit)) => (fun (s : ((List Int) × Unit)) => ([none, some (.v ((eU eI) c240.1)), some (.o ((eD eI eB) c252.1)), some (.o ((eL eI) s.1)), some (.v (eI c252.2.1)), some (.v (eI c252.2.2.1))] : FS))) (wv1 := fun (c252 : ((List (Int × Bool)) × Int × Int × Unit)) => (fun (s : ((List Int) × Unit)) => ([none, some (.v ((eU eI) c240.1)), some (.o ((eD eI eB) c252.1)), some (.o ((eL eI) s.1)), some (.v (eI c252.2.1)), some (.v (eI c252.2.2.1))] : FS))) (w2 := (fun (s : ((List (Int × Bool)) × (List Int) × Int × Int × Unit)) => ([none, some (.v ((eU eI) c240.1)), some (.o ((eD eI eB) s.1)), some (.o ((eL eI) s.2.1)), some (.v (eI s.2.2.1)), some (.v (eI s.2.2.2.1))] : FS))) (back := (fun (c252 : ((List (Int × Bool)) × Int × Int × Unit)) (m : ((List Int) × Unit)) => (c252.1, m.1, c252.2.1, c252.2.2.1, ()))) (fun _ => rfl) (fun _ _ => rfl) (fun c252 => ⟨_,
 (sn_ex (xg_appT (ea := eI) (g1 := fun s => s.1) (w2 := (fun (s : ((List Int) × Unit)) => ([none, some (.v ((eU eI) c240.1)), some (.o ((eD eI eB) c252.1)), some (.o ((eL eI) s.1)), some (.v (eI c252.2.1)), some (.v (eI c252.2.2.1))] : FS))) (h := fun s z => (z, ())) (fun _ => rfl) (fun _ _ => rfl) (xt_bin (ea := eI) (eb := eI) o_add (xt_bin (ea := eI) (eb := eI) o_sub (xt_var (ea := eI) (g := fun s => c252.2.1) (fun _ => rfl)) (xt_var (ea := eI) (g := fun s => c252.2.2.1) (fun _ => rfl))) (xt_cst (ea := eI) (x := (1 : Int)) rfl))))⟩))
 (sn_seqT (sn_fgt (w1 := (fun (s : ((List (Int × Bool)) × (List Int) × Unit)) => ([none, some (.v ((eU eI) c240.1)), some (.o ((eD eI eB) s.1)), some (.o ((eL eI) s.2.1)), none, none] : FS))) (h := fun s => (s.1, s.2.1, ())) (fun _ => rfl))
 (sn_endT (w1 := (fun (s : ((List (Int × Bool)) × (List Int) × Unit)) => ([none, some (.v ((eU eI) c240.1)), some (.o ((eD eI eB) s.1)), some (.o ((eL eI) s.2.1)), none, none] : FS))) (h := fun s => (s.1, s.2.1, ())) (fun _ => rfl))))))))⟩))
 (sr_seqT (sn_fgt (w1 := (fun (s : ((List Int) × Unit)) => ([none, none, none, some (.o ((eL eI) s.1)), none, none] : FS))) (h := fun s => (s.2.2.1, ())) (fun _ => rfl))
 (sr_ret (g := (fun x _ => x)) (xg_esc (ea := (eL eI)) (w1 := (fun (s : ((List Int) × Unit)) => ([none, none, none, some (.v ((eL eI) s.1)), none, none] : FS))) (g := fun s => s.1) (h := fun s => s) (fun _ => rfl)) (fun _ _ => ⟨rfl, rfl⟩))))))
  exact rf_srE rfl rfl (fun _ _ => rfl) h rfl
def t_count_for_1 (p1 : Int) (p2 : (List Int)) : Out Int := ((t_need_places_1 p1 p2) >>= fun (_ : Unit) =>
 let found_231 : Int := (1 : Int);
 ((((t_runs_ahead_1 p1 p2) >>= fun x233 => Out.ok x233) >>= fun x238 => (forN (fun (i234 : Int) (t235 : (Int × Unit)) =>
 ((mulG t235.1 i234) >>= fun found_236 =>
 (Out.ok (found_236, ())))) x238 (found_231, ()))) >>= fun m239 =>
 (Out.ok m239.1)))
theorem r_count_for_1 : RF fd_count_for (ac eI (ac (eU eI) a0)) eI (fun x => t_count_for_1 x.1 x.2.1) := by
  have h : SR ⟨Φ_count_for, Γ⟩ (fun (s : (Int × (List Int) × Unit)) => ([some (.v (eI s.1)), some (.v ((eU eI) s.2.1)), none, none] : FS)) (fun (r : Int) fr d _ => fr = false ∧ d = eI r) false is_count_for _ :=
 (sr_seqP (sn_exQ (xp_callT (fd := fd_need_places) rfl rfl (fun _ => rfl) r_need_places_1 (at_cons (xt_var (ea := eI) (g := fun s => s.1) (fun _ => rfl)) (at_cons (xt_var (ea := (eU eI)) (g := fun s => s.2.1) (fun _ => rfl)) at_nil))))
 (sr_seqT (sn_setT (ea := eI) (xt_cst (ea := eI) (x := (1 : Int)) rfl) (w2 := (fun (s : (Int × (List Int) × Int × Unit)) => ([some (.v (eI s.1)), some (.v ((eU eI) s.2.1)), some (.v (eI s.2.2.1)), none] : FS))) (h := fun s x => (s.1, s.2.1, x, ())) (fun _ _ => rfl))
 (sr_seqP (sn_frame (κ := (fun s : (Int × (List Int) × Int × Unit) => (s.1, s.2.1, ()))) (μ := (fun s : (Int × (List Int) × Int × Unit) => (s.2.2.1, ()))) (wv := fun (c232 : (Int × (List Int) × Unit)) => (fun (s : (Int × Unit)) => ([some (.v (eI c232.1)), some (.v ((eU eI) c232.2.1)), some (.v (eI s.1)), none] : FS))) (wv1 := fun (c232 : (Int × (List Int) × Unit)) => (fun (s : (Int × Unit)) => ([some (.v (eI c232.1)), some (.v ((eU eI) c232.2.1)), some (.v (eI s.1)), none] : FS))) (w2 := (fun (s : (Int × (List Int) × Int × Unit)) => ([some (.v (eI s.1)), some (.v ((eU eI) s.2.1)), some (.v (eI s.2.2.1)), none] : FS))) (back := (fun (c232 : (Int × (List Int) × Unit)) (m : (Int × Unit)) => (c232.1, c232.2.1, m.1, ()))) (fun _ => rfl) (fun _ _ => rfl) (fun c232 => ⟨_,
 (sn_for (ea := eI) (xp_iseq (ea := (eL eI)) (eb := eI) (fun x => le_some (o_seqL x)) (xp_callT (fd := fd_runs_ahead) rfl rfl (fun _ => rfl) r_runs_ahead_1 (at_cons (xt_var (ea := eI) (g := fun s => c232.1) (fun _ => rfl)) (at_cons (xt_var (ea := (eU eI)) (g := fun s => c232.2.1) (fun _ => rfl)) at_nil)))) (wt := (fun (s : ((Int × Unit) × Int)) => ([some (.v (eI c232.1)), some (.v ((eU eI) c232.2.1)), some (.v (eI s.1.1)), some (.v (eI s.2))] : FS))) (fun _ _ => rfl)
 (sn_seqP (sn_setP (ea := eI) (xp_binTT (ea := eI) (eb := eI) p_mul (xt_var (ea := eI) (g := fun s => s.1.1) (fun _ => rfl)) (xt_var (ea := eI) (g := fun s => s.2) (fun _ => rfl))) (w2 := (fun (s : (Int × Int × Unit)) => ([some (.v (eI c232.1)), some (.v ((eU eI) c232.2.1)), some (.v (eI s.1)), some (.v (eI s.2.1))] : FS))) (h := fun s x => (x, s.2, ())) (fun _ _ => rfl))
 (sn_seqT (sn_fgt (w1 := (fun (s : (Int × Unit)) => ([some (.v (eI c232.1)), some (.v ((eU eI) c232.2.1)), some (.v (eI s.1)), none] : FS))) (h := fun s => (s.1, ())) (fun _ => rfl))
 (sn_endT (w1 := (fun (s : (Int × Unit)) => ([some (.v (eI c232.1)), some (.v ((eU eI) c232.2.1)), some (.v (eI s.1)), none] : FS))) (h := fun s => (s.1, ())) (fun _ => rfl)))))⟩))
 (sr_seqT (sn_fgt (w1 := (fun (s : (Int × Unit)) => ([none, none, some (.v (eI s.1)), none] : FS))) (h := fun s => (s.2.2.1, ())) (fun _ => rfl))
 (sr_retT (g := (fun x _ => x)) (xt_var (ea := eI) (g := fun s => s.1) (fun _ => rfl)) (fun _ _ => ⟨rfl, rfl⟩))))))
  exact rf_srE rfl rfl (fun _ _ => rfl) h rfl
def t_first_for_1 (p1 : Int) (p2 : (List Int)) : Out (List Int) := ((t_need_places_1 p1 p2) >>= fun (_ : Unit) =>
 ((((t_runs_ahead_1 p1 p2) >>= fun x241 => Out.ok (List.zip p2 x241)) >>= fun x244 => (fits (x244.map fun (i243 : (Int × Int)) => ((i243.1 - i243.2) + (1 : Int))))) >>= fun x245 => Out.ok x245))
theorem r_first_for_1 : RF fd_first_for (ac eI (ac (eU eI) a0)) (eU eI) (fun x => t_first_for_1 x.1 x.2.1) := by
  have h : SR ⟨Φ_first_for, Γ⟩ (fun (s : (Int × (List Int) × Unit)) => ([some (.v (eI s.1)), some (.v ((eU eI) s.2.1)), none, none] : FS)) (fun (r : (List Int)) fr d _ => fr = false ∧ d = (eU eI) r) false is_first_for _ :=
 (sr_seqP (sn_exQ (xp_callT (fd := fd_need_places) rfl rfl (fun _ => rfl) r_need_places_1 (at_cons (xt_var (ea := eI) (g := fun s => s.1) (fun _ => rfl)) (at_cons (xt_var (ea := (eU eI)) (g := fun s => s.2.1) (fun _ => rfl)) at_nil))))
 (sr_retV (xp_toT (eb := (eU eI)) (ea := (eL eI)) (fun x => le_some (o_toTL x)) (xt_lc1 (ea := (e2 eI eI)) (eb := eI) (xp_izipTP (ea := (eU eI)) (eb := (eL eI)) (ec := (eL (e2 eI eI))) (fun x y => le_some ((fun x y => o_zip (isSeq_U x) (isSeq_L y)) x y)) (xt_var (ea := (eU eI)) (g := fun s => s.2.1) (fun _ => rfl)) (xp_callT (fd := fd_runs_ahead) rfl rfl (fun _ => rfl) r_runs_ahead_1 (at_cons (xt_var (ea := eI) (g := fun s => s.1) (fun _ => rfl)) (at_cons (xt_var (ea := (eU eI)) (g := fun s => s.2.1) (fun _ => rfl)) at_nil)))) (fun _ => rfl) (fun _ _ => rfl) (fun _ _ => rfl) (fun _ => rfl) (fun _ _ => rfl) (wt := (fun (s : ((Int × (List Int) × Unit) × (Int × Int))) => ([some (.v (eI s.1.1)), some (.v ((eU eI) s.1.2.1)), some (.v (eI s.2.1)), some (.v (eI s.2.2))] : FS))) (xt_bin (ea := eI) (eb := eI) o_add (xt_bin (ea := eI) (eb := eI) o_sub (xt_var (ea := eI) (g := fun s => s.2.1) (fun _ => rfl)) (xt_var (ea := eI) (g := fun s => s.2.2) (fun _ => rfl))) (xt_cst (ea := eI) (x := (1 : Int)) rfl)))) (fun _ _ => ⟨rfl, rfl⟩)))
  exact rf_srE rfl rfl (fun _ _ => rfl) h rfl
def t_most_steps_1 (p1 : Int) (p2 : Int) : Out (Int × (List Int)) := ((t_need_counts_1 p1 p2) >>= fun (_ : Unit) =>
 (if (decide (p1 < p2)) = true then (Out.err "InvalidNumber" .none) else ((((mulG p2 (p2 - (1 : Int))) >>= fun x268 => Out.ok (x268 / 2)) >>= fun x272 => (((repG [(0 : Int)] p2) >>= fun x270 => Out.ok (x270, ())) >>= fun y271 => Out.ok (x272, y271))) >>= fun x273 => Out.ok ((fun x => (x.1, x.2.1)) x273))))
theorem r_most_steps_1 : RF fd_most_steps (ac eI (ac eI a0)) (e2 eI (eU eI)) (fun x => t_most_steps_1 x.1 x.2.1) := by
  have h : SR ⟨Φ_most_steps, Γ⟩ (fun (s : (Int × Int × Unit)) => ([some (.v (eI s.1)), some (.v (eI s.2.1))] : FS)) (fun (r : (Int × (List Int))) fr d _ => fr = false ∧ d = (e2 eI (eU eI)) r) false is_most_steps _ :=
 (sr_seqP (sn_exQ (xp_callT (fd := fd_need_counts) rfl rfl (fun _ => rfl) r_need_counts_1 (at_cons (xt_var (ea := eI) (g := fun s => s.1) (fun _ => rfl)) (at_cons (xt_var (ea := eI) (g := fun s => s.2.1) (fun _ => rfl)) at_nil))))
 (sr_ifTk (xt_cmp (ea := eI) (eb := eI) o_gt (xt_var (ea := eI) (g := fun s => s.2.1) (fun _ => rfl)) (xt_var (ea := eI) (g := fun s => s.1) (fun _ => rfl)))
 (sr_raise)
 (sn_endT (w1 := (fun (s : (Int × Int × Unit)) => ([some (.v (eI s.1)), some (.v (eI s.2.1))] : FS))) (h := fun s => (s.1, s.2.1, ())) (fun _ => rfl))
 (sr_seqT (sn_fgt (w1 := (fun (s : (Int × Unit)) => ([none, some (.v (eI s.1))] : FS))) (h := fun s => (s.2.1, ())) (fun _ => rfl))
 (sr_retV (xp_tup (eb := (e2 eI (eU eI))) (k := (fun x => (x.1, x.2.1))) (ap_cons (xp_bink (ea := eI) (fun x => le_some ((o_fdivc 2 (by decide)) x)) (xp_binTT (ea := eI) (eb := eI) p_mul (xt_var (ea := eI) (g := fun s => s.1) (fun _ => rfl)) (xt_bin (ea := eI) (eb := eI) o_sub (xt_var (ea := eI) (g := fun s => s.1) (fun _ => rfl)) (xt_cst (ea := eI) (x := (1 : Int)) rfl)))) (ap_consP (xp_binTT (ea := (eU eI)) (eb := eI) p_repU (xt_tup (eb := (eU eI)) (k := (fun x => [x.1])) (at_cons (xt_cst (ea := eI) (x := (0 : Int)) rfl) at_nil) (fun _ => rfl) (fun _ => rfl)) (xt_var (ea := eI) (g := fun s => s.1) (fun _ => rfl))) at_nil)) (fun _ => rfl) (fun _ => rfl)) (fun _ _ => ⟨rfl, rfl⟩)))))
  exact rf_srE rfl rfl (fun _ _ => rfl) h rfl
def t_law_turned_1 (p1 : (List Int)) (p2 : (List Int)) : Out ((List Int) × (List Int)) := let left_314 : (List Int) := p2;
 let found_315 : (List Int) := ([] : (List Int));
 (((rng0 ((List.length left_314 : Nat) : Int)) >>= fun x333 => (forN (fun (i317 : Int) (t318 : ((List Int) × (List Int) × (List Int) × Unit)) =>
 (((((t_law_roll_1 t318.1 ((List.length t318.2.1 : Nat) : Int) >>= fun r326 => Out.ok (r326.1, (r326.2, t318.2.1, t318.2.2.1, ()))) >>= fun q327 => (popG q327.2.2.1 q327.1 >>= fun x325 => Out.ok (x325.1, (q327.2.1, x325.2, q327.2.2.2.1, ())))) >>= fun q329 => appG q329.2.2.2.1 q329.1 >>= fun l328 => Out.ok ((), (q329.2.1, q329.2.2.1, l328, ()))) >>= fun q330 => Out.ok q330.2) >>= fun m331 =>
 (Out.ok (m331.1, m331.2.1, m331.2.2.1, ())))) x333 (p1, left_314, found_315, ()))) >>= fun m334 =>
 (Out.ok (m334.2.2.1, m334.1)))
theorem r_law_turned_1 : RC fd_law_turned (eL eI) (ac (eL eI) a0) (eU eI) (fun c x => t_law_turned_1 c x.1) := by
  have h : SR ⟨Φ_law_turned, Γ⟩ (fun (s : ((List Int) × (List Int) × Unit)) => ([some (.o ((eL eI) s.1)), some (.v ((eL eI) s.2.1)), none, none, none] : FS)) (fun (r : ((List Int) × (List Int))) fr d ŝ => fr = false ∧ d = (eU eI) r.1 ∧ readO ŝ 0 = some ((eL eI) r.2)) false is_law_turned _ :=
 (sr_seqT (sn_parT (es := (ac (eL eI) (ac (eL eI) a0))) (at_cons (xt_toL (eb := (eL eI)) (ea := (eL eI)) o_toLL (xt_var (ea := (eL eI)) (g := fun s => s.2.1) (fun _ => rfl))) (at_cons (xt_lst at_nil (eb := (eL eI)) (k := fun _ => []) (fun _ => rfl) (fun _ => rfl)) at_nil)) (w2 := (fun (s : ((List Int) × (List Int) × (List Int) × (List Int) × Unit)) => ([some (.o ((eL eI) s.1)), some (.v ((eL eI) s.2.1)), some (.o ((eL eI) s.2.2.1)), some (.o ((eL eI) s.2.2.2.1)), none] : FS))) (h := fun s x => (s.1, s.2.1, x.1, x.2.1, ())) (fun _ _ => rfl))
 (sr_seqT (sn_fgt (w1 := (fun (s : ((List Int) × (List Int) × (List Int) × Unit)) => ([some (.o ((eL eI) s.1)), none, some (.o ((eL eI) s.2.1)), some (.o ((eL eI) s.2.2.1)), none] : FS))) (h := fun s => (s.1, s.2.2.1, s.2.2.2.1, ())) (fun _ => rfl))
 (sr_seqP (sn_frame (κ := (fun s : ((List Int) × (List Int) × (List Int) × Unit) => ())) (μ := (fun s : ((List Int) × (List Int) × (List Int) × Unit) => (s.1, s.2.1, s.2.2.1, ()))) (wv := fun (c316 : Unit) => (fun (s : ((List Int) × (List Int) × (List Int) × Unit)) => ([some (.o ((eL eI) s.1)), none, some (.o ((eL eI) s.2.1)), some (.o ((eL eI) s.2.2.1)), none] : FS))) (wv1 := fun (c316 : Unit) => (fun (s : ((List Int) × (List Int) × (List Int) × Unit)) => ([some (.o ((eL eI) s.1)), none, some (.o ((eL eI) s.2.1)), some (.o ((eL eI) s.2.2.1)), none] : FS))) (w2 := (fun (s : ((List Int) × (List Int) × (List Int) × Unit)) => ([some (.o ((eL eI) s.1)), none, some (.o ((eL eI) s.2.1)), some (.o ((eL eI) s.2.2.1)), none] : FS))) (back := (fun (c316 : Unit) (m : ((List Int) × (List Int) × (List Int) × Unit)) => (m.1, m.2.1, m.2.2.1, ()))) (fun _ => rfl) (fun _ _ => rfl) (fun c316 => ⟨_,
 (sn_for (ea := eI) (xp_irngT (xt_b1 (eb := eI) (ea := (eL eI)) o_lenL (xt_bor (ea := (eL eI)) (g := fun s => s.2.1) (fun _ => rfl)))) (wt := (fun (s : (((List Int) × (List Int) × (List Int) × Unit) × Int)) => ([some (.o ((eL eI) s.1.1)), none, some (.o ((eL eI) s.1.2.1)), some (.o ((eL eI) s.1.2.2.1)), some (.v (eI s.2))] : FS))) (fun _ _ => rfl)
 (sn_seqP (sn_frame (κ := (fun s : (((List Int) × (List Int) × (List Int) × Unit) × Int) => (s.2, ()))) (μ := (fun s : (((List Int) × (List Int) × (List Int) × Unit) × Int) => (s.1.1, s.1.2.1, s.1.2.2.1, ()))) (wv := fun (c324 : (Int × Unit)) => (fun (s : ((List Int) × (List Int) × (List Int) × Unit)) => ([some (.o ((eL eI) s.1)), none, some (.o ((eL eI) s.2.1)), some (.o ((eL eI) s.2.2.1)), some (.v (eI c324.1))] : FS))) (wv1 := fun (c324 : (Int × Unit)) => (fun (s : ((List Int) × (List Int) × (List Int) × Unit)) => ([some (.o ((eL eI) s.1)), none, some (.o ((eL eI) s.2.1)), some (.o ((eL eI) s.2.2.1)), some (.v (eI c324.1))] : FS))) (w2 := (fun (s : ((List Int) × (List Int) × (List Int) × Int × Unit)) => ([some (.o ((eL eI) s.1)), none, some (.o ((eL eI) s.2.1)), some (.o ((eL eI) s.2.2.1)), some (.v (eI s.2.2.2.1))] : FS))) (back := (fun (c324 : (Int × Unit)) (m : ((List Int) × (List Int) × (List Int) × Unit)) => (m.1, m.2.1, m.2.2.1, c324.1, ()))) (fun _ => rfl) (fun _ _ => rfl) (fun c324 => ⟨_,
 (sn_ex (xg_app (ea := eI) (g0 := fun s => s.2.2.1) (g1 := fun s => s.2.2.1) (w2 := (fun (s : ((List Int) × (List Int) × (List Int) × Unit)) => ([some (.o ((eL eI) s.1)), none, some (.o ((eL eI) s.2.1)), some (.o ((eL eI) s.2.2.1)), some (.v (eI c324.1))] : FS))) (h := fun s z => (s.1, s.2.1, z, ())) (fun _ => rfl) (fun _ => rfl) (fun _ _ => rfl) (xg_popi (ea := eI) (g0 := fun s => s.2.1) (g := fun s => s.2.1) (w2 := (fun (s : ((List Int) × (List Int) × (List Int) × Unit)) => ([some (.o ((eL eI) s.1)), none, some (.o ((eL eI) s.2.1)), some (.o ((eL eI) s.2.2.1)), some (.v (eI c324.1))] : FS))) (h := fun s z => (s.1, z, s.2.2.1, ())) (fun _ => rfl) (fun _ => rfl) (fun _ _ => rfl) (xg_callcT (ec := (eL eI)) (fd := fd_law_roll) rfl rfl (fun _ => rfl) r_law_roll_1 (g1 := fun s => s.1) (w2 := (fun (s : ((List Int) × (List Int) × (List Int) × Unit)) => ([some (.o ((eL eI) s.1)), none, some (.o ((eL eI) s.2.1)), some (.o ((eL eI) s.2.2.1)), some (.v (eI c324.1))] : FS))) (h := fun s z => (z, s.2.1, s.2.2.1, ())) (fun _ => rfl) (fun _ _ => rfl) (at_cons (xt_b1 (eb := eI) (ea := (eL eI)) o_lenL (xt_bor (ea := (eL eI)) (g := fun s => s.2.1) (fun _ => rfl))) at_nil)))))⟩))
 (sn_seqT (sn_fgt (w1 := (fun (s : ((List Int) × (List Int) × (List Int) × Unit)) => ([some (.o ((eL eI) s.1)), none, some (.o ((eL eI) s.2.1)), some (.o ((eL eI) s.2.2.1)), none] : FS))) (h := fun s => (s.1, s.2.1, s.2.2.1, ())) (fun _ => rfl))
 (sn_endT (w1 := (fun (s : ((List Int) × (List Int) × (List Int) × Unit)) => ([some (.o ((eL eI) s.1)), none, some (.o ((eL eI) s.2.1)), some (.o ((eL eI) s.2.2.1)), none] : FS))) (h := fun s => (s.1, s.2.1, s.2.2.1, ())) (fun _ => rfl)))))⟩))
 (sr_seqT (sn_fgt (w1 := (fun (s : ((List Int) × (List Int) × Unit)) => ([some (.o ((eL eI) s.1)), none, none, some (.o ((eL eI) s.2.1)), none] : FS))) (h := fun s => (s.1, s.2.2.1, ())) (fun _ => rfl))
 (sr_retT (g := (fun x s => (x, s.1))) (xt_toT (eb := (eU eI)) (ea := (eL eI)) o_toTL (xt_bor (ea := (eL eI)) (g := fun s => s.2.1) (fun _ => rfl))) (fun _ _ => ⟨rfl, rfl, rfl⟩))))))
  exact rc_sr rfl rfl (fun _ _ => rfl) h (fun _ _ => rfl)
def t_is_tuple_of_2 (p1 : (Int × (List Int))) (p2 : Int) (p3 : Int) : Out Bool := (Out.ok (true && ((decide (p2 ≤ (2 : Int))) && (decide ((2 : Int) ≤ p3)))))
theorem r_is_tuple_of_2 : RF fd_is_tuple_of (ac (e2 eI (eU eI)) (ac eI (ac eI a0))) eB (fun x => t_is_tuple_of_2 x.1 x.2.1 x.2.2.1) := by
  have h : SR ⟨Φ_is_tuple_of, Γ⟩ (fun (s : ((Int × (List Int)) × Int × Int × Unit)) => ([some (.v ((e2 eI (eU eI)) s.1)), some (.v (eI s.2.1)), some (.v (eI s.2.2.1))] : FS)) (fun (r : Bool) fr d _ => fr = false ∧ d = eB r) false is_is_tuple_of _ :=
 (sr_retT (g := (fun x _ => x)) (xt_and (xt_isi (ea := (e2 eI (eU eI))) (h := fun _ => true) (fun _ => rfl) (xt_var (ea := (e2 eI (eU eI))) (g := fun s => s.1) (fun _ => rfl))) (xt_chain (ea := eI) (eb := eI) (ec := eI) o_le o_le (xt_var (ea := eI) (g := fun s => s.2.1) (fun _ => rfl)) (xt_b1 (eb := eI) (h := (fun _ => (2 : Int))) (ea := (e2 eI (eU eI))) (fun _ => rfl) (xt_var (ea := (e2 eI (eU eI))) (g := fun s => s.1) (fun _ => rfl))) (xt_var (ea := eI) (g := fun s => s.2.2.1) (fun _ => rfl)))) (fun _ _ => ⟨rfl, rfl⟩))
  exact rf_srE rfl rfl (fun _ _ => rfl) h rfl
def t_fits_wishes_1 (p1 : (Int × (List Int))) : Out Bool := ((((t_is_tuple_of_2 p1 (2 : Int) (2 : Int)) >>= fun x381 => Out.ok (!x381)) >>= fun x385 => (if x385 = true then Out.ok true else (((t_is_whole_1 p1.1 (1 : Int) (12 : Int)) >>= fun x382 => Out.ok (!x382)) >>= fun x384 => (if x384 = true then Out.ok true else ((t_is_tuple_of_1 p1.2 (0 : Int) (12 : Int)) >>= fun x383 => Out.ok (!x383)))))) >>= fun x389 => if x389 = true then (Out.ok false) else ((lcQ (fun (i387 : Int) => (t_is_whole_1 i387 (0 : Int) (p1.1 - (1 : Int)))) p1.2 >>= fun r => fits r) >>= fun x388 => Out.ok (List.all x388 id)))
theorem r_fits_wishes_1 : RF fd_fits_wishes (ac (e2 eI (eU eI)) a0) eB (fun x => t_fits_wishes_1 x.1) := by
  have h : SR ⟨Φ_fits_wishes, Γ⟩ (fun (s : ((Int × (List Int)) × Unit)) => ([some (.v ((e2 eI (eU eI)) s.1)), none] : FS)) (fun (r : Bool) fr d _ => fr = false ∧ d = eB r) false is_fits_wishes _ :=
 (sr_ifPk (xp_or (xp_not (xp_callT (fd := fd_is_tuple_of) rfl rfl (fun _ => rfl) r_is_tuple_of_2 (at_cons (xt_var (ea := (e2 eI (eU eI))) (g := fun s => s.1) (fun _ => rfl)) (at_cons (xt_cst (ea := eI) (x := (2 : Int)) rfl) (at_cons (xt_cst (ea := eI) (x := (2 : Int)) rfl) at_nil))))) (xp_or (xp_not (xp_callT (fd := fd_is_whole) rfl rfl (fun _ => rfl) r_is_whole_1 (at_cons (xt_idxk (ea := (e2 eI (eU eI))) (ec := eI) (h := (fun x => x.1)) (fun _ => rfl) (xt_var (ea := (e2 eI (eU eI))) (g := fun s => s.1) (fun _ => rfl))) (at_cons (xt_cst (ea := eI) (x := (1 : Int)) rfl) (at_cons (xt_glo (ea := eI) (v := (12 : Int)) g_SLOTS) at_nil))))) (xp_not (xp_callT (fd := fd_is_tuple_of) rfl rfl (fun _ => rfl) r_is_tuple_of_1 (at_cons (xt_idxk (ea := (e2 eI (eU eI))) (ec := (eU eI)) (h := (fun x => x.2)) (fun _ => rfl) (xt_var (ea := (e2 eI (eU eI))) (g := fun s => s.1) (fun _ => rfl))) (at_cons (xt_cst (ea := eI) (x := (0 : Int)) rfl) (at_cons (xt_glo (ea := eI) (v := (12 : Int)) g_SLOTS) at_nil)))))))
 (sr_retT (g := (fun x _ => x)) (xt_cst (ea := eB) (x := false) rfl) (fun _ _ => ⟨rfl, rfl⟩))
 (sn_endT (w1 := (fun (s : ((Int × (List Int)) × Unit)) => ([some (.v ((e2 eI (eU eI)) s.1)), none] : FS))) (h := fun s => (s.1, ())) (fun _ => rfl))
 (sr_retV (xp_b1 (eb := eB) (ea := (eL eB)) (fun x => le_some (o_all x)) (xp_lc1 (ea := eI) (eb := eB) (XT.p (xt_iseq (ea := (eU eI)) (eb := eI) o_seqU (xt_idxk (ea := (e2 eI (eU eI))) (ec := (eU eI)) (h := (fun x => x.2)) (fun _ => rfl) (xt_var (ea := (e2 eI (eU eI))) (g := fun s => s.1) (fun _ => rfl))))) (fun _ => rfl) (fun _ _ => rfl) (fun _ _ => rfl) (fun _ => rfl) (fun _ _ => rfl) (wt := (fun (s : (((Int × (List Int)) × Unit) × Int)) => ([some (.v ((e2 eI (eU eI)) s.1.1)), some (.v (eI s.2))] : FS))) (xp_callT (fd := fd_is_whole) rfl rfl (fun _ => rfl) r_is_whole_1 (at_cons (xt_var (ea := eI) (g := fun s => s.2) (fun _ => rfl)) (at_cons (xt_cst (ea := eI) (x := (0 : Int)) rfl) (at_cons (xt_bin (ea := eI) (eb := eI) o_sub (xt_idxk (ea := (e2 eI (eU eI))) (ec := eI) (h := (fun x => x.1)) (fun _ => rfl) (xt_var (ea := (e2 eI (eU eI))) (g := fun s => s.1.1) (fun _ => rfl))) (xt_cst (ea := eI) (x := (1 : Int)) rfl)) at_nil)))))) (fun _ _ => ⟨rfl, rfl⟩)))
  exact rf_srE rfl rfl (fun _ _ => rfl) h rfl
def t_need_wishes_1 (p1 : (Int × (List Int))) : Out Unit := (((t_fits_wishes_1 p1) >>= fun x381 => Out.ok (!x381)) >>= fun x382 => if x382 = true then (Out.err "InvalidSlots" .none) else (Out.ok ()))
theorem r_need_wishes_1 : RF fd_need_wishes (ac (e2 eI (eU eI)) a0) eN (fun x => t_need_wishes_1 x.1) := by
  have h : SR ⟨Φ_need_wishes, Γ⟩ (fun (s : ((Int × (List Int)) × Unit)) => ([some (.v ((e2 eI (eU eI)) s.1))] : FS)) (fun (r : Unit) fr d _ => fr = false ∧ d = eN r) true is_need_wishes _ :=
 (sr_ifPk (xp_not (xp_callT (fd := fd_fits_wishes) rfl rfl (fun _ => rfl) r_fits_wishes_1 (at_cons (xt_var (ea := (e2 eI (eU eI))) (g := fun s => s.1) (fun _ => rfl)) at_nil)))
 (sr_raise)
 (sn_endT (w1 := (fun (s : ((Int × (List Int)) × Unit)) => ([some (.v ((e2 eI (eU eI)) s.1))] : FS))) (h := fun s => (s.1, ())) (fun _ => rfl))
 (sr_seqT (sn_fgt (w1 := (fun (s : Unit) => ([none] : FS))) (h := fun s => ()) (fun _ => rfl))
 (sr_end (g := (fun _ => ())) (fun _ => ⟨rfl, rfl⟩))))
  exact rf_srE rfl rfl (fun _ _ => rfl) h rfl
def t_placed_1 (p1 : (Int × (List Int))) : Out (List (Option Int)) := let taken_385 : (List (Int × Bool)) := ([] : (List (Int × Bool)));
 let found_386 : (List (Option Int)) := ([] : (List (Option Int)));
 ((forN (fun (i388 : Int) (t389 : ((List (Int × Bool)) × (List (Option Int)) × Unit)) =>
 (((rngG i388 p1.1) >>= fun x392 => (fits ((x392.filter fun (i391 : Int) => (!(dGet i391 t389.1).isSome)).map fun (i391 : Int) => i391))) >>= fun free_393 =>
 ((((if (!eqT free_393 ([] : (List Int))) = true then ((atG free_393 (0 : Int)) >>= fun x398 => Out.ok (some x398)) else (Out.ok ((fun _ => (none : (Option Int))) ()))) >>= fun x400 => appG t389.2.1 x400 >>= fun l399 => Out.ok ((), (l399, ()))) >>= fun q401 => Out.ok q401.2) >>= fun m402 =>
 ((if (!eqT free_393 ([] : (List Int))) = true then (((atG free_393 (0 : Int)) >>= fun x406 => (putG t389.1 x406 true >>= fun l405 => Out.ok (l405, ()))) >>= fun m407 =>
 (Out.ok (m407.1, ()))) else (Out.ok (t389.1, ()))) >>= fun m408 =>
 (Out.ok (m408.1, m402.1, ())))))) p1.2 (taken_385, found_386, ())) >>= fun m410 =>
 ((Out.ok (m410.2.1, (m410.2.1, ()))) >>= fun q411 => Out.ok q411.1))
theorem r_placed_1 : RF fd_placed (ac (e2 eI (eU eI)) a0) (eL (eO eI)) (fun x => t_placed_1 x.1) := by
  have h : SR ⟨Φ_placed, Γ⟩ (fun (s : ((Int × (List Int)) × Unit)) => ([some (.v ((e2 eI (eU eI)) s.1)), none, none, none, none, none] : FS)) (fun (r : (List (Option Int))) fr d _ => fr = false ∧ d = (eL (eO eI)) r) false is_placed _ :=
 (sr_seqT (sn_parT (es := (ac (eD eI eB) (ac (eL (eO eI)) a0))) (at_cons (xt_emp (ea := eB) (ek := eI)) (at_cons (xt_lst at_nil (eb := (eL (eO eI))) (k := fun _ => []) (fun _ => rfl) (fun _ => rfl)) at_nil)) (w2 := (fun (s : ((Int × (List Int)) × (List (Int × Bool)) × (List (Option Int)) × Unit)) => ([some (.v ((e2 eI (eU eI)) s.1)), some (.o ((eD eI eB) s.2.1)), some (.o ((eL (eO eI)) s.2.2.1)), none, none, none] : FS))) (h := fun s x => (s.1, x.1, x.2.1, ())) (fun _ _ => rfl))
 (sr_seqP (sn_frame (κ := (fun s : ((Int × (List Int)) × (List (Int × Bool)) × (List (Option Int)) × Unit) => (s.1, ()))) (μ := (fun s : ((Int × (List Int)) × (List (Int × Bool)) × (List (Option Int)) × Unit) => (s.2.1, s.2.2.1, ()))) (wv := fun (c387 : ((Int × (List Int)) × Unit)) => (fun (s : ((List (Int × Bool)) × (List (Option Int)) × Unit)) => ([some (.v ((e2 eI (eU eI)) c387.1)), some (.o ((eD eI eB) s.1)), some (.o ((eL (eO eI)) s.2.1)), none, none, none] : FS))) (wv1 := fun (c387 : ((Int × (List Int)) × Unit)) => (fun (s : ((List (Int × Bool)) × (List (Option Int)) × Unit)) => ([some (.v ((e2 eI (eU eI)) c387.1)), some (.o ((eD eI eB) s.1)), some (.o ((eL (eO eI)) s.2.1)), none, none, none] : FS))) (w2 := (fun (s : ((Int × (List Int)) × (List (Int × Bool)) × (List (Option Int)) × Unit)) => ([some (.v ((e2 eI (eU eI)) s.1)), some (.o ((eD eI eB) s.2.1)), some (.o ((eL (eO eI)) s.2.2.1)), none, none, none] : FS))) (back := (fun (c387 : ((Int × (List Int)) × Unit)) (m : ((List (Int × Bool)) × (List (Option Int)) × Unit)) => (c387.1, m.1, m.2.1, ()))) (fun _ => rfl) (fun _ _ => rfl) (fun c387 => ⟨_,
 (sn_forT (ea := eI) (xt_iseq (ea := (eU eI)) (eb := eI) o_seqU (xt_idxk (ea := (e2 eI (eU eI))) (ec := (eU eI)) (h := (fun x => x.2)) (fun _ => rfl) (xt_var (ea := (e2 eI (eU eI))) (g := fun s => c387.1) (fun _ => rfl)))) (wt := (fun (s : (((List (Int × Bool)) × (List (Option Int)) × Unit) × Int)) => ([some (.v ((e2 eI (eU eI)) c387.1)), some (.o ((eD eI eB) s.1.1)), some (.o ((eL (eO eI)) s.1.2.1)), some (.v (eI s.2)), none, none] : FS))) (fun _ _ => rfl)
 (sn_seqP (sn_setP (ea := (eL eI)) (xt_lc (ea := eI) (eb := eI) (xp_irng2TT (xt_var (ea := eI) (g := fun s => s.2) (fun _ => rfl)) (xt_idxk (ea := (e2 eI (eU eI))) (ec := eI) (h := (fun x => x.1)) (fun _ => rfl) (xt_var (ea := (e2 eI (eU eI))) (g := fun s => c387.1) (fun _ => rfl)))) (fun _ => rfl) (fun _ _ => rfl) (fun _ _ => rfl) (fun _ => rfl) (fun _ _ => rfl) (wt := (fun (s : ((((List (Int × Bool)) × (List (Option Int)) × Unit) × Int) × Int)) => ([some (.v ((e2 eI (eU eI)) c387.1)), some (.o ((eD eI eB) s.1.1.1)), some (.o ((eL (eO eI)) s.1.1.2.1)), some (.v (eI s.1.2)), none, some (.v (eI s.2))] : FS))) (xt_cmp (ea := eI) (eb := (eD eI eB)) o_niDI (xt_var (ea := eI) (g := fun s => s.2) (fun _ => rfl)) (xt_bor (ea := (eD eI eB)) (g := fun s => s.1.1.1) (fun _ => rfl))) (xt_var (ea := eI) (g := fun s => s.2) (fun _ => rfl))) (w2 := (fun (s : ((List (Int × Bool)) × (List (Option Int)) × Int × (List Int) × Unit)) => ([some (.v ((e2 eI (eU eI)) c387.1)), some (.o ((eD eI eB) s.1)), some (.o ((eL (eO eI)) s.2.1)), some (.v (eI s.2.2.1)), some (.v ((eL eI) s.2.2.2.1)), none] : FS))) (h := fun s x => (s.1.1, s.1.2.1, s.2, x, ())) (fun _ _ => rfl))
 (sn_seqT (sn_fgt (w1 := (fun (s : ((List (Int × Bool)) × (List (Option Int)) × (List Int) × Unit)) => ([some (.v ((e2 eI (eU eI)) c387.1)), some (.o ((eD eI eB) s.1)), some (.o ((eL (eO eI)) s.2.1)), none, some (.v ((eL eI) s.2.2.1)), none] : FS))) (h := fun s => (s.1, s.2.1, s.2.2.2.1, ())) (fun _ => rfl))
 (sn_seqP (sn_frame (κ := (fun s : ((List (Int × Bool)) × (List (Option Int)) × (List Int) × Unit) => (s.1, s.2.2.1, ()))) (μ := (fun s : ((List (Int × Bool)) × (List (Option Int)) × (List Int) × Unit) => (s.2.1, ()))) (wv := fun (c397 : ((List (Int × Bool)) × (List Int) × Unit)) => (fun (s : ((List (Option Int)) × Unit)) => ([some (.v ((e2 eI (eU eI)) c387.1)), some (.o ((eD eI eB) c397.1)), some (.o ((eL (eO eI)) s.1)), none, some (.v ((eL eI) c397.2.1)), none] : FS))) (wv1 := fun (c397 : ((List (Int × Bool)) × (List Int) × Unit)) => (fun (s : ((List (Option Int)) × Unit)) => ([some (.v ((e2 eI (eU eI)) c387.1)), some (.o ((eD eI eB) c397.1)), some (.o ((eL (eO eI)) s.1)), none, some (.v ((eL eI) c397.2.1)), none] : FS))) (w2 := (fun (s : ((List (Int × Bool)) × (List (Option Int)) × (List Int) × Unit)) => ([some (.v ((e2 eI (eU eI)) c387.1)), some (.o ((eD eI eB) s.1)), some (.o ((eL (eO eI)) s.2.1)), none, some (.v ((eL eI) s.2.2.1)), none] : FS))) (back := (fun (c397 : ((List (Int × Bool)) × (List Int) × Unit)) (m : ((List (Option Int)) × Unit)) => (c397.1, m.1, c397.2.1, ()))) (fun _ => rfl) (fun _ _ => rfl) (fun c397 => ⟨_,
 (sn_ex (xg_appP (ea := (eO eI)) (g1 := fun s => s.1) (w2 := (fun (s : ((List (Option Int)) × Unit)) => ([some (.v ((e2 eI (eU eI)) c387.1)), some (.o ((eD eI eB) c397.1)), some (.o ((eL (eO eI)) s.1)), none, some (.v ((eL eI) c397.2.1)), none] : FS))) (h := fun s z => (z, ())) (fun _ => rfl) (fun _ _ => rfl) (xp_iteT (xt_cmp (ea := (eL eI)) (eb := (eL eI)) (o_ne (q_lst q_int)) (xt_var (ea := (eL eI)) (g := fun s => c397.2.1) (fun _ => rfl)) (xt_lst at_nil (eb := (eL eI)) (k := fun _ => []) (fun _ => rfl) (fun _ => rfl))) (XQ.up (ea := eI) (eb := (eO eI)) (xp_idxTT (ea := (eL eI)) (eb := eI) p_atL (xt_var (ea := (eL eI)) (g := fun s => c397.2.1) (fun _ => rfl)) (xt_cst (ea := eI) (x := (0 : Int)) rfl)) some (fun _ => rfl)) (XT.p (XT.up (ea := eN) (eb := (eO eI)) (xt_cst (ea := eN) (x := ()) rfl) (fun _ => (none : (Option Int))) (fun _ => rfl))))))⟩))
 (sn_seqP (sn_frame (κ := (fun s : ((List (Int × Bool)) × (List (Option Int)) × (List Int) × Unit) => (s.2.1, s.2.2.1, ()))) (μ := (fun s : ((List (Int × Bool)) × (List (Option Int)) × (List Int) × Unit) => (s.1, ()))) (wv := fun (c403 : ((List (Option Int)) × (List Int) × Unit)) => (fun (s : ((List (Int × Bool)) × Unit)) => ([some (.v ((e2 eI (eU eI)) c387.1)), some (.o ((eD eI eB) s.1)), some (.o ((eL (eO eI)) c403.1)), none, some (.v ((eL eI) c403.2.1)), none] : FS))) (wv1 := fun (c403 : ((List (Option Int)) × (List Int) × Unit)) => (fun (s : ((List (Int × Bool)) × Unit)) => ([some (.v ((e2 eI (eU eI)) c387.1)), some (.o ((eD eI eB) s.1)), some (.o ((eL (eO eI)) c403.1)), none, some (.v ((eL eI) c403.2.1)), none] : FS))) (w2 := (fun (s : ((List (Int × Bool)) × (List (Option Int)) × (List Int) × Unit)) => ([some (.v ((e2 eI (eU eI)) c387.1)), some (.o ((eD eI eB) s.1)), some (.o ((eL (eO eI)) s.2.1)), none, some (.v ((eL eI) s.2.2.1)), none] : FS))) (back := (fun (c403 : ((List (Option Int)) × (List Int) × Unit)) (m : ((List (Int × Bool)) × Unit)) => (m.1, c403.1, c403.2.1, ()))) (fun _ => rfl) (fun _ _ => rfl) (fun c403 => ⟨_,
 (sn_ifT (xt_cmp (ea := (eL eI)) (eb := (eL eI)) (o_ne (q_lst q_int)) (xt_var (ea := (eL eI)) (g := fun s => c403.2.1) (fun _ => rfl)) (xt_lst at_nil (eb := (eL eI)) (k := fun _ => []) (fun _ => rfl) (fun _ => rfl)))
 (sn_seqP (sn_frame (κ := (fun s : ((List (Int × Bool)) × Unit) => ())) (μ := (fun s : ((List (Int × Bool)) × Unit) => (s.1, ()))) (wv := fun (c404 : Unit) => (fun (s : ((List (Int × Bool)) × Unit)) => ([some (.v ((e2 eI (eU eI)) c387.1)), some (.o ((eD eI eB) s.1)), some (.o ((eL (eO eI)) c403.1)), none, some (.v ((eL eI) c403.2.1)), none] : FS))) (wv1 := fun (c404 : Unit) => (fun (s : ((List (Int × Bool)) × Unit)) => ([some (.v ((e2 eI (eU eI)) c387.1)), some (.o ((eD eI eB) s.1)), some (.o ((eL (eO eI)) c403.1)), none, some (.v ((eL eI) c403.2.1)), none] : FS))) (w2 := (fun (s : ((List (Int × Bool)) × Unit)) => ([some (.v ((e2 eI (eU eI)) c387.1)), some (.o ((eD eI eB) s.1)), some (.o ((eL (eO eI)) c403.1)), none, some (.v ((eL eI) c403.2.1)), none] : FS))) (back := (fun (c404 : Unit) (m : ((List (Int × Bool)) × Unit)) => (m.1, ()))) (fun _ => rfl) (fun _ _ => rfl) (fun c404 => ⟨_,
 (sn_putTP (ea := eB) (ek := eI) q_int keys_I (xt_cst (ea := eB) (x := true) rfl) (xp_idxTT (ea := (eL eI)) (eb := eI) p_atL (xt_var (ea := (eL eI)) (g := fun s => c403.2.1) (fun _ => rfl)) (xt_cst (ea := eI) (x := (0 : Int)) rfl)) (g := fun s => s.1) (w2 := (fun (s : ((List (Int × Bool)) × Unit)) => ([some (.v ((e2 eI (eU eI)) c387.1)), some (.o ((eD eI eB) s.1)), some (.o ((eL (eO eI)) c403.1)), none, some (.v ((eL eI) c403.2.1)), none] : FS))) (h := fun s z => (z, ())) (fun _ => rfl) (fun _ _ => rfl))⟩))
 (sn_endT (w1 := (fun (s : ((List (Int × Bool)) × Unit)) => ([some (.v ((e2 eI (eU eI)) c387.1)), some (.o ((eD eI eB) s.1)), some (.o ((eL (eO eI)) c403.1)), none, some (.v ((eL eI) c403.2.1)), none] : FS))) (h := fun s => (s.1, ())) (fun _ => rfl)))
 (sn_endT (w1 := (fun (s : ((List (Int × Bool)) × Unit)) => ([some (.v ((e2 eI (eU eI)) c387.1)), some (.o ((eD eI eB) s.1)), some (.o ((eL (eO eI)) c403.1)), none, some (.v ((eL eI) c403.2.1)), none] : FS))) (h := fun s => (s.1, ())) (fun _ => rfl)))⟩))
 (sn_seqT (sn_fgt (w1 := (fun (s : ((List (Int × Bool)) × (List (Option Int)) × Unit)) => ([some (.v ((e2 eI (eU eI)) c387.1)), some (.o ((eD eI eB) s.1)), some (.o ((eL (eO eI)) s.2.1)), none, none, none] : FS))) (h := fun s => (s.1, s.2.1, ())) (fun _ => rfl))
 (sn_endT (w1 := (fun (s : ((List (Int × Bool)) × (List (Option Int)) × Unit)) => ([some (.v ((e2 eI (eU eI)) c387.1)), some (.o ((eD eI eB) s.1)), some (.o ((eL (eO eI)) s.2.1)), none, none, none] : FS))) (h := fun s => (s.1, s.2.1, ())) (fun _ => rfl))))))))⟩))
 (sr_seqT (sn_fgt (w1 := (fun (s : ((List (Option Int)) × Unit)) => ([none, none, some (.o ((eL (eO eI)) s.1)), none, none, none] : FS))) (h := fun s => (s.2.2.1, ())) (fun _ => rfl))
 (sr_ret (g := (fun x _ => x)) (xg_esc (ea := (eL (eO eI))) (w1 := (fun (s : ((List (Option Int)) × Unit)) => ([none, none, some (.v ((eL (eO eI)) s.1)), none, none, none] : FS))) (g := fun s => s.1) (h := fun s => s) (fun _ => rfl)) (fun _ _ => ⟨rfl, rfl⟩)))))
  exact rf_srE rfl rfl (fun _ _ => rfl) h rfl
def t_places_1 (p1 : (Int × (List Int))) : Out (List (Option Int)) := ((t_need_wishes_1 p1) >>= fun (_ : Unit) =>
 ((t_placed_1 p1) >>= fun x382 => Out.ok x382))
theorem r_places_1 : RF fd_places (ac (e2 eI (eU eI)) a0) (eU (eO eI)) (fun x => t_places_1 x.1) := by
  have h : SR ⟨Φ_places, Γ⟩ (fun (s : ((Int × (List Int)) × Unit)) => ([some (.v ((e2 eI (eU eI)) s.1))] : FS)) (fun (r : (List (Option Int))) fr d _ => fr = false ∧ d = (eU (eO eI)) r) false is_places _ :=
 (sr_seqP (sn_exQ (xp_callT (fd := fd_need_wishes) rfl rfl (fun _ => rfl) r_need_wishes_1 (at_cons (xt_var (ea := (e2 eI (eU eI))) (g := fun s => s.1) (fun _ => rfl)) at_nil)))
 (sr_retV (xp_toT (eb := (eU (eO eI))) (ea := (eL (eO eI))) (fun x => le_some (o_toTL x)) (xp_callT (fd := fd_placed) rfl rfl (fun _ => rfl) r_placed_1 (at_cons (xt_var (ea := (e2 eI (eU eI))) (g := fun s => s.1) (fun _ => rfl)) at_nil))) (fun _ _ => ⟨rfl, rfl⟩)))
  exact rf_srE rfl rfl (fun _ _ => rfl) h rfl
def t_law_power_1 (p1 : Int) (p2 : Int) : Out Int := let found_395 : Int := (1 : Int);
 (((rng0 p2) >>= fun x401 => (forN (fun (i397 : Int) (t398 : (Int × Unit)) =>
 ((mulG t398.1 p1) >>= fun found_399 =>
 (Out.ok (found_399, ())))) x401 (found_395, ()))) >>= fun m402 =>
 (Out.ok m402.1))
theorem r_law_power_1 : RF fd_law_power (ac eI (ac eI a0)) eI (fun x => t_law_power_1 x.1 x.2.1) := by
  have h : SR ⟨Φ_law_power, Γ⟩ (fun (s : (Int × Int × Unit)) => ([some (.v (eI s.1)), some (.v (eI s.2.1)), none, none] : FS)) (fun (r : Int) fr d _ => fr = false ∧ d = eI r) false is_law_power _ :=
 (sr_seqT (sn_setT (ea := eI) (xt_cst (ea := eI) (x := (1 : Int)) rfl) (w2 := (fun (s : (Int × Int × Int × Unit)) => ([some (.v (eI s.1)), some (.v (eI s.2.1)), some (.v (eI s.2.2.1)), none] : FS))) (h := fun s x => (s.1, s.2.1, x, ())) (fun _ _ => rfl))
 (sr_seqP (sn_frame (κ := (fun s : (Int × Int × Int × Unit) => (s.1, s.2.1, ()))) (μ := (fun s : (Int × Int × Int × Unit) => (s.2.2.1, ()))) (wv := fun (c396 : (Int × Int × Unit)) => (fun (s : (Int × Unit)) => ([some (.v (eI c396.1)), some (.v (eI c396.2.1)), some (.v (eI s.1)), none] : FS))) (wv1 := fun (c396 : (Int × Int × Unit)) => (fun (s : (Int × Unit)) => ([some (.v (eI c396.1)), some (.v (eI c396.2.1)), some (.v (eI s.1)), none] : FS))) (w2 := (fun (s : (Int × Int × Int × Unit)) => ([some (.v (eI s.1)), some (.v (eI s.2.1)), some (.v (eI s.2.2.1)), none] : FS))) (back := (fun (c396 : (Int × Int × Unit)) (m : (Int × Unit)) => (c396.1, c396.2.1, m.1, ()))) (fun _ => rfl) (fun _ _ => rfl) (fun c396 => ⟨_,
 (sn_for (ea := eI) (xp_irngT (xt_var (ea := eI) (g := fun s => c396.2.1) (fun _ => rfl))) (wt := (fun (s : ((Int × Unit) × Int)) => ([some (.v (eI c396.1)), some (.v (eI c396.2.1)), some (.v (eI s.1.1)), some (.v (eI s.2))] : FS))) (fun _ _ => rfl)
 (sn_seqP (sn_setP (ea := eI) (xp_binTT (ea := eI) (eb := eI) p_mul (xt_var (ea := eI) (g := fun s => s.1.1) (fun _ => rfl)) (xt_var (ea := eI) (g := fun s => c396.1) (fun _ => rfl))) (w2 := (fun (s : (Int × Int × Unit)) => ([some (.v (eI c396.1)), some (.v (eI c396.2.1)), some (.v (eI s.1)), some (.v (eI s.2.1))] : FS))) (h := fun s x => (x, s.2, ())) (fun _ _ => rfl))
 (sn_seqT (sn_fgt (w1 := (fun (s : (Int × Unit)) => ([some (.v (eI c396.1)), some (.v (eI c396.2.1)), some (.v (eI s.1)), none] : FS))) (h := fun s => (s.1, ())) (fun _ => rfl))
 (sn_endT (w1 := (fun (s : (Int × Unit)) => ([some (.v (eI c396.1)), some (.v (eI c396.2.1)), some (.v (eI s.1)), none] : FS))) (h := fun s => (s.1, ())) (fun _ => rfl)))))⟩))
 (sr_seqT (sn_fgt (w1 := (fun (s : (Int × Unit)) => ([none, none, some (.v (eI s.1)), none] : FS))) (h := fun s => (s.2.2.1, ())) (fun _ => rfl))
 (sr_retT (g := (fun x _ => x)) (xt_var (ea := eI) (g := fun s => s.1) (fun _ => rfl)) (fun _ _ => ⟨rfl, rfl⟩)))))
  exact rf_srE rfl rfl (fun _ _ => rfl) h rfl
def t_law_1 (p1 : D) : Out Bool := ((t_law_cup_1 p1) >>= fun cup_35 =>
 (thenR (forS (fun (i37 : Int) (t38 : ((List Int) × Unit)) =>
 ((((((t_law_roll_1 t38.1 (4 : Int) >>= fun r48 => Out.ok (r48.1, (r48.2, ()))) >>= fun y49 => Out.ok (((1 : Int) + y49.1), y49.2)) >>= fun x51 => ((t_law_roll_1 x51.2.1 (5 : Int) >>= fun r52 => Out.ok (r52.1, (r52.2, ()))) >>= fun x53 => (Out.ok ((), (x53.2.1, ()))) >>= fun y54 => Out.ok ((x53.1, y54.1), y54.2)) >>= fun y55 => Out.ok ((x51.1, y55.1), y55.2)) >>= fun q56 => Out.ok (q56.2.1, q56.1.1, q56.1.2.1, ())) >>= fun m57 =>
 ((t_law_rows_1 m57.2.1 m57.2.2.1) >>= fun rows_58 =>
 ((lcP (fun (i60 : (List Int)) => (((t_law_places_1 m57.2.1 i60) >>= fun x61 => Out.ok (!memT ((fun _ => (none : (Option Int))) ()) x61)) >>= fun x63 => (if x63 = true then ((Out.ok i60) >>= fun z62 => Out.ok (some z62)) else Out.ok none))) rows_58 >>= fun r => fits r) >>= fun good_64 =>
 ((((((((t_count_finding_1 m57.2.1 m57.2.2.1) >>= fun x68 => (((t_all_finding_1 m57.2.1 m57.2.2.1) >>= fun x66 => Out.ok (x66, ())) >>= fun y67 => Out.ok (x68, y67))) >>= fun x69 => Out.ok ((fun x => (x.1, x.2.1)) x69)) >>= fun x70 => Out.ok ((fun x => ((e2 (e2 eI eI) (eU (eU eI))) x : D)) x70)) >>= fun x72 => Out.ok (x72, (((fun x => ((e2 (e2 eI eI) (eU (eU eI))) x : D)) ((((List.length rows_58 : Nat) : Int), ((List.length good_64 : Nat) : Int)), good_64)), ()))) >>= fun x73 => sameG x73.1 x73.2.1) >>= fun x74 => Out.ok (!x74)) >>= fun x154 => if x154 = true then ((Out.ok false) >>= fun r75 => Out.ok (.rt r75)) else (andThen ((if (!eqT good_64 ([] : (List (List Int)))) = true then (((((((Out.ok (m57.2.1, (m57.1, ()))) >>= fun x89 => ((t_law_some_1 x89.2.1 good_64 >>= fun r90 => Out.ok (r90.1, (r90.2, ()))) >>= fun x91 => (Out.ok ((), (x91.2.1, ()))) >>= fun y92 => Out.ok ((x91.1, y92.1), y92.2)) >>= fun y93 => Out.ok ((x89.1, y93.1), y93.2)) >>= fun q94 => t_law_places_1 q94.1.1 q94.1.2.1 >>= fun r95 => Out.ok (r95, q94.2)) >>= fun x96 => Out.ok (x96.1, x96.2)) >>= fun x97 => unO x97.1 >>= fun z98 => Out.ok (z98, x97.2)) >>= fun q99 => Out.ok (q99.2.1, q99.1, ())) >>= fun m100 =>
 ((lcP (fun (i102 : (List Int)) => (((((t_law_places_1 m57.2.1 i102) >>= fun x103 => Out.ok x103) >>= unO) >>= fun x104 => Out.ok (eqT x104 m100.2.1)) >>= fun x106 => (if x106 = true then ((Out.ok i102) >>= fun z105 => Out.ok (some z105)) else Out.ok none))) good_64 >>= fun r => fits r) >>= fun same_107 =>
 ((((((((t_count_for_1 m57.2.1 m100.2.1) >>= fun x111 => (((t_first_for_1 m57.2.1 m100.2.1) >>= fun x109 => Out.ok (x109, ())) >>= fun y110 => Out.ok (x111, y110))) >>= fun x112 => Out.ok ((fun x => (x.1, x.2.1)) x112)) >>= fun x117 => Out.ok ((fun x => ((e2 eI (eU eI)) x : D)) x117)) >>= fun x122 => (((((((atG same_107 (0 : Int)) >>= fun x114 => Out.ok (x114, ())) >>= fun y115 => Out.ok (((List.length same_107 : Nat) : Int), y115)) >>= fun x116 => Out.ok ((fun x => (x.1, x.2.1)) x116)) >>= fun x118 => Out.ok ((fun x => ((e2 eI (eU eI)) x : D)) x118)) >>= fun x120 => Out.ok (x120, ())) >>= fun y121 => Out.ok (x122, y121))) >>= fun x123 => sameG x123.1 x123.2.1) >>= fun x124 => Out.ok (!x124)) >>= fun x152 => if x152 = true then ((Out.ok false) >>= fun r125 => Out.ok (.rt r125)) else ((lcQ (fun (i127 : (List Int)) => ((((t_law_places_1 m57.2.1 i127) >>= unO) >>= fun x128 => Out.ok (List.sum x128)) >>= fun x129 => Out.ok (x129 - (List.sum i127)))) good_64 >>= fun r => fits r) >>= fun sums_130 =>
 ((((((t_most_steps_1 m57.2.1 m57.2.2.1) >>= fun x142 => Out.ok ((fun x => ((e2 eI (eU eI)) x : D)) x142)) >>= fun x147 => ((((((maxT eI sums_130) >>= fun x140 => ((((lcP (fun (i132 : ((List Int) × Int)) => (((maxT eI sums_130) >>= fun x133 => Out.ok (eqT i132.2 x133)) >>= fun x135 => (if x135 = true then ((Out.ok i132.1) >>= fun z134 => Out.ok (some z134)) else Out.ok none))) (List.zip good_64 sums_130) >>= fun r => fits r) >>= fun x136 => (atG x136 (0 : Int))) >>= fun x138 => Out.ok (x138, ())) >>= fun y139 => Out.ok (x140, y139))) >>= fun x141 => Out.ok ((fun x => (x.1, x.2.1)) x141)) >>= fun x143 => Out.ok ((fun x => ((e2 eI (eU eI)) x : D)) x143)) >>= fun x145 => Out.ok (x145, ())) >>= fun y146 => Out.ok (x147, y146))) >>= fun x148 => sameG x148.1 x148.2.1) >>= fun x149 => Out.ok (!x149)) >>= fun x151 => if x151 = true then ((Out.ok false) >>= fun r150 => Out.ok (.rt r150)) else (Out.ok (.nx (m100.1, m57.2.1, m57.2.2.1, good_64, ())))))))) else (Out.ok (.nx (m57.1, m57.2.1, m57.2.2.1, good_64, ())))) : Out (TF ((List Int) × Int × Int × (List (List Int)) × Unit) ((List Int) × Unit) Bool)) fun m153 => (Out.ok (.nx (m153.1, ())))))))) : Out (TF ((List Int) × Unit) ((List Int) × Unit) Bool))) (rng 0 3) (cup_35, ())) fun m155 => (thenR (forS (fun (i157 : Int) (t158 : ((List Int) × Unit)) =>
 (((((t_law_roll_1 t158.1 (12 : Int) >>= fun r167 => Out.ok (r167.1, (r167.2, ()))) >>= fun y168 => Out.ok (((1 : Int) + y168.1), y168.2)) >>= fun q170 => Out.ok (q170.2.1, q170.1, ())) >>= fun m171 =>
 (((((((rngC m171.2.1) >>= fun x185 => Out.ok (x185, ())) >>= fun y186 => Out.ok (y186, (m171.1, ()))) >>= fun q187 => t_law_turned_1 q187.2.1 q187.1.1 >>= fun r188 => Out.ok (r188.1, (r188.2, ()))) >>= fun x189 => (((t_law_roll_1 x189.2.1 (m171.2.1 + (1 : Int)) >>= fun r192 => Out.ok (r192.1, (r192.2, ()))) >>= fun z194 => Out.ok (some z194.1, z194.2)) >>= fun z193 => Out.ok (cutA x189.1 none z193.1, z193.2))) >>= fun q195 => Out.ok (q195.2.1, q195.1, ())) >>= fun m196 =>
 (((t_first_for_1 m171.2.1 m196.2.1) >>= fun x198 => Out.ok (x198, ((1 : Int), ()))) >>= fun u199 =>
 (((rng0 ((List.length m196.2.1 : Nat) : Int)) >>= fun x216 => (forN (fun (i201 : Int) (t202 : (Int × Unit)) =>
 let run_203 : Int := (1 : Int);
 (((rngG (1 : Int) m171.2.1) >>= fun x212 => (forN (fun (i205 : Int) (t206 : (Int × Unit)) =>
 (((if (eqT t206.1 i205) = true then (((atG m196.2.1 i201) >>= fun x207 => Out.ok (x207 - i205)) >>= fun x208 => Out.ok (memT x208 (cutA m196.2.1 none (some i201)))) else Out.ok false) >>= fun x209 => (if x209 = true then (Out.ok (t206.1 + (1 : Int))) else (Out.ok t206.1))) >>= fun run_210 =>
 (Out.ok (run_210, ())))) x212 (run_203, ()))) >>= fun m213 =>
 ((mulG t202.1 m213.1) >>= fun whole_214 =>
 (Out.ok (whole_214, ()))))) x216 (u199.2.1, ()))) >>= fun m217 =>
 ((((t_places_1 (m171.2.1, u199.1)) >>= fun x218 => Out.ok (!eqT x218 ((fun x => List.map some x) m196.2.1))) >>= fun x228 => (if x228 = true then Out.ok true else ((((((t_count_for_1 m171.2.1 m196.2.1) >>= fun x219 => Out.ok ((fun x => (eI x : D)) x219)) >>= fun x221 => Out.ok (x221, (((fun x => (eI x : D)) m217.1), ()))) >>= fun x222 => sameG x222.1 x222.2.1) >>= fun x223 => Out.ok (!x223)) >>= fun x227 => (if x227 = true then Out.ok true else ((fits (((List.zip u199.1 m196.2.1).filter fun (i225 : (Int × Int)) => (decide (i225.2 < i225.1))).map fun (i225 : (Int × Int)) => (1 : Int))) >>= fun x226 => Out.ok (!eqT x226 ([] : (List Int)))))))) >>= fun x235 => if x235 = true then ((Out.ok false) >>= fun r229 => Out.ok (.rt r229)) else ((t_count_finding_1 m171.2.1 ((List.length m196.2.1 : Nat) : Int)) >>= fun u230 =>
 ((if (decide (u230.1 < u230.2)) = true then Out.ok true else (if (decide (u230.2 < m217.1)) = true then Out.ok true else (if (decide ((0 : Int) < ((List.length m196.2.1 : Nat) : Int))) = true then (((t_law_power_1 (m171.2.1 + (1 : Int)) (((List.length m196.2.1 : Nat) : Int) - (1 : Int))) >>= fun x231 => (mulG ((m171.2.1 + (1 : Int)) - ((List.length m196.2.1 : Nat) : Int)) x231)) >>= fun x232 => Out.ok (!eqT u230.2 x232)) else Out.ok false))) >>= fun x234 => if x234 = true then ((Out.ok false) >>= fun r233 => Out.ok (.rt r233)) else (Out.ok (.nx (m196.1, ())))))))))) : Out (TF ((List Int) × Unit) ((List Int) × Unit) Bool))) (rng 0 3) (m155.1, ())) fun m236 => ((((t_law_roll_1 m236.1 (12 : Int) >>= fun r245 => Out.ok (r245.1, (r245.2, ()))) >>= fun y246 => Out.ok (((1 : Int) + y246.1), y246.2)) >>= fun q248 => Out.ok (q248.2.1, q248.1, ())) >>= fun m249 =>
 (((((t_count_finding_1 m249.2.1 m249.2.1) >>= fun x250 => Out.ok x250.2) >>= fun x258 => (((t_count_finding_1 m249.2.1 (1 : Int)) >>= fun x256 => (((t_count_finding_1 m249.2.1 (0 : Int)) >>= fun x254 => (((t_most_steps_1 m249.2.1 m249.2.1) >>= fun x252 => Out.ok (x252, ())) >>= fun y253 => Out.ok (x254, y253))) >>= fun y255 => Out.ok (x256, y255))) >>= fun y257 => Out.ok (x258, y257))) >>= fun x259 => Out.ok ((fun x => (x.1, x.2.1, x.2.2.1, x.2.2.2.1)) x259)) >>= fun told_260 =>
 (((((((t_law_power_1 (m249.2.1 + (1 : Int)) (m249.2.1 - (1 : Int))) >>= fun x272 => ((((((((mulG m249.2.1 (m249.2.1 - (1 : Int))) >>= fun x261 => Out.ok (x261 / 2)) >>= fun x265 => (((repG [(0 : Int)] m249.2.1) >>= fun x263 => Out.ok (x263, ())) >>= fun y264 => Out.ok (x265, y264))) >>= fun x266 => Out.ok ((fun x => (x.1, x.2.1)) x266)) >>= fun x268 => Out.ok (x268, ())) >>= fun y269 => Out.ok (((1 : Int), (1 : Int)), y269)) >>= fun y270 => Out.ok ((m249.2.1, m249.2.1), y270)) >>= fun y271 => Out.ok (x272, y271))) >>= fun x273 => Out.ok ((fun x => (x.1, x.2.1, x.2.2.1, x.2.2.2.1)) x273)) >>= fun x274 => Out.ok ((fun x => ((e4 eI (e2 eI eI) (e2 eI eI) (e2 eI (eU eI))) x : D)) x274)) >>= fun x276 => Out.ok (x276, ())) >>= fun y277 => Out.ok (((fun x => ((e4 eI (e2 eI eI) (e2 eI eI) (e2 eI (eU eI))) x : D)) told_260), y277)) >>= fun x278 => sameG x278.1 x278.2.1))))))
theorem r_law_1 : RF fd_law (ac eX a0) eB (fun x => t_law_1 x.1) := by
  have h : SR ⟨Φ_law, Γ⟩ (fun (s : (D × Unit)) => ([some (.v (eX s.1)), none, none, none, none, none, none, none, none, none, none, none, none, none, none, none, none, none, none, none, none, none] : FS)) (fun (r : Bool) fr d _ => fr = false ∧ d = eB r) false is_law _ :=
 (sr_seqP (sn_setoP (ea := (eL eI)) (xp_callT (fd := fd_law_cup) rfl rfl (fun _ => rfl) r_law_cup_1 (at_cons (xt_var (ea := eX) (g := fun s => s.1) (fun _ => rfl)) at_nil)) (w2 := (fun (s : (D × (List Int) × Unit)) => ([some (.v (eX s.1)), some (.o ((eL eI) s.2.1)), none, none, none, none, none, none, none, none, none, none, none, none, none, none, none, none, none, none, none, none] : FS))) (h := fun s x => (s.1, x, ())) (fun _ _ => rfl))
 (sr_seqT (sn_fgt (w1 := (fun (s : ((List Int) × Unit)) => ([none, some (.o ((eL eI) s.1)), none, none, none, none, none, none, none, none, none, none, none, none, none, none, none, none, none, none, none, none] : FS))) (h := fun s => (s.2.1, ())) (fun _ => rfl))
 (sr_frameS (κ := (fun s : ((List Int) × Unit) => ())) (μ := (fun s : ((List Int) × Unit) => (s.1, ()))) (wv := fun (c36 : Unit) => (fun (s : ((List Int) × Unit)) => ([none, some (.o ((eL eI) s.1)), none, none, none, none, none, none, none, none, none, none, none, none, none, none, none, none, none, none, none, none] : FS))) (wv1 := fun (c36 : Unit) => (fun (s : ((List Int) × Unit)) => ([none, some (.o ((eL eI) s.1)), none, none, none, none, none, none, none, none, none, none, none, none, none, none, none, none, none, none, none, none] : FS))) (w2 := (fun (s : ((List Int) × Unit)) => ([none, some (.o ((eL eI) s.1)), none, none, none, none, none, none, none, none, none, none, none, none, none, none, none, none, none, none, none, none] : FS))) (back := (fun (c36 : Unit) (m : ((List Int) × Unit)) => (m.1, ()))) (fun _ => rfl) (fun _ _ => rfl) (fun c36 => ⟨_,
 (ss_forET (ea := eI) (xt_irngk (n := 3) (by decide)) (wt := (fun (s : (((List Int) × Unit) × Int)) => ([none, some (.o ((eL eI) s.1.1)), some (.v (eI s.2)), none, none, none, none, none, none, none, none, none, none, none, none, none, none, none, none, none, none, none] : FS))) (fun _ _ => rfl)
 (ss_seqP (sn_frame (κ := (fun s : (((List Int) × Unit) × Int) => (s.2, ()))) (μ := (fun s : (((List Int) × Unit) × Int) => (s.1.1, ()))) (wv := fun (c45 : (Int × Unit)) => (fun (s : ((List Int) × Unit)) => ([none, some (.o ((eL eI) s.1)), some (.v (eI c45.1)), none, none, none, none, none, none, none, none, none, none, none, none, none, none, none, none, none, none, none] : FS))) (wv1 := fun (c45 : (Int × Unit)) => (fun (s : ((List Int) × Int × Int × Unit)) => ([none, some (.o ((eL eI) s.1)), some (.v (eI c45.1)), some (.v (eI s.2.1)), some (.v (eI s.2.2.1)), none, none, none, none, none, none, none, none, none, none, none, none, none, none, none, none, none] : FS))) (w2 := (fun (s : ((List Int) × Int × Int × Int × Unit)) => ([none, some (.o ((eL eI) s.1)), some (.v (eI s.2.1)), some (.v (eI s.2.2.1)), some (.v (eI s.2.2.2.1)), none, none, none, none, none, none, none, none, none, none, none, none, none, none, none, none, none] : FS))) (back := (fun (c45 : (Int × Unit)) (m : ((List Int) × Int × Int × Unit)) => (m.1, c45.1, m.2.1, m.2.2.1, ()))) (fun _ => rfl) (fun _ _ => rfl) (fun c45 => ⟨_,
 (sn_par (es := (ac eI (ac eI a0))) (ag_cons (xg_bin (ea := eI) (eb := eI) rfl (fun x y => le_some (o_add x y)) (XT.g (xt_cst (ea := eI) (x := (1 : Int)) rfl)) (xg_callcT (ec := (eL eI)) (fd := fd_law_roll) rfl rfl (fun _ => rfl) r_law_roll_1 (g1 := fun s => s.1) (w2 := (fun (s : ((List Int) × Unit)) => ([none, some (.o ((eL eI) s.1)), some (.v (eI c45.1)), none, none, none, none, none, none, none, none, none, none, none, none, none, none, none, none, none, none, none] : FS))) (h := fun s z => (z, ())) (fun _ => rfl) (fun _ _ => rfl) (at_cons (xt_cst (ea := eI) (x := (4 : Int)) rfl) at_nil))) (ag_cons (xg_callcT (ec := (eL eI)) (fd := fd_law_roll) rfl rfl (fun _ => rfl) r_law_roll_1 (g1 := fun s => s.1) (w2 := (fun (s : ((List Int) × Unit)) => ([none, some (.o ((eL eI) s.1)), some (.v (eI c45.1)), none, none, none, none, none, none, none, none, none, none, none, none, none, none, none, none, none, none, none] : FS))) (h := fun s z => (z, ())) (fun _ => rfl) (fun _ _ => rfl) (at_cons (xt_cst (ea := eI) (x := (5 : Int)) rfl) at_nil)) (AT.g at_nil))) (w2 := (fun (s : ((List Int) × Int × Int × Unit)) => ([none, some (.o ((eL eI) s.1)), some (.v (eI c45.1)), some (.v (eI s.2.1)), some (.v (eI s.2.2.1)), none, none, none, none, none, none, none, none, none, none, none, none, none, none, none, none, none] : FS))) (h := fun s x => (s.1, x.1, x.2.1, ())) (fun _ _ => rfl))⟩))
 (ss_seqT (sn_fgt (w1 := (fun (s : ((List Int) × Int × Int × Unit)) => ([none, some (.o ((eL eI) s.1)), none, some (.v (eI s.2.1)), some (.v (eI s.2.2.1)), none, none, none, none, none, none, none, none, none, none, none, none, none, none, none, none, none] : FS))) (h := fun s => (s.1, s.2.2.1, s.2.2.2.1, ())) (fun _ => rfl))
 (ss_seqP (sn_setP (ea := (eL (eU eI))) (xp_callT (fd := fd_law_rows) rfl rfl (fun _ => rfl) r_law_rows_1 (at_cons (xt_var (ea := eI) (g := fun s => s.2.1) (fun _ => rfl)) (at_cons (xt_var (ea := eI) (g := fun s => s.2.2.1) (fun _ => rfl)) at_nil))) (w2 := (fun (s : ((List Int) × Int × Int × (List (List Int)) × Unit)) => ([none, some (.o ((eL eI) s.1)), none, some (.v (eI s.2.1)), some (.v (eI s.2.2.1)), some (.v ((eL (eU eI)) s.2.2.2.1)), none, none, none, none, none, none, none, none, none, none, none, none, none, none, none, none] : FS))) (h := fun s x => (s.1, s.2.1, s.2.2.1, x, ())) (fun _ _ => rfl))
 (ss_seqP (sn_setP (ea := (eL (eU eI))) (xp_lc (ea := (eU eI)) (eb := (eU eI)) (XT.p (xt_iseq (ea := (eL (eU eI))) (eb := (eU eI)) o_seqL (xt_var (ea := (eL (eU eI))) (g := fun s => s.2.2.2.1) (fun _ => rfl)))) (fun _ => rfl) (fun _ _ => rfl) (fun _ _ => rfl) (fun _ => rfl) (fun _ _ => rfl) (wt := (fun (s : (((List Int) × Int × Int × (List (List Int)) × Unit) × (List Int))) => ([none, some (.o ((eL eI) s.1.1)), none, some (.v (eI s.1.2.1)), some (.v (eI s.1.2.2.1)), some (.v ((eL (eU eI)) s.1.2.2.2.1)), none, some (.v ((eU eI) s.2)), none, none, none, none, none, none, none, none, none, none, none, none, none, none] : FS))) (xp_cmpTP (ea := (eO eI)) (eb := (eL (eO eI))) (fun x y => le_some ((o_niL (q_opt q_int (fun _ => rfl))) x y)) (XT.up (ea := eN) (eb := (eO eI)) (xt_cst (ea := eN) (x := ()) rfl) (fun _ => (none : (Option Int))) (fun _ => rfl)) (xp_callT (fd := fd_law_places) rfl rfl (fun _ => rfl) r_law_places_1 (at_cons (xt_var (ea := eI) (g := fun s => s.1.2.1) (fun _ => rfl)) (at_cons (xt_var (ea := (eU eI)) (g := fun s => s.2) (fun _ => rfl)) at_nil)))) (XT.p (xt_var (ea := (eU eI)) (g := fun s => s.2) (fun _ => rfl)))) (w2 := (fun (s : ((List Int) × Int × Int × (List (List Int)) × (List (List Int)) × Unit)) => ([none, some (.o ((eL eI) s.1)), none, some (.v (eI s.2.1)), some (.v (eI s.2.2.1)), some (.v ((eL (eU eI)) s.2.2.2.1)), some (.v ((eL (eU eI)) s.2.2.2.2.1)), none, none, none, none, none, none, none, none, none, none, none, none, none, none, none] : FS))) (h := fun s x => (s.1, s.2.1, s.2.2.1, s.2.2.2.1, x, ())) (fun _ _ => rfl))
 (ss_leavePk (xp_not (xp_call (fd := fd_law_same 6) rfl rfl (fun _ => rfl) r_same (ap_consP (XQ.up (ea := (e2 (e2 eI eI) (eU (eU eI)))) (eb := eX) (xp_tup (eb := (e2 (e2 eI eI) (eU (eU eI)))) (k := (fun x => (x.1, x.2.1))) (ap_cons (xp_callT (fd := fd_count_finding) rfl rfl (fun _ => rfl) r_count_finding_1 (at_cons (xt_var (ea := eI) (g := fun s => s.2.1) (fun _ => rfl)) (at_cons (xt_var (ea := eI) (g := fun s => s.2.2.1) (fun _ => rfl)) at_nil))) (ap_consP (xp_callT (fd := fd_all_finding) rfl rfl (fun _ => rfl) r_all_finding_1 (at_cons (xt_var (ea := eI) (g := fun s => s.2.1) (fun _ => rfl)) (at_cons (xt_var (ea := eI) (g := fun s => s.2.2.1) (fun _ => rfl)) at_nil))) at_nil)) (fun _ => rfl) (fun _ => rfl)) (fun x => ((e2 (e2 eI eI) (eU (eU eI))) x : D)) (fun _ => rfl)) (at_cons (XT.up (ea := (e2 (e2 eI eI) (eU (eU eI)))) (eb := eX) (xt_tup (eb := (e2 (e2 eI eI) (eU (eU eI)))) (k := (fun x => (x.1, x.2.1))) (at_cons (xt_tup (eb := (e2 eI eI)) (k := (fun x => (x.1, x.2.1))) (at_cons (xt_b1 (eb := eI) (ea := (eL (eU eI))) o_lenL (xt_var (ea := (eL (eU eI))) (g := fun s => s.2.2.2.1) (fun _ => rfl))) (at_cons (xt_b1 (eb := eI) (ea := (eL (eU eI))) o_lenL (xt_var (ea := (eL (eU eI))) (g := fun s => s.2.2.2.2.1) (fun _ => rfl))) at_nil)) (fun _ => rfl) (fun _ => rfl)) (at_cons (xt_toT (eb := (eU (eU eI))) (ea := (eL (eU eI))) o_toTL (xt_var (ea := (eL (eU eI))) (g := fun s => s.2.2.2.2.1) (fun _ => rfl))) at_nil)) (fun _ => rfl) (fun _ => rfl)) (fun x => ((e2 (e2 eI eI) (eU (eU eI))) x : D)) (fun _ => rfl)) at_nil))))
 (sr_retT (g := (fun x _ => x)) (xt_cst (ea := eB) (x := false) rfl) (fun _ _ => ⟨rfl, rfl⟩))
 sn_skip
 (ss_seqT (sn_fgt (w1 := (fun (s : ((List Int) × Int × Int × (List (List Int)) × Unit)) => ([none, some (.o ((eL eI) s.1)), none, some (.v (eI s.2.1)), some (.v (eI s.2.2.1)), none, some (.v ((eL (eU eI)) s.2.2.2.1)), none, none, none, none, none, none, none, none, none, none, none, none, none, none, none] : FS))) (h := fun s => (s.1, s.2.1, s.2.2.1, s.2.2.2.2.1, ())) (fun _ => rfl))
 (ss_seq (ss_ifT (w1 := (fun (s : ((List Int) × Int × Int × (List (List Int)) × Unit)) => ([none, some (.o ((eL eI) s.1)), none, some (.v (eI s.2.1)), some (.v (eI s.2.2.1)), none, some (.v ((eL (eU eI)) s.2.2.2.1)), none, none, none, none, none, none, none, none, none, none, none, none, none, none, none] : FS))) (xt_cmp (ea := (eL (eU eI))) (eb := (eL (eU eI))) (o_ne (q_lst (q_tup q_int))) (xt_var (ea := (eL (eU eI))) (g := fun s => s.2.2.2.1) (fun _ => rfl)) (xt_lst at_nil (eb := (eL (eU eI))) (k := fun _ => []) (fun _ => rfl) (fun _ => rfl)))
 (ss_seqP (sn_frame (κ := (fun s : ((List Int) × Int × Int × (List (List Int)) × Unit) => (s.2.1, s.2.2.1, s.2.2.2.1, ()))) (μ := (fun s : ((List Int) × Int × Int × (List (List Int)) × Unit) => (s.1, ()))) (wv := fun (c87 : (Int × Int × (List (List Int)) × Unit)) => (fun (s : ((List Int) × Unit)) => ([none, some (.o ((eL eI) s.1)), none, some (.v (eI c87.1)), some (.v (eI c87.2.1)), none, some (.v ((eL (eU eI)) c87.2.2.1)), none, none, none, none, none, none, none, none, none, none, none, none, none, none, none] : FS))) (wv1 := fun (c87 : (Int × Int × (List (List Int)) × Unit)) => (fun (s : ((List Int) × (List Int) × Unit)) => ([none, some (.o ((eL eI) s.1)), none, some (.v (eI c87.1)), some (.v (eI c87.2.1)), none, some (.v ((eL (eU eI)) c87.2.2.1)), none, some (.v ((eU eI) s.2.1)), none, none, none, none, none, none, none, none, none, none, none, none, none] : FS))) (w2 := (fun (s : ((List Int) × Int × Int × (List (List Int)) × (List Int) × Unit)) => ([none, some (.o ((eL eI) s.1)), none, some (.v (eI s.2.1)), some (.v (eI s.2.2.1)), none, some (.v ((eL (eU eI)) s.2.2.2.1)), none, some (.v ((eU eI) s.2.2.2.2.1)), none, none, none, none, none, none, none, none, none, none, none, none, none] : FS))) (back := (fun (c87 : (Int × Int × (List (List Int)) × Unit)) (m : ((List Int) × (List Int) × Unit)) => (m.1, c87.1, c87.2.1, c87.2.2.1, m.2.1, ()))) (fun _ => rfl) (fun _ _ => rfl) (fun c87 => ⟨_,
 (sn_set (ea := (eU eI)) (xg_unU (ea := eI) (xg_toT (eb := (eU (eO eI))) (ea := (eL (eO eI))) (fun x => le_some (o_toTL x)) (xg_call (fd := fd_law_places) rfl rfl (fun _ => rfl) r_law_places_1 (ag_cons (XT.g (xt_var (ea := eI) (g := fun s => c87.1) (fun _ => rfl))) (ag_cons (xg_callcT (ec := (eL eI)) (fd := fd_law_some) rfl rfl (fun _ => rfl) r_law_some_1 (g1 := fun s => s.1) (w2 := (fun (s : ((List Int) × Unit)) => ([none, some (.o ((eL eI) s.1)), none, some (.v (eI c87.1)), some (.v (eI c87.2.1)), none, some (.v ((eL (eU eI)) c87.2.2.1)), none, none, none, none, none, none, none, none, none, none, none, none, none, none, none] : FS))) (h := fun s z => (z, ())) (fun _ => rfl) (fun _ _ => rfl) (at_cons (xt_var (ea := (eL (eU eI))) (g := fun s => c87.2.2.1) (fun _ => rfl)) at_nil)) (AT.g at_nil)))))) (w2 := (fun (s : ((List Int) × (List Int) × Unit)) => ([none, some (.o ((eL eI) s.1)), none, some (.v (eI c87.1)), some (.v (eI c87.2.1)), none, some (.v ((eL (eU eI)) c87.2.2.1)), none, some (.v ((eU eI) s.2.1)), none, none, none, none, none, none, none, none, none, none, none, none, none] : FS))) (h := fun s x => (s.1, x, ())) (fun _ _ => rfl))⟩))
 (ss_seqP (sn_setP (ea := (eL (eU eI))) (xp_lc (ea := (eU eI)) (eb := (eU eI)) (XT.p (xt_iseq (ea := (eL (eU eI))) (eb := (eU eI)) o_seqL (xt_var (ea := (eL (eU eI))) (g := fun s => s.2.2.2.1) (fun _ => rfl)))) (fun _ => rfl) (fun _ _ => rfl) (fun _ _ => rfl) (fun _ => rfl) (fun _ _ => rfl) (wt := (fun (s : (((List Int) × Int × Int × (List (List Int)) × (List Int) × Unit) × (List Int))) => ([none, some (.o ((eL eI) s.1.1)), none, some (.v (eI s.1.2.1)), some (.v (eI s.1.2.2.1)), none, some (.v ((eL (eU eI)) s.1.2.2.2.1)), some (.v ((eU eI) s.2)), some (.v ((eU eI) s.1.2.2.2.2.1)), none, none, none, none, none, none, none, none, none, none, none, none, none] : FS))) (xp_cmpPT (ea := (eU eI)) (eb := (eU eI)) (fun x y => le_some ((o_eq (q_tup q_int)) x y)) (xp_unU (ea := eI) (xp_toT (eb := (eU (eO eI))) (ea := (eL (eO eI))) (fun x => le_some (o_toTL x)) (xp_callT (fd := fd_law_places) rfl rfl (fun _ => rfl) r_law_places_1 (at_cons (xt_var (ea := eI) (g := fun s => s.1.2.1) (fun _ => rfl)) (at_cons (xt_var (ea := (eU eI)) (g := fun s => s.2) (fun _ => rfl)) at_nil))))) (xt_var (ea := (eU eI)) (g := fun s => s.1.2.2.2.2.1) (fun _ => rfl))) (XT.p (xt_var (ea := (eU eI)) (g := fun s => s.2) (fun _ => rfl)))) (w2 := (fun (s : ((List Int) × Int × Int × (List (List Int)) × (List Int) × (List (List Int)) × Unit)) => ([none, some (.o ((eL eI) s.1)), none, some (.v (eI s.2.1)), some (.v (eI s.2.2.1)), none, some (.v ((eL (eU eI)) s.2.2.2.1)), none, some (.v ((eU eI) s.2.2.2.2.1)), some (.v ((eL (eU eI)) s.2.2.2.2.2.1)), none, none, none, none, none, none, none, none, none, none, none, none] : FS))) (h := fun s x => (s.1, s.2.1, s.2.2.1, s.2.2.2.1, s.2.2.2.2.1, x, ())) (fun _ _ => rfl))
 (ss_leavePk (xp_not (xp_call (fd := fd_law_same 6) rfl rfl (fun _ => rfl) r_same (ap_cons (XQ.up (ea := (e2 eI (eU eI))) (eb := eX) (xp_tup (eb := (e2 eI (eU eI))) (k := (fun x => (x.1, x.2.1))) (ap_cons (xp_callT (fd := fd_count_for) rfl rfl (fun _ => rfl) r_count_for_1 (at_cons (xt_var (ea := eI) (g := fun s => s.2.1) (fun _ => rfl)) (at_cons (xt_var (ea := (eU eI)) (g := fun s => s.2.2.2.2.1) (fun _ => rfl)) at_nil))) (ap_consP (xp_callT (fd := fd_first_for) rfl rfl (fun _ => rfl) r_first_for_1 (at_cons (xt_var (ea := eI) (g := fun s => s.2.1) (fun _ => rfl)) (at_cons (xt_var (ea := (eU eI)) (g := fun s => s.2.2.2.2.1) (fun _ => rfl)) at_nil))) at_nil)) (fun _ => rfl) (fun _ => rfl)) (fun x => ((e2 eI (eU eI)) x : D)) (fun _ => rfl)) (ap_consP (XQ.up (ea := (e2 eI (eU eI))) (eb := eX) (xp_tup (eb := (e2 eI (eU eI))) (k := (fun x => (x.1, x.2.1))) (ap_consT (xt_b1 (eb := eI) (ea := (eL (eU eI))) o_lenL (xt_var (ea := (eL (eU eI))) (g := fun s => s.2.2.2.2.2.1) (fun _ => rfl))) (ap_consP (xp_idxTT (ea := (eL (eU eI))) (eb := eI) p_atL (xt_var (ea := (eL (eU eI))) (g := fun s => s.2.2.2.2.2.1) (fun _ => rfl)) (xt_cst (ea := eI) (x := (0 : Int)) rfl)) at_nil)) (fun _ => rfl) (fun _ => rfl)) (fun x => ((e2 eI (eU eI)) x : D)) (fun _ => rfl)) at_nil))))
 (sr_retT (g := (fun x _ => x)) (xt_cst (ea := eB) (x := false) rfl) (fun _ _ => ⟨rfl, rfl⟩))
 sn_skip
 (ss_seqT (sn_fgt (w1 := (fun (s : ((List Int) × Int × Int × (List (List Int)) × Unit)) => ([none, some (.o ((eL eI) s.1)), none, some (.v (eI s.2.1)), some (.v (eI s.2.2.1)), none, some (.v ((eL (eU eI)) s.2.2.2.1)), none, none, none, none, none, none, none, none, none, none, none, none, none, none, none] : FS))) (h := fun s => (s.1, s.2.1, s.2.2.1, s.2.2.2.1, ())) (fun _ => rfl))
 (ss_seqP (sn_setP (ea := (eL eI)) (xp_lc1 (ea := (eU eI)) (eb := eI) (XT.p (xt_iseq (ea := (eL (eU eI))) (eb := (eU eI)) o_seqL (xt_var (ea := (eL (eU eI))) (g := fun s => s.2.2.2.1) (fun _ => rfl)))) (fun _ => rfl) (fun _ _ => rfl) (fun _ _ => rfl) (fun _ => rfl) (fun _ _ => rfl) (wt := (fun (s : (((List Int) × Int × Int × (List (List Int)) × Unit) × (List Int))) => ([none, some (.o ((eL eI) s.1.1)), none, some (.v (eI s.1.2.1)), some (.v (eI s.1.2.2.1)), none, some (.v ((eL (eU eI)) s.1.2.2.2.1)), some (.v ((eU eI) s.2)), none, none, none, none, none, none, none, none, none, none, none, none, none, none] : FS))) (xp_binPT (ea := eI) (eb := eI) (fun x y => le_some (o_sub x y)) (xp_b1 (eb := eI) (ea := (eL eI)) (fun x => le_some (o_sum x)) (xp_unL (ea := eI) (xp_callT (fd := fd_law_places) rfl rfl (fun _ => rfl) r_law_places_1 (at_cons (xt_var (ea := eI) (g := fun s => s.1.2.1) (fun _ => rfl)) (at_cons (xt_var (ea := (eU eI)) (g := fun s => s.2) (fun _ => rfl)) at_nil))))) (xt_b1 (eb := eI) (ea := (eU eI)) o_sumU (xt_var (ea := (eU eI)) (g := fun s => s.2) (fun _ => rfl))))) (w2 := (fun (s : ((List Int) × Int × Int × (List (List Int)) × (List Int) × Unit)) => ([none, some (.o ((eL eI) s.1)), none, some (.v (eI s.2.1)), some (.v (eI s.2.2.1)), none, some (.v ((eL (eU eI)) s.2.2.2.1)), none, none, none, some (.v ((eL eI) s.2.2.2.2.1)), none, none, none, none, none, none, none, none, none, none, none] : FS))) (h := fun s x => (s.1, s.2.1, s.2.2.1, s.2.2.2.1, x, ())) (fun _ _ => rfl))
 (ss_leavePk (xp_not (xp_call (fd := fd_law_same 6) rfl rfl (fun _ => rfl) r_same (ap_cons (XQ.up (ea := (e2 eI (eU eI))) (eb := eX) (xp_callT (fd := fd_most_steps) rfl rfl (fun _ => rfl) r_most_steps_1 (at_cons (xt_var (ea := eI) (g := fun s => s.2.1) (fun _ => rfl)) (at_cons (xt_var (ea := eI) (g := fun s => s.2.2.1) (fun _ => rfl)) at_nil))) (fun x => ((e2 eI (eU eI)) x : D)) (fun _ => rfl)) (ap_consP (XQ.up (ea := (e2 eI (eU eI))) (eb := eX) (xp_tup (eb := (e2 eI (eU eI))) (k := (fun x => (x.1, x.2.1))) (ap_cons (xp_b1T (k := .max) (ea := (eL eI)) (eb := eI) (h := maxT eI) p_max (xt_var (ea := (eL eI)) (g := fun s => s.2.2.2.2.1) (fun _ => rfl))) (ap_consP (xp_idxPT (ea := (eL (eU eI))) (eb := eI) p_atL (xp_lc (ea := (e2 (eU eI) eI)) (eb := (eU eI)) (XT.p (xt_izip (ea := (eL (eU eI))) (eb := (eL eI)) (ec := (eL (e2 (eU eI) eI))) (fun x y => o_zip (isSeq_L x) (isSeq_L y)) (xt_var (ea := (eL (eU eI))) (g := fun s => s.2.2.2.1) (fun _ => rfl)) (xt_var (ea := (eL eI)) (g := fun s => s.2.2.2.2.1) (fun _ => rfl)))) (fun _ => rfl) (fun _ _ => rfl) (fun _ _ => rfl) (fun _ => rfl) (fun _ _ => rfl) (wt := (fun (s : (((List Int) × Int × Int × (List (List Int)) × (List Int) × Unit) × ((List Int) × Int))) => ([none, some (.o ((eL eI) s.1.1)), none, some (.v (eI s.1.2.1)), some (.v (eI s.1.2.2.1)), none, some (.v ((eL (eU eI)) s.1.2.2.2.1)), some (.v ((eU eI) s.2.1)), none, none, some (.v ((eL eI) s.1.2.2.2.2.1)), some (.v (eI s.2.2)), none, none, none, none, none, none, none, none, none, none] : FS))) (xp_cmpTP (ea := eI) (eb := eI) (fun x y => le_some ((o_eq q_int) x y)) (xt_var (ea := eI) (g := fun s => s.2.2) (fun _ => rfl)) (xp_b1T (k := .max) (ea := (eL eI)) (eb := eI) (h := maxT eI) p_max (xt_var (ea := (eL eI)) (g := fun s => s.1.2.2.2.2.1) (fun _ => rfl)))) (XT.p (xt_var (ea := (eU eI)) (g := fun s => s.2.1) (fun _ => rfl)))) (xt_cst (ea := eI) (x := (0 : Int)) rfl)) at_nil)) (fun _ => rfl) (fun _ => rfl)) (fun x => ((e2 eI (eU eI)) x : D)) (fun _ => rfl)) at_nil))))
 (sr_retT (g := (fun x _ => x)) (xt_cst (ea := eB) (x := false) rfl) (fun _ _ => ⟨rfl, rfl⟩))
 sn_skip
 (ss_seqT (sn_fgt (w1 := (fun (s : ((List Int) × Int × Int × (List (List Int)) × Unit)) => ([none, some (.o ((eL eI) s.1)), none, some (.v (eI s.2.1)), some (.v (eI s.2.2.1)), none, some (.v ((eL (eU eI)) s.2.2.2.1)), none, none, none, none, none, none, none, none, none, none, none, none, none, none, none] : FS))) (h := fun s => (s.1, s.2.1, s.2.2.1, s.2.2.2.1, ())) (fun _ => rfl))
 (ss_endT (w1 := (fun (s : ((List Int) × Int × Int × (List (List Int)) × Unit)) => ([none, some (.o ((eL eI) s.1)), none, some (.v (eI s.2.1)), some (.v (eI s.2.2.1)), none, some (.v ((eL (eU eI)) s.2.2.2.1)), none, none, none, none, none, none, none, none, none, none, none, none, none, none, none] : FS))) (h := fun s => (s.1, s.2.1, s.2.2.1, s.2.2.2.1, ())) (fun _ => rfl)))))))))
 (ss_endT (w1 := (fun (s : ((List Int) × Int × Int × (List (List Int)) × Unit)) => ([none, some (.o ((eL eI) s.1)), none, some (.v (eI s.2.1)), some (.v (eI s.2.2.1)), none, some (.v ((eL (eU eI)) s.2.2.2.1)), none, none, none, none, none, none, none, none, none, none, none, none, none, none, none] : FS))) (h := fun s => (s.1, s.2.1, s.2.2.1, s.2.2.2.1, ())) (fun _ => rfl)))
 (ss_seqT (sn_fgt (w1 := (fun (s : ((List Int) × Unit)) => ([none, some (.o ((eL eI) s.1)), none, none, none, none, none, none, none, none, none, none, none, none, none, none, none, none, none, none, none, none] : FS))) (h := fun s => (s.1, ())) (fun _ => rfl))
 (ss_endT (w1 := (fun (s : ((List Int) × Unit)) => ([none, some (.o ((eL eI) s.1)), none, none, none, none, none, none, none, none, none, none, none, none, none, none, none, none, none, none, none, none] : FS))) (h := fun s => (s.1, ())) (fun _ => rfl)))))))))))⟩)
 (sr_frameS (κ := (fun s : ((List Int) × Unit) => ())) (μ := (fun s : ((List Int) × Unit) => (s.1, ()))) (wv := fun (c156 : Unit) => (fun (s : ((List Int) × Unit)) => ([none, some (.o ((eL eI) s.1)), none, none, none, none, none, none, none, none, none, none, none, none, none, none, none, none, none, none, none, none] : FS))) (wv1 := fun (c156 : Unit) => (fun (s : ((List Int) × Unit)) => ([none, some (.o ((eL eI) s.1)), none, none, none, none, none, none, none, none, none, none, none, none, none, none, none, none, none, none, none, none] : FS))) (w2 := (fun (s : ((List Int) × Unit)) => ([none, some (.o ((eL eI) s.1)), none, none, none, none, none, none, none, none, none, none, none, none, none, none, none, none, none, none, none, none] : FS))) (back := (fun (c156 : Unit) (m : ((List Int) × Unit)) => (m.1, ()))) (fun _ => rfl) (fun _ _ => rfl) (fun c156 => ⟨_,
 (ss_forET (ea := eI) (xt_irngk (n := 3) (by decide)) (wt := (fun (s : (((List Int) × Unit) × Int)) => ([none, some (.o ((eL eI) s.1.1)), some (.v (eI s.2)), none, none, none, none, none, none, none, none, none, none, none, none, none, none, none, none, none, none, none] : FS))) (fun _ _ => rfl)
 (ss_seqP (sn_frame (κ := (fun s : (((List Int) × Unit) × Int) => (s.2, ()))) (μ := (fun s : (((List Int) × Unit) × Int) => (s.1.1, ()))) (wv := fun (c164 : (Int × Unit)) => (fun (s : ((List Int) × Unit)) => ([none, some (.o ((eL eI) s.1)), some (.v (eI c164.1)), none, none, none, none, none, none, none, none, none, none, none, none, none, none, none, none, none, none, none] : FS))) (wv1 := fun (c164 : (Int × Unit)) => (fun (s : ((List Int) × Int × Unit)) => ([none, some (.o ((eL eI) s.1)), some (.v (eI c164.1)), some (.v (eI s.2.1)), none, none, none, none, none, none, none, none, none, none, none, none, none, none, none, none, none, none] : FS))) (w2 := (fun (s : ((List Int) × Int × Int × Unit)) => ([none, some (.o ((eL eI) s.1)), some (.v (eI s.2.1)), some (.v (eI s.2.2.1)), none, none, none, none, none, none, none, none, none, none, none, none, none, none, none, none, none, none] : FS))) (back := (fun (c164 : (Int × Unit)) (m : ((List Int) × Int × Unit)) => (m.1, c164.1, m.2.1, ()))) (fun _ => rfl) (fun _ _ => rfl) (fun c164 => ⟨_,
 (sn_set (ea := eI) (xg_bin (ea := eI) (eb := eI) rfl (fun x y => le_some (o_add x y)) (XT.g (xt_cst (ea := eI) (x := (1 : Int)) rfl)) (xg_callcT (ec := (eL eI)) (fd := fd_law_roll) rfl rfl (fun _ => rfl) r_law_roll_1 (g1 := fun s => s.1) (w2 := (fun (s : ((List Int) × Unit)) => ([none, some (.o ((eL eI) s.1)), some (.v (eI c164.1)), none, none, none, none, none, none, none, none, none, none, none, none, none, none, none, none, none, none, none] : FS))) (h := fun s z => (z, ())) (fun _ => rfl) (fun _ _ => rfl) (at_cons (xt_cst (ea := eI) (x := (12 : Int)) rfl) at_nil))) (w2 := (fun (s : ((List Int) × Int × Unit)) => ([none, some (.o ((eL eI) s.1)), some (.v (eI c164.1)), some (.v (eI s.2.1)), none, none, none, none, none, none, none, none, none, none, none, none, none, none, none, none, none, none] : FS))) (h := fun s x => (s.1, x, ())) (fun _ _ => rfl))⟩))
 (ss_seqT (sn_fgt (w1 := (fun (s : ((List Int) × Int × Unit)) => ([none, some (.o ((eL eI) s.1)), none, some (.v (eI s.2.1)), none, none, none, none, none, none, none, none, none, none, none, none, none, none, none, none, none, none] : FS))) (h := fun s => (s.1, s.2.2.1, ())) (fun _ => rfl))
 (ss_seqP (sn_frame (κ := (fun s : ((List Int) × Int × Unit) => (s.2.1, ()))) (μ := (fun s : ((List Int) × Int × Unit) => (s.1, ()))) (wv := fun (c183 : (Int × Unit)) => (fun (s : ((List Int) × Unit)) => ([none, some (.o ((eL eI) s.1)), none, some (.v (eI c183.1)), none, none, none, none, none, none, none, none, none, none, none, none, none, none, none, none, none, none] : FS))) (wv1 := fun (c183 : (Int × Unit)) => (fun (s : ((List Int) × (List Int) × Unit)) => ([none, some (.o ((eL eI) s.1)), none, some (.v (eI c183.1)), none, none, none, none, some (.v ((eU eI) s.2.1)), none, none, none, none, none, none, none, none, none, none, none, none, none] : FS))) (w2 := (fun (s : ((List Int) × Int × (List Int) × Unit)) => ([none, some (.o ((eL eI) s.1)), none, some (.v (eI s.2.1)), none, none, none, none, some (.v ((eU eI) s.2.2.1)), none, none, none, none, none, none, none, none, none, none, none, none, none] : FS))) (back := (fun (c183 : (Int × Unit)) (m : ((List Int) × (List Int) × Unit)) => (m.1, c183.1, m.2.1, ()))) (fun _ => rfl) (fun _ _ => rfl) (fun c183 => ⟨_,
 (sn_set (ea := (eU eI)) (xg_sliU rfl (xg_callc (ec := (eL eI)) (fd := fd_law_turned) rfl rfl (fun _ => rfl) r_law_turned_1 (g0 := fun s => _) (g1 := fun s => s.1) (w2 := (fun (s : ((List Int) × Unit)) => ([none, some (.o ((eL eI) s.1)), none, some (.v (eI c183.1)), none, none, none, none, none, none, none, none, none, none, none, none, none, none, none, none, none, none] : FS))) (h := fun s z => (z, ())) (fun _ => rfl) (fun _ => rfl) (fun _ _ => rfl) (AP.g (ap_consP (xp_rngLT (xt_var (ea := eI) (g := fun s => c183.1) (fun _ => rfl))) at_nil))) bp_none (bp_int rfl (xg_callcT (ec := (eL eI)) (fd := fd_law_roll) rfl rfl (fun _ => rfl) r_law_roll_1 (g1 := fun s => s.1) (w2 := (fun (s : ((List Int) × Unit)) => ([none, some (.o ((eL eI) s.1)), none, some (.v (eI c183.1)), none, none, none, none, none, none, none, none, none, none, none, none, none, none, none, none, none, none] : FS))) (h := fun s z => (z, ())) (fun _ => rfl) (fun _ _ => rfl) (at_cons (xt_bin (ea := eI) (eb := eI) o_add (xt_var (ea := eI) (g := fun s => c183.1) (fun _ => rfl)) (xt_cst (ea := eI) (x := (1 : Int)) rfl)) at_nil)))) (w2 := (fun (s : ((List Int) × (List Int) × Unit)) => ([none, some (.o ((eL eI) s.1)), none, some (.v (eI c183.1)), none, none, none, none, some (.v ((eU eI) s.2.1)), none, none, none, none, none, none, none, none, none, none, none, none, none] : FS))) (h := fun s x => (s.1, x, ())) (fun _ _ => rfl))⟩))
 (ss_seqP (sn_parP (es := (ac (eU eI) (ac eI a0))) (ap_consP (xp_callT (fd := fd_first_for) rfl rfl (fun _ => rfl) r_first_for_1 (at_cons (xt_var (ea := eI) (g := fun s => s.2.1) (fun _ => rfl)) (at_cons (xt_var (ea := (eU eI)) (g := fun s => s.2.2.1) (fun _ => rfl)) at_nil))) (at_cons (xt_cst (ea := eI) (x := (1 : Int)) rfl) at_nil)) (w2 := (fun (s : ((List Int) × Int × (List Int) × (List Int) × Int × Unit)) => ([none, some (.o ((eL eI) s.1)), none, some (.v (eI s.2.1)), none, none, none, none, some (.v ((eU eI) s.2.2.1)), none, none, none, some (.v ((eU eI) s.2.2.2.1)), some (.v (eI s.2.2.2.2.1)), none, none, none, none, none, none, none, none] : FS))) (h := fun s x => (s.1, s.2.1, s.2.2.1, x.1, x.2.1, ())) (fun _ _ => rfl))
 (ss_seqP (sn_frame (κ := (fun s : ((List Int) × Int × (List Int) × (List Int) × Int × Unit) => (s.1, s.2.1, s.2.2.1, s.2.2.2.1, ()))) (μ := (fun s : ((List Int) × Int × (List Int) × (List Int) × Int × Unit) => (s.2.2.2.2.1, ()))) (wv := fun (c200 : ((List Int) × Int × (List Int) × (List Int) × Unit)) => (fun (s : (Int × Unit)) => ([none, some (.o ((eL eI) c200.1)), none, some (.v (eI c200.2.1)), none, none, none, none, some (.v ((eU eI) c200.2.2.1)), none, none, none, some (.v ((eU eI) c200.2.2.2.1)), some (.v (eI s.1)), none, none, none, none, none, none, none, none] : FS))) (wv1 := fun (c200 : ((List Int) × Int × (List Int) × (List Int) × Unit)) => (fun (s : (Int × Unit)) => ([none, some (.o ((eL eI) c200.1)), none, some (.v (eI c200.2.1)), none, none, none, none, some (.v ((eU eI) c200.2.2.1)), none, none, none, some (.v ((eU eI) c200.2.2.2.1)), some (.v (eI s.1)), none, none, none, none, none, none, none, none] : FS))) (w2 := (fun (s : ((List Int) × Int × (List Int) × (List Int) × Int × Unit)) => ([none, some (.o ((eL eI) s.1)), none, some (.v (eI s.2.1)), none, none, none, none, some (.v ((eU eI) s.2.2.1)), none, none, none, some (.v ((eU eI) s.2.2.2.1)), some (.v (eI s.2.2.2.2.1)), none, none, none, none, none, none, none, none] : FS))) (back := (fun (c200 : ((List Int) × Int × (List Int) × (List Int) × Unit)) (m : (Int × Unit)) => (c200.1, c200.2.1, c200.2.2.1, c200.2.2.2.1, m.1, ()))) (fun _ => rfl) (fun _ _ => rfl) (fun c200 => ⟨_,
 (sn_for (ea := eI) (xp_irngT (xt_b1 (eb := eI) (ea := (eU eI)) o_lenU (xt_var (ea := (eU eI)) (g := fun s => c200.2.2.1) (fun _ => rfl)))) (wt := (fun (s : ((Int × Unit) × Int)) => ([none, some (.o ((eL eI) c200.1)), none, some (.v (eI c200.2.1)), none, none, none, none, some (.v ((eU eI) c200.2.2.1)), none, none, none, some (.v ((eU eI) c200.2.2.2.1)), some (.v (eI s.1.1)), some (.v (eI s.2)), none, none, none, none, none, none, none] : FS))) (fun _ _ => rfl)
 (sn_seqT (sn_setT (ea := eI) (xt_cst (ea := eI) (x := (1 : Int)) rfl) (w2 := (fun (s : (Int × Int × Int × Unit)) => ([none, some (.o ((eL eI) c200.1)), none, some (.v (eI c200.2.1)), none, none, none, none, some (.v ((eU eI) c200.2.2.1)), none, none, none, some (.v ((eU eI) c200.2.2.2.1)), some (.v (eI s.1)), some (.v (eI s.2.1)), some (.v (eI s.2.2.1)), none, none, none, none, none, none] : FS))) (h := fun s x => (s.1.1, s.2, x, ())) (fun _ _ => rfl))
 (sn_seqP (sn_frame (κ := (fun s : (Int × Int × Int × Unit) => (s.1, s.2.1, ()))) (μ := (fun s : (Int × Int × Int × Unit) => (s.2.2.1, ()))) (wv := fun (c204 : (Int × Int × Unit)) => (fun (s : (Int × Unit)) => ([none, some (.o ((eL eI) c200.1)), none, some (.v (eI c200.2.1)), none, none, none, none, some (.v ((eU eI) c200.2.2.1)), none, none, none, some (.v ((eU eI) c200.2.2.2.1)), some (.v (eI c204.1)), some (.v (eI c204.2.1)), some (.v (eI s.1)), none, none, none, none, none, none] : FS))) (wv1 := fun (c204 : (Int × Int × Unit)) => (fun (s : (Int × Unit)) => ([none, some (.o ((eL eI) c200.1)), none, some (.v (eI c200.2.1)), none, none, none, none, some (.v ((eU eI) c200.2.2.1)), none, none, none, some (.v ((eU eI) c200.2.2.2.1)), some (.v (eI c204.1)), some (.v (eI c204.2.1)), some (.v (eI s.1)), none, none, none, none, none, none] : FS))) (w2 := (fun (s : (Int × Int × Int × Unit)) => ([none, some (.o ((eL eI) c200.1)), none, some (.v (eI c200.2.1)), none, none, none, none, some (.v ((eU eI) c200.2.2.1)), none, none, none, some (.v ((eU eI) c200.2.2.2.1)), some (.v (eI s.1)), some (.v (eI s.2.1)), some (.v (eI s.2.2.1)), none, none, none, none, none, none] : FS))) (back := (fun (c204 : (Int × Int × Unit)) (m : (Int × Unit)) => (c204.1, c204.2.1, m.1, ()))) (fun _ => rfl) (fun _ _ => rfl) (fun c204 => ⟨_,
 (sn_for (ea := eI) (xp_irng2TT (xt_cst (ea := eI) (x := (1 : Int)) rfl) (xt_var (ea := eI) (g := fun s => c200.2.1) (fun _ => rfl))) (wt := (fun (s : ((Int × Unit) × Int)) => ([none, some (.o ((eL eI) c200.1)), none, some (.v (eI c200.2.1)), none, none, none, none, some (.v ((eU eI) c200.2.2.1)), none, none, none, some (.v ((eU eI) c200.2.2.2.1)), some (.v (eI c204.1)), some (.v (eI c204.2.1)), some (.v (eI s.1.1)), some (.v (eI s.2)), none, none, none, none, none] : FS))) (fun _ _ => rfl)
 (sn_seqP (sn_setP (ea := eI) (xp_ite (xp_andT (xt_cmp (ea := eI) (eb := eI) (o_eq q_int) (xt_var (ea := eI) (g := fun s => s.1.1) (fun _ => rfl)) (xt_var (ea := eI) (g := fun s => s.2) (fun _ => rfl))) (xp_cmpPT (ea := eI) (eb := (eU eI)) (fun x y => le_some ((o_inU q_int) x y)) (xp_binPT (ea := eI) (eb := eI) (fun x y => le_some (o_sub x y)) (xp_idxTT (ea := (eU eI)) (eb := eI) p_atU (xt_var (ea := (eU eI)) (g := fun s => c200.2.2.1) (fun _ => rfl)) (xt_var (ea := eI) (g := fun s => c204.2.1) (fun _ => rfl))) (xt_var (ea := eI) (g := fun s => s.2) (fun _ => rfl))) (xt_sliU (xt_var (ea := (eU eI)) (g := fun s => c200.2.2.1) (fun _ => rfl)) bp_none (bp_intT rfl (xt_var (ea := eI) (g := fun s => c204.2.1) (fun _ => rfl)))))) (XT.p (xt_bin (ea := eI) (eb := eI) o_add (xt_var (ea := eI) (g := fun s => s.1.1) (fun _ => rfl)) (xt_cst (ea := eI) (x := (1 : Int)) rfl))) (XT.p (xt_var (ea := eI) (g := fun s => s.1.1) (fun _ => rfl)))) (w2 := (fun (s : (Int × Int × Unit)) => ([none, some (.o ((eL eI) c200.1)), none, some (.v (eI c200.2.1)), none, none, none, none, some (.v ((eU eI) c200.2.2.1)), none, none, none, some (.v ((eU eI) c200.2.2.2.1)), some (.v (eI c204.1)), some (.v (eI c204.2.1)), some (.v (eI s.1)), some (.v (eI s.2.1)), none, none, none, none, none] : FS))) (h := fun s x => (x, s.2, ())) (fun _ _ => rfl))
 (sn_seqT (sn_fgt (w1 := (fun (s : (Int × Unit)) => ([none, some (.o ((eL eI) c200.1)), none, some (.v (eI c200.2.1)), none, none, none, none, some (.v ((eU eI) c200.2.2.1)), none, none, none, some (.v ((eU eI) c200.2.2.2.1)), some (.v (eI c204.1)), some (.v (eI c204.2.1)), some (.v (eI s.1)), none, none, none, none, none, none] : FS))) (h := fun s => (s.1, ())) (fun _ => rfl))
 (sn_endT (w1 := (fun (s : (Int × Unit)) => ([none, some (.o ((eL eI) c200.1)), none, some (.v (eI c200.2.1)), none, none, none, none, some (.v ((eU eI) c200.2.2.1)), none, none, none, some (.v ((eU eI) c200.2.2.2.1)), some (.v (eI c204.1)), some (.v (eI c204.2.1)), some (.v (eI s.1)), none, none, none, none, none, none] : FS))) (h := fun s => (s.1, ())) (fun _ => rfl)))))⟩))
 (sn_seqT (sn_fgt (w1 := (fun (s : (Int × Int × Unit)) => ([none, some (.o ((eL eI) c200.1)), none, some (.v (eI c200.2.1)), none, none, none, none, some (.v ((eU eI) c200.2.2.1)), none, none, none, some (.v ((eU eI) c200.2.2.2.1)), some (.v (eI s.1)), none, some (.v (eI s.2.1)), none, none, none, none, none, none] : FS))) (h := fun s => (s.1, s.2.2.1, ())) (fun _ => rfl))
 (sn_seqP (sn_setP (ea := eI) (xp_binTT (ea := eI) (eb := eI) p_mul (xt_var (ea := eI) (g := fun s => s.1) (fun _ => rfl)) (xt_var (ea := eI) (g := fun s => s.2.1) (fun _ => rfl))) (w2 := (fun (s : (Int × Int × Unit)) => ([none, some (.o ((eL eI) c200.1)), none, some (.v (eI c200.2.1)), none, none, none, none, some (.v ((eU eI) c200.2.2.1)), none, none, none, some (.v ((eU eI) c200.2.2.2.1)), some (.v (eI s.1)), none, some (.v (eI s.2.1)), none, none, none, none, none, none] : FS))) (h := fun s x => (x, s.2.1, ())) (fun _ _ => rfl))
 (sn_seqT (sn_fgt (w1 := (fun (s : (Int × Unit)) => ([none, some (.o ((eL eI) c200.1)), none, some (.v (eI c200.2.1)), none, none, none, none, some (.v ((eU eI) c200.2.2.1)), none, none, none, some (.v ((eU eI) c200.2.2.2.1)), some (.v (eI s.1)), none, none, none, none, none, none, none, none] : FS))) (h := fun s => (s.1, ())) (fun _ => rfl))
 (sn_endT (w1 := (fun (s : (Int × Unit)) => ([none, some (.o ((eL eI) c200.1)), none, some (.v (eI c200.2.1)), none, none, none, none, some (.v ((eU eI) c200.2.2.1)), none, none, none, some (.v ((eU eI) c200.2.2.2.1)), some (.v (eI s.1)), none, none, none, none, none, none, none, none] : FS))) (h := fun s => (s.1, ())) (fun _ => rfl))))))))⟩))
 (ss_leavePk (xp_or (xp_cmpPT (ea := (eU (eO eI))) (eb := (eU (eO eI))) (fun x y => le_some ((o_ne (q_tup (q_opt q_int (fun _ => rfl)))) x y)) (xp_callT (fd := fd_places) rfl rfl (fun _ => rfl) r_places_1 (at_cons (xt_tup (eb := (e2 eI (eU eI))) (k := (fun x => (x.1, x.2.1))) (at_cons (xt_var (ea := eI) (g := fun s => s.2.1) (fun _ => rfl)) (at_cons (xt_var (ea := (eU eI)) (g := fun s => s.2.2.2.1) (fun _ => rfl)) at_nil)) (fun _ => rfl) (fun _ => rfl)) at_nil)) (XT.up (ea := (eU eI)) (eb := (eU (eO eI))) (xt_var (ea := (eU eI)) (g := fun s => s.2.2.1) (fun _ => rfl)) (fun x => List.map some x) (up_U (fun _ => rfl)))) (xp_or (xp_not (xp_call (fd := fd_law_same 6) rfl rfl (fun _ => rfl) r_same (ap_consP (XQ.up (ea := eI) (eb := eX) (xp_callT (fd := fd_count_for) rfl rfl (fun _ => rfl) r_count_for_1 (at_cons (xt_var (ea := eI) (g := fun s => s.2.1) (fun _ => rfl)) (at_cons (xt_var (ea := (eU eI)) (g := fun s => s.2.2.1) (fun _ => rfl)) at_nil))) (fun x => (eI x : D)) (fun _ => rfl)) (at_cons (XT.up (ea := eI) (eb := eX) (xt_var (ea := eI) (g := fun s => s.2.2.2.2.1) (fun _ => rfl)) (fun x => (eI x : D)) (fun _ => rfl)) at_nil)))) (xp_cmpPT (ea := (eL eI)) (eb := (eL eI)) (fun x y => le_some ((o_ne (q_lst q_int)) x y)) (xt_lc (ea := (e2 eI eI)) (eb := eI) (XT.p (xt_izip (ea := (eU eI)) (eb := (eU eI)) (ec := (eL (e2 eI eI))) (fun x y => o_zip (isSeq_U x) (isSeq_U y)) (xt_var (ea := (eU eI)) (g := fun s => s.2.2.2.1) (fun _ => rfl)) (xt_var (ea := (eU eI)) (g := fun s => s.2.2.1) (fun _ => rfl)))) (fun _ => rfl) (fun _ _ => rfl) (fun _ _ => rfl) (fun _ => rfl) (fun _ _ => rfl) (wt := (fun (s : (((List Int) × Int × (List Int) × (List Int) × Int × Unit) × (Int × Int))) => ([none, some (.o ((eL eI) s.1.1)), none, some (.v (eI s.1.2.1)), none, none, none, none, some (.v ((eU eI) s.1.2.2.1)), none, none, none, some (.v ((eU eI) s.1.2.2.2.1)), some (.v (eI s.1.2.2.2.2.1)), none, none, none, some (.v (eI s.2.1)), some (.v (eI s.2.2)), none, none, none] : FS))) (xt_cmp (ea := eI) (eb := eI) o_gt (xt_var (ea := eI) (g := fun s => s.2.1) (fun _ => rfl)) (xt_var (ea := eI) (g := fun s => s.2.2) (fun _ => rfl))) (xt_cst (ea := eI) (x := (1 : Int)) rfl)) (xt_lst at_nil (eb := (eL eI)) (k := fun _ => []) (fun _ => rfl) (fun _ => rfl)))))
 (sr_retT (g := (fun x _ => x)) (xt_cst (ea := eB) (x := false) rfl) (fun _ _ => ⟨rfl, rfl⟩))
 sn_skip
 (ss_seqT (sn_fgt (w1 := (fun (s : ((List Int) × Int × (List Int) × Int × Unit)) => ([none, some (.o ((eL eI) s.1)), none, some (.v (eI s.2.1)), none, none, none, none, some (.v ((eU eI) s.2.2.1)), none, none, none, none, some (.v (eI s.2.2.2.1)), none, none, none, none, none, none, none, none] : FS))) (h := fun s => (s.1, s.2.1, s.2.2.1, s.2.2.2.2.1, ())) (fun _ => rfl))
 (ss_seqP (sn_setP (ea := (e2 eI eI)) (xp_callT (fd := fd_count_finding) rfl rfl (fun _ => rfl) r_count_finding_1 (at_cons (xt_var (ea := eI) (g := fun s => s.2.1) (fun _ => rfl)) (at_cons (xt_b1 (eb := eI) (ea := (eU eI)) o_lenU (xt_var (ea := (eU eI)) (g := fun s => s.2.2.1) (fun _ => rfl))) at_nil))) (w2 := (fun (s : ((List Int) × Int × (List Int) × Int × Int × Int × Unit)) => ([none, some (.o ((eL eI) s.1)), none, some (.v (eI s.2.1)), none, none, none, none, some (.v ((eU eI) s.2.2.1)), none, none, none, none, some (.v (eI s.2.2.2.1)), none, none, none, none, none, some (.v (eI s.2.2.2.2.1)), some (.v (eI s.2.2.2.2.2.1)), none] : FS))) (h := fun s x => (s.1, s.2.1, s.2.2.1, s.2.2.2.1, x.1, x.2, ())) (fun _ _ => rfl))
 (ss_leavePk (xp_orT (xt_cmp (ea := eI) (eb := eI) o_gt (xt_var (ea := eI) (g := fun s => s.2.2.2.2.2.1) (fun _ => rfl)) (xt_var (ea := eI) (g := fun s => s.2.2.2.2.1) (fun _ => rfl))) (xp_orT (xt_cmp (ea := eI) (eb := eI) o_gt (xt_var (ea := eI) (g := fun s => s.2.2.2.1) (fun _ => rfl)) (xt_var (ea := eI) (g := fun s => s.2.2.2.2.2.1) (fun _ => rfl))) (xp_andT (xt_cmp (ea := eI) (eb := eI) o_gt (xt_b1 (eb := eI) (ea := (eU eI)) o_lenU (xt_var (ea := (eU eI)) (g := fun s => s.2.2.1) (fun _ => rfl))) (xt_cst (ea := eI) (x := (0 : Int)) rfl)) (xp_cmpTP (ea := eI) (eb := eI) (fun x y => le_some ((o_ne q_int) x y)) (xt_var (ea := eI) (g := fun s => s.2.2.2.2.2.1) (fun _ => rfl)) (xp_binTP (ea := eI) (eb := eI) p_mul (xt_bin (ea := eI) (eb := eI) o_sub (xt_bin (ea := eI) (eb := eI) o_add (xt_var (ea := eI) (g := fun s => s.2.1) (fun _ => rfl)) (xt_cst (ea := eI) (x := (1 : Int)) rfl)) (xt_b1 (eb := eI) (ea := (eU eI)) o_lenU (xt_var (ea := (eU eI)) (g := fun s => s.2.2.1) (fun _ => rfl)))) (xp_callT (fd := fd_law_power) rfl rfl (fun _ => rfl) r_law_power_1 (at_cons (xt_bin (ea := eI) (eb := eI) o_add (xt_var (ea := eI) (g := fun s => s.2.1) (fun _ => rfl)) (xt_cst (ea := eI) (x := (1 : Int)) rfl)) (at_cons (xt_bin (ea := eI) (eb := eI) o_sub (xt_b1 (eb := eI) (ea := (eU eI)) o_lenU (xt_var (ea := (eU eI)) (g := fun s => s.2.2.1) (fun _ => rfl))) (xt_cst (ea := eI) (x := (1 : Int)) rfl)) at_nil))))))))
 (sr_retT (g := (fun x _ => x)) (xt_cst (ea := eB) (x := false) rfl) (fun _ _ => ⟨rfl, rfl⟩))
 sn_skip
 (ss_seqT (sn_fgt (w1 := (fun (s : ((List Int) × Unit)) => ([none, some (.o ((eL eI) s.1)), none, none, none, none, none, none, none, none, none, none, none, none, none, none, none, none, none, none, none, none] : FS))) (h := fun s => (s.1, ())) (fun _ => rfl))
 (ss_endT (w1 := (fun (s : ((List Int) × Unit)) => ([none, some (.o ((eL eI) s.1)), none, none, none, none, none, none, none, none, none, none, none, none, none, none, none, none, none, none, none, none] : FS))) (h := fun s => (s.1, ())) (fun _ => rfl)))))))))))))⟩)
 (sr_seqP (sn_frame (κ := (fun s : ((List Int) × Unit) => ())) (μ := (fun s : ((List Int) × Unit) => (s.1, ()))) (wv := fun (c242 : Unit) => (fun (s : ((List Int) × Unit)) => ([none, some (.o ((eL eI) s.1)), none, none, none, none, none, none, none, none, none, none, none, none, none, none, none, none, none, none, none, none] : FS))) (wv1 := fun (c242 : Unit) => (fun (s : ((List Int) × Int × Unit)) => ([none, some (.o ((eL eI) s.1)), none, some (.v (eI s.2.1)), none, none, none, none, none, none, none, none, none, none, none, none, none, none, none, none, none, none] : FS))) (w2 := (fun (s : ((List Int) × Int × Unit)) => ([none, some (.o ((eL eI) s.1)), none, some (.v (eI s.2.1)), none, none, none, none, none, none, none, none, none, none, none, none, none, none, none, none, none, none] : FS))) (back := (fun (c242 : Unit) (m : ((List Int) × Int × Unit)) => (m.1, m.2.1, ()))) (fun _ => rfl) (fun _ _ => rfl) (fun c242 => ⟨_,
 (sn_set (ea := eI) (xg_bin (ea := eI) (eb := eI) rfl (fun x y => le_some (o_add x y)) (XT.g (xt_cst (ea := eI) (x := (1 : Int)) rfl)) (xg_callcT (ec := (eL eI)) (fd := fd_law_roll) rfl rfl (fun _ => rfl) r_law_roll_1 (g1 := fun s => s.1) (w2 := (fun (s : ((List Int) × Unit)) => ([none, some (.o ((eL eI) s.1)), none, none, none, none, none, none, none, none, none, none, none, none, none, none, none, none, none, none, none, none] : FS))) (h := fun s z => (z, ())) (fun _ => rfl) (fun _ _ => rfl) (at_cons (xt_cst (ea := eI) (x := (12 : Int)) rfl) at_nil))) (w2 := (fun (s : ((List Int) × Int × Unit)) => ([none, some (.o ((eL eI) s.1)), none, some (.v (eI s.2.1)), none, none, none, none, none, none, none, none, none, none, none, none, none, none, none, none, none, none] : FS))) (h := fun s x => (s.1, x, ())) (fun _ _ => rfl))⟩))
 (sr_seqT (sn_fgt (w1 := (fun (s : (Int × Unit)) => ([none, none, none, some (.v (eI s.1)), none, none, none, none, none, none, none, none, none, none, none, none, none, none, none, none, none, none] : FS))) (h := fun s => (s.2.1, ())) (fun _ => rfl))
 (sr_seqP (sn_setP (ea := (e4 eI (e2 eI eI) (e2 eI eI) (e2 eI (eU eI)))) (xp_tup (eb := (e4 eI (e2 eI eI) (e2 eI eI) (e2 eI (eU eI)))) (k := (fun x => (x.1, x.2.1, x.2.2.1, x.2.2.2.1))) (ap_cons (xp_idxk (ea := (e2 eI eI)) (ec := eI) (h := fun x => .ok x.2) (fun _ => rfl) (xp_callT (fd := fd_count_finding) rfl rfl (fun _ => rfl) r_count_finding_1 (at_cons (xt_var (ea := eI) (g := fun s => s.1) (fun _ => rfl)) (at_cons (xt_var (ea := eI) (g := fun s => s.1) (fun _ => rfl)) at_nil)))) (ap_cons (xp_callT (fd := fd_count_finding) rfl rfl (fun _ => rfl) r_count_finding_1 (at_cons (xt_var (ea := eI) (g := fun s => s.1) (fun _ => rfl)) (at_cons (xt_cst (ea := eI) (x := (1 : Int)) rfl) at_nil))) (ap_cons (xp_callT (fd := fd_count_finding) rfl rfl (fun _ => rfl) r_count_finding_1 (at_cons (xt_var (ea := eI) (g := fun s => s.1) (fun _ => rfl)) (at_cons (xt_cst (ea := eI) (x := (0 : Int)) rfl) at_nil))) (ap_consP (xp_callT (fd := fd_most_steps) rfl rfl (fun _ => rfl) r_most_steps_1 (at_cons (xt_var (ea := eI) (g := fun s => s.1) (fun _ => rfl)) (at_cons (xt_var (ea := eI) (g := fun s => s.1) (fun _ => rfl)) at_nil))) at_nil)))) (fun _ => rfl) (fun _ => rfl)) (w2 := (fun (s : (Int × (Int × (Int × Int) × (Int × Int) × (Int × (List Int))) × Unit)) => ([none, none, none, some (.v (eI s.1)), none, none, none, none, none, none, none, none, none, none, none, none, none, none, none, none, none, some (.v ((e4 eI (e2 eI eI) (e2 eI eI) (e2 eI (eU eI))) s.2.1))] : FS))) (h := fun s x => (s.1, x, ())) (fun _ _ => rfl))
 (sr_retV (xp_call (fd := fd_law_same 6) rfl rfl (fun _ => rfl) r_same (ap_consT (XT.up (ea := (e4 eI (e2 eI eI) (e2 eI eI) (e2 eI (eU eI)))) (eb := eX) (xt_var (ea := (e4 eI (e2 eI eI) (e2 eI eI) (e2 eI (eU eI)))) (g := fun s => s.2.1) (fun _ => rfl)) (fun x => ((e4 eI (e2 eI eI) (e2 eI eI) (e2 eI (eU eI))) x : D)) (fun _ => rfl)) (ap_consP (XQ.up (ea := (e4 eI (e2 eI eI) (e2 eI eI) (e2 eI (eU eI)))) (eb := eX) (xp_tup (eb := (e4 eI (e2 eI eI) (e2 eI eI) (e2 eI (eU eI)))) (k := (fun x => (x.1, x.2.1, x.2.2.1, x.2.2.2.1))) (ap_cons (xp_callT (fd := fd_law_power) rfl rfl (fun _ => rfl) r_law_power_1 (at_cons (xt_bin (ea := eI) (eb := eI) o_add (xt_var (ea := eI) (g := fun s => s.1) (fun _ => rfl)) (xt_cst (ea := eI) (x := (1 : Int)) rfl)) (at_cons (xt_bin (ea := eI) (eb := eI) o_sub (xt_var (ea := eI) (g := fun s => s.1) (fun _ => rfl)) (xt_cst (ea := eI) (x := (1 : Int)) rfl)) at_nil))) (ap_consT (xt_tup (eb := (e2 eI eI)) (k := (fun x => (x.1, x.2.1))) (at_cons (xt_var (ea := eI) (g := fun s => s.1) (fun _ => rfl)) (at_cons (xt_var (ea := eI) (g := fun s => s.1) (fun _ => rfl)) at_nil)) (fun _ => rfl) (fun _ => rfl)) (ap_consT (xt_tup (eb := (e2 eI eI)) (k := (fun x => (x.1, x.2.1))) (at_cons (xt_cst (ea := eI) (x := (1 : Int)) rfl) (at_cons (xt_cst (ea := eI) (x := (1 : Int)) rfl) at_nil)) (fun _ => rfl) (fun _ => rfl)) (ap_consP (xp_tup (eb := (e2 eI (eU eI))) (k := (fun x => (x.1, x.2.1))) (ap_cons (xp_bink (ea := eI) (fun x => le_some ((o_fdivc 2 (by decide)) x)) (xp_binTT (ea := eI) (eb := eI) p_mul (xt_var (ea := eI) (g := fun s => s.1) (fun _ => rfl)) (xt_bin (ea := eI) (eb := eI) o_sub (xt_var (ea := eI) (g := fun s => s.1) (fun _ => rfl)) (xt_cst (ea := eI) (x := (1 : Int)) rfl)))) (ap_consP (xp_binTT (ea := (eU eI)) (eb := eI) p_repU (xt_tup (eb := (eU eI)) (k := (fun x => [x.1])) (at_cons (xt_cst (ea := eI) (x := (0 : Int)) rfl) at_nil) (fun _ => rfl) (fun _ => rfl)) (xt_var (ea := eI) (g := fun s => s.1) (fun _ => rfl))) at_nil)) (fun _ => rfl) (fun _ => rfl)) at_nil)))) (fun _ => rfl) (fun _ => rfl)) (fun x => ((e4 eI (e2 eI eI) (e2 eI eI) (e2 eI (eU eI))) x : D)) (fun _ => rfl)) at_nil))) (fun _ _ => ⟨rfl, rfl⟩)))))))))
  exact rf_srE rfl rfl (fun _ _ => rfl) h rfl
end Lw

set_option Elab.async false
set_option linter.all false
set_option maxRecDepth 100000
set_option maxHeartbeats 1000000
namespace Lw
open PySem Fw
theorem rng_nil {a b : Int} (h : b ≤ a) : rng a b = [] := by
  unfold rng
  have : (b - a).toNat = 0 := by omega
  rw [this]; rfl
theorem rng_cons {a b : Int} (h : a < b) : rng a b = a :: rng (a + 1) b := by
  unfold rng
  obtain ⟨n, hn⟩ : ∃ n : Nat, (b - a).toNat = n + 1 := ⟨(b - a).toNat - 1, by omega⟩
  have h2 : (b - (a + 1)).toNat = n := by omega
  rw [hn, h2, List.range_succ_eq_map, List.map_cons, List.map_map]
  congr 1
  · omega
  · refine List.map_congr_left fun i _ => ?_
    show a + ((i + 1 : Nat) : Int) = a + 1 + (i : Int)
    omega
theorem rng_append {a b c : Int} (h : a ≤ b) (h2 : b ≤ c) : rng a c = rng a b ++ rng b c := by
  obtain ⟨n, hn⟩ : ∃ n : Nat, b = a + n := ⟨(b - a).toNat, by omega⟩
  subst hn
  induction n generalizing a with
  | zero => rw [rng_nil (b := a + ((0 : Nat) : Int)) (by omega)]; simp
  | succ n ih =>
    rw [rng_cons (a := a) (b := c) (by omega), rng_cons (a := a) (b := a + ((n + 1 : Nat) : Int)) (by omega)]
    have e : a + ((n + 1 : Nat) : Int) = a + 1 + (n : Int) := by omega
    rw [e, List.cons_append, ← ih (a := a + 1) (by omega) (by omega)]
theorem find_rng {p : Int → Bool} {w r m : Int} (h1 : w ≤ r) (h2 : ∀ s, w ≤ s → s < r → p s = false) (h3 : r < m → p r = true) (h4 : r ≤ m) : (rng w m).find? p = if r < m then some r else none := by
  rw [rng_append h1 h4, List.find?_append]
  have e : (rng w r).find? p = none := by
    rw [List.find?_eq_none]
    intro s hs
    have := mem_rng.mp hs
    rw [h2 s this.1 this.2]; decide
  rw [e]
  by_cases h : r < m
  · rw [rng_cons h, List.find?_cons, h3 h, if_pos h]; rfl
  · rw [rng_nil (by omega), if_neg h]; rfl
theorem find_none_rng {p : Int → Bool} {w m : Int} (h : m < w) : (rng w m).find? p = none := by rw [rng_nil (by omega)]; rfl

/-! ### draws -/
theorem e_roll {c : List Int} {m : Int} (h : Cup c) (hm : 0 < m) (hm2 : m < 1073741824) : ∃ r c', t_law_roll_1 c m = .ok (r, c') ∧ Cup c' ∧ 0 ≤ r ∧ r < m := by
  obtain ⟨a, b, rfl, ha, hb⟩ := h
  have e0 : atG [a, b] (0 : Int) = .ok a := rfl
  have s0 : ∀ x : Int, setG [a, b] (0 : Int) x = .ok [x, b] := fun x => setG_nat (i := 0) (by simp)
  have s1 : ∀ x : Int, setG [a, b] (1 : Int) x = .ok [a, x] := fun x => setG_nat (i := 1) (by simp)
  have e1 : ∀ x : Int, atG [a, x] (1 : Int) = .ok x := fun x => rfl
  unfold t_law_roll_1
  by_cases h0 : 0 < a
  · refine ⟨a % m, [a / m, b], ?_, ⟨_, _, rfl, Int.ediv_nonneg ha (Int.le_of_lt hm), hb⟩, Int.emod_nonneg _ (by omega), Int.emod_lt_of_pos _ hm⟩
    simp only [e0, bok, decide_eq_true h0, if_true, modG_ok hm, fdivG_ok hm hm2, s0]
  · have hb2 : 0 ≤ (b * 30881 + 7879) % 2147483399 := Int.emod_nonneg _ (by decide)
    have hb3 : (b * 30881 + 7879) % 2147483399 < 2147483399 := Int.emod_lt_of_pos _ (by decide)
    refine ⟨(b * 30881 + 7879) % 2147483399 * ((b * 30881 + 7879) % 2147483399 + 233) % 2147483563 / 821 % m, [a, (b * 30881 + 7879) % 2147483399], ?_, ⟨_, _, rfl, ha, hb2⟩, Int.emod_nonneg _ (by omega), Int.emod_lt_of_pos _ hm⟩
    simp only [e0, e1, bok, decide_eq_false h0, if_false, s1, Bool.false_eq_true]
    rw [mulG_ok (by omega) (by omega)]
    simp only [bok, modG_ok hm]
theorem e_some {c : List Int} {l : List (List Int)} (h : Cup c) (hl : l ≠ []) (h2 : l.length < 1000000) : ∃ x c', t_law_some_1 c l = .ok (x, c') ∧ Cup c' ∧ x ∈ l := by
  have hp : 0 < l.length := List.length_pos_iff.mpr hl
  obtain ⟨r, c', e, hc, h0, hr⟩ := e_roll (m := (l.length : Int)) h (by omega) (by omega)
  obtain ⟨n, rfl⟩ := Int.eq_ofNat_of_zero_le h0
  have hn : n < l.length := by omega
  refine ⟨l[n], c', ?_, hc, List.getElem_mem hn⟩
  unfold t_law_some_1
  simp only [e, bok, atG_nat hn]
/-- wishes as they may be -/
structure Wi (many : Int) (own : List Int) : Prop where
  m1 : 1 ≤ many
  m2 : many ≤ 12
  len : own.length ≤ 12
  ok : ∀ x ∈ own, 0 ≤ x ∧ x < many
/-! ### who lies where -/
def nxt (many : Int) (acc : List (Option Int)) (w : Int) : Option Int := (rng w many).find? fun s => !memT (some s) acc
def plc (many : Int) : List (Option Int) → List Int → List (Option Int)
  | acc, [] => acc
  | acc, w :: r => plc many (acc ++ [nxt many acc w]) r
theorem plc_app (many : Int) : ∀ (acc : List (Option Int)) (l m : List Int), plc many acc (l ++ m) = plc many (plc many acc l) m
  | acc, [], m => rfl
  | acc, w :: r, m => plc_app many _ r m
theorem plc_len (many : Int) : ∀ (acc : List (Option Int)) (l : List Int), (plc many acc l).length = acc.length + l.length
  | acc, [] => by simp [plc]
  | acc, w :: r => by
    show (plc many (acc ++ [nxt many acc w]) r).length = _
    rw [plc_len]; simp; omega
theorem head_filter {p : Int → Bool} (l : List Int) : (l.filter p).head? = l.find? p := by rw [← List.head?_filter]
theorem nxt_lt {many w s : Int} {acc : List (Option Int)} (h : nxt many acc w = some s) : w ≤ s ∧ s < many ∧ some s ∉ acc := by
  unfold nxt at h
  have h1 := List.mem_of_find?_eq_some h
  have h2 := List.find?_some h
  have := mem_rng.mp h1
  refine ⟨this.1, this.2, fun z => ?_⟩
  simp [memT, z] at h2
theorem dGet_put {k v : Int} {b : Bool} : ∀ kvs : List (Int × Bool), (dGet k (dPut v b kvs)).isSome = ((dGet k kvs).isSome || decide (k = v)) := by
  have g1 : ∀ (k : Int) (l : List (Int × Bool)), (dGet k l).isSome = true ↔ k ∈ l.map (·.1) := by
    intro k l
    induction l with
    | nil => simp [dGet]
    | cons a r ih =>
      obtain ⟨x, y⟩ := a
      unfold dGet
      by_cases h : x = k
      · simp [h]
      · have h' : ¬ k = x := fun z => h z.symm
        simp [h, h', ih]
  intro kvs
  rw [Bool.eq_iff_iff, g1, Bool.or_eq_true, g1, decide_eq_true_eq]
  unfold dPut
  by_cases h : (dGet v kvs).isSome = true
  · rw [if_pos h]
    have hm := (g1 v kvs).mp h
    have e : (kvs.map fun p => if p.1 = v then (p.1, b) else p).map (·.1) = kvs.map (·.1) := by
      rw [List.map_map]
      refine List.map_congr_left fun p _ => ?_
      show (if p.1 = v then (p.1, b) else p).1 = p.1
      split <;> rfl
    rw [e]
    exact ⟨Or.inl, fun z => z.elim id fun z => z ▸ hm⟩
  · rw [if_neg h, List.map_append]
    simp
theorem dPut_len {v : Int} {b : Bool} (kvs : List (Int × Bool)) : (dPut v b kvs).length ≤ kvs.length + 1 := by
  unfold dPut
  split <;> simp
theorem e_placed {many : Int} {own : List Int} (h : Wi many own) : t_placed_1 (many, own) = .ok (plc many [] own) := by
  unfold t_placed_1
  have key : ∃ t', forN (fun (i172 : Int) (t173 : ((List (Int × Bool)) × (List (Option Int)) × Unit)) =>
 (((rngG i172 many) >>= fun x176 => (fits ((x176.filter fun (i175 : Int) => (!(dGet i175 t173.1).isSome)).map fun (i175 : Int) => i175))) >>= fun free_177 =>
 ((((if (!eqT free_177 ([] : (List Int))) = true then ((atG free_177 (0 : Int)) >>= fun x182 => Out.ok (some x182)) else (Out.ok ((fun _ => (none : (Option Int))) ()))) >>= fun x184 => appG t173.2.1 x184 >>= fun l183 => Out.ok ((), (l183, ()))) >>= fun q185 => Out.ok q185.2) >>= fun m186 =>
 ((if (!eqT free_177 ([] : (List Int))) = true then (((atG free_177 (0 : Int)) >>= fun x190 => (putG t173.1 x190 true >>= fun l189 => Out.ok (l189, ()))) >>= fun m191 =>
 (Out.ok (m191.1, ()))) else (Out.ok (t173.1, ()))) >>= fun m192 =>
 (Out.ok (m192.1, m186.1, ())))))) own ([], [], ()) = .ok t' ∧ (t'.2.1 = plc many [] ([] ++ own) ∧ (∀ s, (dGet s t'.1).isSome = memT (some s) t'.2.1) ∧ t'.1.length ≤ 12) := by
    refine forN_inv (I := fun pre t => t.2.1 = plc many [] pre ∧ (∀ s, (dGet s t.1).isSome = memT (some s) t.2.1) ∧ t.1.length ≤ pre.length) [] ⟨rfl, fun s => by simp [dGet, memT], by simp⟩ ?_ |>.imp fun t' q => ⟨q.1, q.2.1, q.2.2.1, Nat.le_trans q.2.2.2 h.len⟩
    rintro p w r ⟨tk, fd, _⟩ e ⟨rfl, hd, hz⟩
    have hw : 0 ≤ w ∧ w < many := h.ok w (by rw [show own = p ++ w :: r from e]; simp)
    have hpl : p.length < 12 := by
      have := h.len
      rw [show own = p ++ w :: r from e] at this
      simp at this; omega
    have hfl : (plc many [] p).length < 12 := by rw [plc_len]; simpa using hpl
    have m1 := h.m1; have m2 := h.m2
    simp only at hd hz ⊢
    have hfn : (fun (i175 : Int) => (!(dGet i175 tk).isSome)) = fun s => !memT (some s) (plc many [] p) := by
      funext s; rw [hd]
    rw [rngG_ok (by omega) (by omega) (by omega) (by omega)]
    simp only [bok, List.map_id', hfn]
    have hlen : ((rng w many).filter fun s => !memT (some s) (plc many [] p)).length ≤ 12 := by
      refine Nat.le_trans (List.length_filter_le _ _) ?_
      rw [rng_length]; omega
    rw [fits_ok (by omega)]
    simp only [bok]
    have hh := head_filter (p := fun s => !memT (some s) (plc many [] p)) (rng w many)
    have hn : nxt many (plc many [] p) w = ((rng w many).filter fun s => !memT (some s) (plc many [] p)).head? := hh.symm
    have hp2 : plc many [] (p ++ [w]) = plc many [] p ++ [nxt many (plc many [] p) w] := by rw [plc_app]; rfl
    generalize hF : ((rng w many).filter fun s => !memT (some s) (plc many [] p)) = F at hn
    cases F with
    | nil =>
      simp only [eqT, decide_true, Bool.not_true, Bool.false_eq_true, if_false, bok]
      rw [appG_ok (by omega)]
      simp only [bok]
      refine ⟨_, rfl, ?_, fun s => ?_, ?_⟩
      · rw [hp2, hn]; rfl
      · show (dGet s tk).isSome = memT (some s) (plc many [] p ++ [none])
        rw [hd]; unfold memT; simp
      · show tk.length ≤ (p ++ [w]).length
        rw [List.length_append]; omega
    | cons a F =>
      have hne : eqT (a :: F) ([] : List Int) = false := by unfold eqT; simp
      have ha : atG (a :: F) (0 : Int) = .ok a := atG_nat (i := 0) (by simp)
      simp only [hne, Bool.not_false, if_true, ha, bok]
      rw [appG_ok (by omega)]
      have hput : putG tk a true = .ok (dPut a true tk) := by
        unfold putG fitsL
        rw [if_pos]
        rw [decide_eq_true_eq]
        show tk.length + 1 ≤ 16777216
        omega
      simp only [bok, hput]
      refine ⟨_, rfl, ?_, fun s => ?_, ?_⟩
      · rw [hp2, hn]; rfl
      · show (dGet s (dPut a true tk)).isSome = memT (some s) (plc many [] p ++ [some a])
        rw [dGet_put, hd]; unfold memT
        by_cases h1 : some s ∈ plc many [] p <;> by_cases h2 : s = a <;> simp [h1, h2]
      · show (dPut a true tk).length ≤ (p ++ [w]).length
        have := dPut_len (v := a) (b := true) tk
        rw [List.length_append]
        simp; omega
  obtain ⟨t', e1, e2, _⟩ := key
  simp only [e1, bok]
  rw [e2]; rfl
end Lw

set_option Elab.async false
set_option linter.all false
set_option maxRecDepth 100000
set_option maxHeartbeats 1000000
namespace Lw
open PySem Fw
/-! ### how many next below were taken before (no program here) -/
def blw (seen : List Int) : Nat → Int → Nat
  | 0, _ => 0
  | n + 1, s => if s - 1 ∈ seen then blw seen n (s - 1) + 1 else 0
theorem blw_le (seen : List Int) : ∀ (n : Nat) (s : Int), blw seen n s ≤ n
  | 0, _ => Nat.le_refl _
  | n + 1, s => by
    unfold blw
    split
    · have := blw_le seen n (s - 1); omega
    · omega
theorem blw_mem {seen : List Int} : ∀ {n : Nat} {s : Int} {j : Nat}, 1 ≤ j → j ≤ blw seen n s → s - (j : Int) ∈ seen
  | 0, _, j, h, h2 => by unfold blw at h2; omega
  | n + 1, s, j, h, h2 => by
    unfold blw at h2
    split at h2
    · rename_i hm
      by_cases e : j = 1
      · subst e; exact hm
      · have := blw_mem (seen := seen) (n := n) (s := s - 1) (j := j - 1) (by omega) (by omega)
        have e2 : s - 1 - ((j - 1 : Nat) : Int) = s - (j : Int) := by omega
        rw [e2] at this; exact this
    · omega
theorem blw_succ {seen : List Int} : ∀ (n : Nat) (s : Int), blw seen (n + 1) s = if blw seen n s = n ∧ s - ((n : Int) + 1) ∈ seen then n + 1 else blw seen n s
  | 0, s => by
    have e : s - (((0 : Nat) : Int) + 1) = s - 1 := by omega
    unfold blw
    rw [e]
    by_cases h : s - 1 ∈ seen <;> simp [h, blw]
  | n + 1, s => by
    rw [blw]
    have ih := blw_succ (seen := seen) n (s - 1)
    have e : s - 1 - ((n : Int) + 1) = s - (((n + 1 : Nat) : Int) + 1) := by omega
    rw [e] at ih
    by_cases h : s - 1 ∈ seen
    · rw [if_pos h, ih]
      have e3 : blw seen (n + 1) s = blw seen n (s - 1) + 1 := by rw [blw, if_pos h]
      rw [e3]
      by_cases h2 : blw seen n (s - 1) = n ∧ s - (((n + 1 : Nat) : Int) + 1) ∈ seen
      · rw [if_pos h2, if_pos ⟨by omega, h2.2⟩]
      · rw [if_neg h2, if_neg fun z => h2 ⟨by omega, z.2⟩]
    · have e3 : blw seen (n + 1) s = 0 := by rw [blw, if_neg h]
      rw [if_neg h, e3, if_neg fun z => by omega]
theorem blw_step {seen : List Int} {n : Nat} {s : Int} (h0 : ∀ x ∈ seen, 0 ≤ x) (h : s ≤ n) : blw seen (n + 1) s = blw seen n s := by
  rw [blw_succ, if_neg]
  intro z
  have := h0 _ z.2
  omega
theorem blw_far {seen : List Int} {s : Int} (h0 : ∀ x ∈ seen, 0 ≤ x) : ∀ {n m : Nat}, s ≤ n → n ≤ m → blw seen m s = blw seen n s
  | n, m, h, h2 => by
    obtain ⟨k, rfl⟩ := Nat.exists_eq_add_of_le h2
    clear h2
    induction k with
    | zero => rfl
    | succ k ih =>
      rw [← ih]
      show blw seen (n + k + 1) s = blw seen (n + k) s
      exact blw_step h0 (by omega)
theorem blw_lt {seen : List Int} {s : Int} {n : Nat} (h0 : ∀ x ∈ seen, 0 ≤ x) (hs : 0 ≤ s) (h : s < n) : blw seen n s < n := by
  have e := blw_far (seen := seen) (s := s) (n := s.toNat) (m := n) h0 (by omega) (by omega)
  have := blw_le seen s.toNat s
  omega
theorem blw_s {seen : List Int} {s : Int} {n : Nat} (h0 : ∀ x ∈ seen, 0 ≤ x) (hs : 0 ≤ s) : (blw seen n s : Int) ≤ s := by
  by_cases h : blw seen n s = 0
  · rw [h]; exact hs
  · have := h0 _ (blw_mem (seen := seen) (n := n) (s := s) (j := blw seen n s) (by omega) (Nat.le_refl _))
    omega
theorem blw_end {seen : List Int} : ∀ {n : Nat} {s : Int}, blw seen n s < n → s - ((blw seen n s : Int) + 1) ∉ seen
  | 0, s, h => by omega
  | n + 1, s, h => by
    intro z
    unfold blw at z h
    split at z
    · rename_i hm
      rw [if_pos hm] at h
      refine blw_end (seen := seen) (n := n) (s := s - 1) (by omega) ?_
      have e : s - 1 - ((blw seen n (s - 1) : Int) + 1) = s - (((blw seen n (s - 1) + 1 : Nat) : Int) + 1) := by omega
      rw [e]; exact z
    · rename_i hm
      exact hm (by simpa using z)
/-! ### the while -/
theorem wh_blw {q : Int → Bool} {seen : List Int} {s0 : Int} (hq : ∀ x, x < s0 → q x = decide (x ∈ seen)) : ∀ (n k : Nat) (t : Int), t ≤ s0 → blw seen n t < n → n ≤ k →
    whN (fun (t : Int × Unit) => Out.ok (q (t.1 - (1 : Int)))) (fun (t : Int × Unit) => Out.ok (t.1 - (1 : Int), ())) k (t, ()) = .ok (t - (blw seen n t : Int), ())
  | 0, k, t, _, h, _ => by omega
  | n + 1, 0, t, _, _, h => by omega
  | n + 1, k + 1, t, ht, h, hk => by
    unfold whN
    rw [bok, hq _ (by show t - 1 < s0; omega)]
    show (if decide (t - 1 ∈ seen) = true then _ else _) = _
    unfold blw at h ⊢
    by_cases hm : t - 1 ∈ seen
    · rw [if_pos (by simpa using hm), bok, if_pos hm]
      rw [if_pos hm] at h
      rw [wh_blw hq n k (t - 1) (by omega) (by omega) (by omega)]
      have e : t - 1 - (blw seen n (t - 1) : Int) = t - ((blw seen n (t - 1) + 1 : Nat) : Int) := by omega
      rw [e]
    · rw [if_neg (by simpa using hm), if_neg hm]
      have e : t = t - ((0 : Nat) : Int) := by omega
      rw [← e]
/-! ### the law's own run -/
def stepR (seen : List Int) (s : Int) (r far : Int) : Int := if r = far ∧ s - far ∈ seen then r + 1 else r
theorem fold_run {seen : List Int} {s : Int} : ∀ n : Nat, (rng 1 (1 + (n : Int))).foldl (stepR seen s) 1 = 1 + (blw seen n s : Int)
  | 0 => by
    have e : rng 1 (1 + ((0 : Nat) : Int)) = [] := rfl
    rw [e]; rfl
  | n + 1 => by
    have e : rng 1 (1 + ((n + 1 : Nat) : Int)) = rng 1 (1 + (n : Int)) ++ [1 + (n : Int)] := by
      unfold rng
      have e1 : (1 + ((n + 1 : Nat) : Int) - 1).toNat = n + 1 := by omega
      have e2 : (1 + (n : Int) - 1).toNat = n := by omega
      rw [e1, e2, List.range_succ, List.map_append]; rfl
    rw [e, List.foldl_append, fold_run n, blw_succ]
    show stepR seen s (1 + (blw seen n s : Int)) (1 + (n : Int)) = _
    unfold stepR
    have e3 : s - (1 + (n : Int)) = s - ((n : Int) + 1) := by omega
    rw [e3]
    by_cases h : blw seen n s = n ∧ s - ((n : Int) + 1) ∈ seen
    · rw [if_pos h, if_pos ⟨by omega, h.2⟩]; omega
    · rw [if_neg h, if_neg fun z => h ⟨by omega, z.2⟩]
/-! ### the runs of a row -/
def runs : List Int → List Int → List Int
  | _, [] => []
  | seen, s :: r => ((blw seen 12 s : Int) + 1) :: runs (seen ++ [s]) r
theorem runs_len : ∀ (seen l : List Int), (runs seen l).length = l.length
  | _, [] => rfl
  | seen, s :: r => by unfold runs; rw [List.length_cons, runs_len, List.length_cons]
end Lw

set_option Elab.async false
set_option linter.all false
set_option maxRecDepth 100000
set_option maxHeartbeats 1000000
namespace Lw
open PySem Fw
/-- a slot goes on over those that are taken -/
theorem e_go {many w : Int} {row : List (Option Int)} (hl : (row.length : Int) = many) (m2 : many ≤ 12) (hw : 0 ≤ w ∧ w < many) : ∃ r : Int, forN (fun (i135 : Int) (t136 : (Int × Unit)) =>
 (((if (decide (t136.1 < many)) = true then ((atG row t136.1) >>= fun x138 => Out.ok (Option.isSome x138)) else Out.ok false) >>= fun x140 => if x140 = true then let slot_139 : Int := (t136.1 + (1 : Int));
 (Out.ok (slot_139, ())) else (Out.ok (t136.1, ()))) >>= fun m141 =>
 (Out.ok (m141.1, ())))) (rng 0 many) (w, ()) = .ok (r, ()) ∧ w ≤ r ∧ r ≤ many ∧ (∀ s : Nat, w ≤ s → (s : Int) < r → (row.getD s none).isSome = true) ∧ (∀ s : Nat, (s : Int) = r → r < many → (row.getD s none).isSome = false) := by
  have key : ∃ t', forN (fun (i135 : Int) (t136 : (Int × Unit)) =>
 (((if (decide (t136.1 < many)) = true then ((atG row t136.1) >>= fun x138 => Out.ok (Option.isSome x138)) else Out.ok false) >>= fun x140 => if x140 = true then let slot_139 : Int := (t136.1 + (1 : Int));
 (Out.ok (slot_139, ())) else (Out.ok (t136.1, ()))) >>= fun m141 =>
 (Out.ok (m141.1, ())))) (rng 0 many) (w, ()) = .ok t' ∧ (w ≤ t'.1 ∧ t'.1 ≤ many ∧ (∀ s : Nat, w ≤ s → (s : Int) < t'.1 → (row.getD s none).isSome = true) ∧ ((∀ s : Nat, (s : Int) = t'.1 → t'.1 < many → (row.getD s none).isSome = false) ∨ w + (([] ++ rng 0 many).length : Int) ≤ t'.1)) := by
    refine forN_inv (I := fun pre (t : Int × Unit) => w ≤ t.1 ∧ t.1 ≤ many ∧ (∀ s : Nat, w ≤ s → (s : Int) < t.1 → (row.getD s none).isSome = true) ∧ ((∀ s : Nat, (s : Int) = t.1 → t.1 < many → (row.getD s none).isSome = false) ∨ w + (pre.length : Int) ≤ t.1)) [] ⟨Int.le_refl _, by show w ≤ many; omega, fun s h1 h2 => by simp only at h2; omega, .inr (by simp)⟩ ?_
    rintro p x r ⟨s, _⟩ e ⟨h1, h2, h3, h4⟩
    simp only at h1 h2 h3 h4 ⊢
    by_cases hs : s < many
    · obtain ⟨n, rfl⟩ := Int.eq_ofNat_of_zero_le (a := s) (by omega)
      have hn : n < row.length := by omega
      have hg : row.getD n none = row[n] := by simp [hn]
      simp only [decide_eq_true hs, if_true, atG_nat hn, bok]
      cases hq : row[n].isSome with
      | true =>
        simp only [if_true, bok]
        refine ⟨_, rfl, by show w ≤ (n : Int) + 1; omega, by show (n : Int) + 1 ≤ many; omega, fun k k1 k2 => ?_, .inr ?_⟩
        · simp only at k2
          by_cases hk : k = n
          · rw [hk, hg, hq]
          · exact h3 k k1 (by omega)
        · show w + ((p ++ [x]).length : Int) ≤ (n : Int) + 1
          rw [List.length_append]
          rcases h4 with h4 | h4
          · have := h4 n rfl hs
            rw [hg, hq] at this; cases this
          · simp; omega
      | false =>
        simp only [Bool.false_eq_true, if_false, bok]
        refine ⟨_, rfl, h1, h2, h3, .inl fun k k1 _ => ?_⟩
        have : k = n := by simp only at k1; omega
        rw [this, hg, hq]
    · simp only [decide_eq_false hs, if_false, Bool.false_eq_true, bok]
      exact ⟨_, rfl, h1, h2, h3, .inl fun k k1 k2 => absurd k2 hs⟩
  obtain ⟨⟨r, _⟩, e, h1, h2, h3, h4⟩ := key
  refine ⟨r, e, h1, h2, h3, fun s h5 h6 => ?_⟩
  rcases h4 with h4 | h4
  · exact h4 s h5 h6
  · simp only [List.nil_append, rng_length] at h4
    omega
theorem e_places {many : Int} {own : List Int} (h : Wi many own) : t_law_places_1 many own = .ok (plc many [] own) := by
  have m1 := h.m1; have m2 := h.m2; have hl := h.len
  unfold t_law_places_1
  generalize hL : ((List.length own : Nat) : Int) = L
  rw [repG_one (by omega) (by omega)]
  simp only [bok]
  rw [rng0_ok (by omega) (by omega)]
  simp only [bok]
  have key : ∃ t', forN (fun (i131 : Int) (t132 : ((List (Option Int)) × (List (Option Int)) × Unit)) =>
 ((atG own i131) >>= fun slot_133 =>
 (((rng0 many) >>= fun x143 => (forN (fun (i135 : Int) (t136 : (Int × Unit)) =>
 (((if (decide (t136.1 < many)) = true then ((atG t132.1 t136.1) >>= fun x138 => Out.ok (Option.isSome x138)) else Out.ok false) >>= fun x140 => if x140 = true then let slot_139 : Int := (t136.1 + (1 : Int));
 (Out.ok (slot_139, ())) else (Out.ok (t136.1, ()))) >>= fun m141 =>
 (Out.ok (m141.1, ())))) x143 (slot_133, ()))) >>= fun m144 =>
 (((appG t132.2.1 (if (decide (m144.1 < many)) = true then (some m144.1) else ((fun _ => (none : (Option Int))) ())) >>= fun l147 => Out.ok ((), (l147, ()))) >>= fun q148 => Out.ok q148.2) >>= fun m149 =>
 ((if (decide (m144.1 < many)) = true then ((setG t132.1 m144.1 (some i131) >>= fun l154 => Out.ok (l154, ())) >>= fun m155 =>
 (Out.ok (m155.1, ()))) else (Out.ok (t132.1, ()))) >>= fun m156 =>
 (Out.ok (m156.1, m149.1, ()))))))) (rng 0 L) (List.replicate many.toNat none, [], ()) = .ok t' ∧ (t'.2.1 = plc many [] (own.take ([] ++ rng 0 L).length) ∧ (t'.1.length : Int) = many ∧ ∀ s : Nat, (s : Int) < many → (t'.1.getD s none).isSome = memT (some (s : Int)) t'.2.1) := by
    refine forN_inv (I := fun pre (t : List (Option Int) × List (Option Int) × Unit) => t.2.1 = plc many [] (own.take pre.length) ∧ (t.1.length : Int) = many ∧ ∀ s : Nat, (s : Int) < many → (t.1.getD s none).isSome = memT (some (s : Int)) t.2.1) [] ⟨rfl, ?_, fun s hs => ?_⟩ ?_
    · show ((List.replicate many.toNat (none : Option Int)).length : Int) = many
      rw [List.length_replicate]; omega
    · show ((List.replicate many.toNat (none : Option Int)).getD s none).isSome = memT _ []
      rw [List.getD_eq_getElem?_getD, List.getElem?_replicate]
      split <;> simp [memT]
    · rintro p i r ⟨row, fd, _⟩ e ⟨h1, h2, h3⟩
      simp only at h1 h2 h3 ⊢
      have hi : i = (p.length : Int) ∧ p.length < own.length := by
        have e' : rng 0 (own.length : Int) = p ++ i :: r := by rw [hL]; exact (List.nil_append _).symm.trans e
        have hlen : p.length < own.length := by
          have := congrArg List.length e'
          rw [rng_length] at this
          simp at this; omega
        refine ⟨?_, hlen⟩
        have e2 : (rng 0 (own.length : Int))[p.length]? = some i := by rw [e']; simp
        rw [rng_nat] at e2
        rw [List.getElem?_map, List.getElem?_range hlen] at e2
        simpa using e2.symm
      obtain ⟨rfl, hlen⟩ := hi
      rw [atG_nat hlen]
      simp only [bok]
      rw [rng0_ok (by omega) (by omega)]
      simp only [bok]
      have hw := h.ok own[p.length] (List.getElem_mem hlen)
      obtain ⟨s, es, s1, s2, s3, s4⟩ := e_go (w := own[p.length]) h2 m2 hw
      rw [es]
      simp only [bok]
      have hfl : fd.length ≤ 12 := by rw [h1, plc_len]; simp; omega
      have hn : nxt many fd own[p.length] = if s < many then some s else none := by
        refine find_rng s1 (fun k k1 k2 => ?_) (fun hs => ?_) s2
        · obtain ⟨n, rfl⟩ := Int.eq_ofNat_of_zero_le (a := k) (by omega)
          have := s3 n k1 k2
          rw [h3 n (by omega)] at this
          rw [this]; rfl
        · obtain ⟨n, hn⟩ := Int.eq_ofNat_of_zero_le (a := s) (by omega)
          have := s4 n hn.symm hs
          rw [h3 n (by omega), ← hn] at this
          rw [this]; rfl
      have htk : own.take (p ++ [(p.length : Int)]).length = own.take p.length ++ [own[p.length]] := by
        rw [List.length_append, List.length_singleton, List.take_add_one, List.getElem?_eq_getElem hlen]; rfl
      rw [appG_ok (by omega)]
      simp only [bok]
      have hfd : fd ++ [if s < many then some s else none] = plc many [] (own.take (p ++ [(p.length : Int)]).length) := by
        rw [htk, plc_app, ← h1, ← hn]; rfl
      by_cases hs : s < many
      · obtain ⟨n, hn'⟩ := Int.eq_ofNat_of_zero_le (a := s) (by omega)
        subst hn'
        have hnr : n < row.length := by omega
        simp only [decide_eq_true hs, if_true]
        rw [setG_nat hnr]
        simp only [bok]
        rw [if_pos hs] at hfd
        refine ⟨_, rfl, hfd, ?_, fun k hk => ?_⟩
        · show ((row.set n _).length : Int) = many
          rw [List.length_set]; exact h2
        · show ((row.set n (some (p.length : Int))).getD k none).isSome = memT (some (k : Int)) (fd ++ [some (n : Int)])
          have h3k := h3 k hk
          unfold memT at h3k ⊢
          by_cases hkn : n = k
          · subst hkn
            simp [hnr]
          · have hkn' : ¬ k = n := fun z => hkn z.symm
            rw [List.getD_eq_getElem?_getD, List.getElem?_set_ne hkn, ← List.getD_eq_getElem?_getD, h3k]
            have : ¬ (k : Int) = (n : Int) := by omega
            simp [this]
      · simp only [decide_eq_false hs, if_false, Bool.false_eq_true, bok]
        rw [if_neg hs] at hfd
        refine ⟨_, rfl, hfd, h2, fun k hk => ?_⟩
        show (row.getD k none).isSome = memT (some (k : Int)) (fd ++ [none])
        rw [h3 k hk]
        unfold memT; simp
  obtain ⟨t', e1, e2, _⟩ := key
  simp only [e1, bok]
  rw [e2]
  simp only [List.nil_append, rng_length]
  rw [List.take_of_length_le (by omega)]
end Lw

set_option Elab.async false
set_option linter.all false
set_option maxRecDepth 100000
set_option maxHeartbeats 1000000
namespace Lw
open PySem Fw
theorem runs_app : ∀ (seen l : List Int) (s : Int), runs seen (l ++ [s]) = runs seen l ++ [((blw (seen ++ l) 12 s : Nat) : Int) + 1]
  | seen, [], s => by simp [runs]
  | seen, x :: l, s => by
    rw [List.cons_append]
    unfold runs
    rw [runs_app (seen ++ [x]) l s, List.append_assoc]
    rfl
theorem e_runs {many : Int} {own : List Int} (hl : own.length ≤ 12) (h : ∀ x ∈ own, 0 ≤ x ∧ x < 12) : t_runs_ahead_1 many own = .ok (runs [] own) := by
  unfold t_runs_ahead_1
  have key : ∃ t', forN (fun (i241 : Int) (t242 : ((List (Int × Bool)) × (List Int) × Unit)) =>
 ((putG t242.1 i241 true >>= fun l244 => Out.ok (l244, ())) >>= fun m245 =>
 let begin_246 : Int := i241;
 ((whN (fun (t248 : (Int × Unit)) => (Out.ok ((dGet (t248.1 - (1 : Int)) m245.1).isSome))) (fun (t248 : (Int × Unit)) =>
 let begin_249 : Int := (t248.1 - (1 : Int));
 (Out.ok (begin_249, ()))) 1000 (begin_246, ())) >>= fun m250 =>
 (((appG t242.2.1 ((i241 - m250.1) + (1 : Int)) >>= fun l253 => Out.ok ((), (l253, ()))) >>= fun q254 => Out.ok q254.2) >>= fun m255 =>
 (Out.ok (m245.1, m255.1, ())))))) own ([], [], ()) = .ok t' ∧ (t'.2.1 = runs [] ([] ++ own) ∧ (∀ x, (dGet x t'.1).isSome = decide (x ∈ [] ++ own)) ∧ t'.1.length ≤ ([] ++ own).length) := by
    refine forN_inv (I := fun pre (t : List (Int × Bool) × List Int × Unit) => t.2.1 = runs [] pre ∧ (∀ x, (dGet x t.1).isSome = decide (x ∈ pre)) ∧ t.1.length ≤ pre.length) [] ⟨rfl, fun x => by simp [dGet], by simp⟩ ?_
    rintro p s r ⟨tk, fd, _⟩ e ⟨h1, hd, hz⟩
    simp only at h1 hd hz ⊢
    have hs : 0 ≤ s ∧ s < 12 := h s (by rw [show own = p ++ s :: r from e]; simp)
    have hp : ∀ x ∈ p, 0 ≤ x := fun x hx => (h x (by rw [show own = p ++ s :: r from e]; simp [hx])).1
    have hpl : p.length < 12 := by
      have := hl
      rw [show own = p ++ s :: r from e] at this
      simp at this; omega
    have hput : putG tk s true = .ok (dPut s true tk) := by
      unfold putG fitsL
      rw [if_pos]
      rw [decide_eq_true_eq]
      show tk.length + 1 ≤ 16777216
      omega
    simp only [hput, bok]
    have hw := wh_blw (q := fun x => (dGet x (dPut s true tk)).isSome) (seen := p) (s0 := s) (fun x hx => by
      show (dGet x (dPut s true tk)).isSome = _
      rw [dGet_put, hd]
      have : ¬ x = s := by omega
      simp [this]) 12 1000 s (Int.le_refl _) (blw_lt hp hs.1 (by omega)) (by omega)
    rw [hw]
    have hfl : fd.length < 16777216 := by rw [h1, runs_len]; omega
    simp only [bok]
    rw [appG_ok hfl]
    simp only [bok]
    refine ⟨_, rfl, ?_, fun x => ?_, ?_⟩
    · show fd ++ [s - (s - (blw p 12 s : Int)) + 1] = runs [] (p ++ [s])
      rw [runs_app, h1, List.nil_append]
      have : s - (s - (blw p 12 s : Int)) + 1 = (blw p 12 s : Int) + 1 := by omega
      rw [this]
    · show (dGet x (dPut s true tk)).isSome = _
      rw [dGet_put, hd]
      by_cases a : x ∈ p <;> by_cases b : x = s <;> simp [a, b]
    · show (dPut s true tk).length ≤ (p ++ [s]).length
      have := dPut_len (v := s) (b := true) tk
      rw [List.length_append]
      simp; omega
  obtain ⟨t', e1, e2, _⟩ := key
  simp only [e1, bok]
  rw [e2]; rfl
end Lw

set_option Elab.async false
set_option linter.all false
set_option maxRecDepth 100000
set_option maxHeartbeats 1000000
namespace Lw
open PySem Fw
theorem all_true {α : Type} (l : List α) : List.all (l.map fun _ => true) id = true := by induction l <;> simp_all
theorem e_fits {many : Int} {own : List Int} (h : Wi many own) : t_fits_wishes_1 (many, own) = .ok true := by
  have m1 := h.m1; have m2 := h.m2; have hl := h.len
  have h2 : t_is_whole_1 many 1 12 = .ok true := by unfold t_is_whole_1; simp [m1, m2]
  have h3 : t_is_tuple_of_1 own 0 12 = .ok true := by unfold t_is_tuple_of_1; simp; omega
  have h4 : ∀ x ∈ own, t_is_whole_1 x 0 (many - 1) = .ok true := fun x hx => by
    have := h.ok x hx
    unfold t_is_whole_1
    have q1 : x ≤ many - 1 := by omega
    simp [this.1, q1]
  have h1 : t_is_tuple_of_2 (many, own) 2 2 = .ok true := rfl
  unfold t_fits_wishes_1
  simp only [h1, bok, Bool.not_true, Bool.false_eq_true, if_false, h2, h3]
  rw [lcQ_map (g := fun _ => true) h4]
  simp only [bok]
  rw [fits_ok (by rw [List.length_map]; omega)]
  simp only [bok, all_true]
theorem e_need {many : Int} {own : List Int} (h : Wi many own) : t_need_wishes_1 (many, own) = .ok () := by
  unfold t_need_wishes_1
  simp only [e_fits h, bok, Bool.not_true, Bool.false_eq_true, if_false]
theorem e_pl {many : Int} {own : List Int} (h : Wi many own) : t_places_1 (many, own) = .ok (plc many [] own) := by
  unfold t_places_1
  simp only [e_need h, bok, e_placed h]
theorem perm_erase {α : Type} : ∀ (l : List α) (n : Nat) (h : n < l.length), (l[n] :: l.eraseIdx n).Perm l
  | a :: l, 0, _ => List.Perm.refl _
  | a :: l, n + 1, h => by
    show (l[n]'(by simpa using h) :: a :: l.eraseIdx n).Perm (a :: l)
    exact (List.Perm.swap _ _ _).trans ((perm_erase l n (by simpa using h)).cons a)
/-- in any order -/
theorem e_turned {c own : List Int} (h : Cup c) (hl : own.length ≤ 12) : ∃ own' c', t_law_turned_1 c own = .ok (own', c') ∧ Cup c' ∧ own'.Perm own := by
  unfold t_law_turned_1
  dsimp only
  generalize hL : ((List.length own : Nat) : Int) = L
  have key : ∃ t', forN (fun (i243 : Int) (t244 : ((List Int) × (List Int) × (List Int) × Unit)) =>
 (((((t_law_roll_1 t244.1 ((List.length t244.2.1 : Nat) : Int) >>= fun r252 => Out.ok (r252.1, (r252.2, t244.2.1, t244.2.2.1, ()))) >>= fun q253 => (popG q253.2.2.1 q253.1 >>= fun x251 => Out.ok (x251.1, (q253.2.1, x251.2, q253.2.2.2.1, ())))) >>= fun q255 => appG q255.2.2.2.1 q255.1 >>= fun l254 => Out.ok ((), (q255.2.1, q255.2.2.1, l254, ()))) >>= fun q256 => Out.ok q256.2) >>= fun m257 =>
 (Out.ok (m257.1, m257.2.1, m257.2.2.1, ())))) (rng 0 L) (c, own, [], ()) = .ok t' ∧ (Cup t'.1 ∧ t'.2.1.length + ([] ++ rng 0 L).length = own.length ∧ (t'.2.2.1 ++ t'.2.1).Perm own) := by
    refine forN_inv (I := fun pre (t : List Int × List Int × List Int × Unit) => Cup t.1 ∧ t.2.1.length + pre.length = own.length ∧ (t.2.2.1 ++ t.2.1).Perm own) [] ⟨h, rfl, List.Perm.refl _⟩ ?_
    rintro p x r ⟨c0, left, fd, _⟩ e ⟨h1, h2, h3⟩
    simp only at h1 h2 h3 ⊢
    have hlen : p.length < own.length := by
      have e' := congrArg List.length e
      rw [List.nil_append, rng_length] at e'
      simp at e'; omega
    have hp : 0 < left.length := by omega
    have hz : fd.length + left.length = own.length := by have := h3.length_eq; rw [List.length_append] at this; exact this
    obtain ⟨k, c1, e1, g1, k0, k1⟩ := e_roll (m := (left.length : Int)) h1 (by omega) (by omega)
    obtain ⟨n, rfl⟩ := Int.eq_ofNat_of_zero_le k0
    have hn : n < left.length := by omega
    simp only [e1, bok]
    rw [popG_nat hn (by omega)]
    simp only [bok]
    rw [appG_ok (by omega)]
    simp only [bok]
    refine ⟨_, rfl, g1, ?_, ?_⟩
    · show (left.eraseIdx n).length + (p ++ [x]).length = own.length
      rw [List.length_eraseIdx_of_lt hn, List.length_append, List.length_singleton]; omega
    · show ((fd ++ [left[n]]) ++ left.eraseIdx n).Perm own
      refine List.Perm.trans ?_ h3
      rw [List.append_assoc]
      exact List.Perm.append_left fd (perm_erase left n hn)
  obtain ⟨⟨c1, left, fd, _⟩, e1, g1, g2, g3⟩ := key
  rw [rng0_ok (by omega) (by omega)]
  simp only [bok, e1]
  refine ⟨fd, c1, rfl, g1, ?_⟩
  have : left = [] := by
    rw [List.nil_append, rng_length] at g2
    simp only at g2
    exact List.length_eq_zero_iff.mp (by omega)
  subst this
  simpa using g3
/-- unlike slots -/
structure Un (many : Int) (own : List Int) : Prop where
  m1 : 1 ≤ many
  m2 : many ≤ 12
  len : (own.length : Int) ≤ many
  ok : ∀ x ∈ own, 0 ≤ x ∧ x < many
  nd : own.Nodup
theorem e_fitsP {many : Int} {own : List Int} (h : Un many own) : t_fits_places_1 many own = .ok true := by
  have m1 := h.m1; have m2 := h.m2; have hl := h.len
  have h3 : t_is_tuple_of_1 own 0 many = .ok true := by unfold t_is_tuple_of_1; simp; omega
  have h4 : ∀ x ∈ own, t_is_whole_1 x 0 (many - 1) = .ok true := fun x hx => by
    have := h.ok x hx
    unfold t_is_whole_1
    have q1 : x ≤ many - 1 := by omega
    simp [this.1, q1]
  unfold t_fits_places_1
  simp only [h3, bok, Bool.not_true, Bool.false_eq_true, if_false]
  rw [lcQ_map (g := fun _ => true) h4]
  simp only [bok]
  rw [fits_ok (by rw [List.length_map]; omega)]
  simp only [bok, all_true, Bool.not_true, Bool.false_eq_true, if_false]
  rw [lensX_ints (by omega)]
  simp only [bok]
  rw [uniqL_of_nodup h.nd]
  unfold eqT
  rw [decide_eq_true rfl]
theorem e_needP {many : Int} {own : List Int} (h : Un many own) : t_need_places_1 many own = .ok () := by
  have m1 := h.m1; have m2 := h.m2
  have h2 : t_is_whole_1 many 1 12 = .ok true := by unfold t_is_whole_1; simp [m1, m2]
  unfold t_need_places_1
  simp only [h2, e_fitsP h, bok, Bool.not_true, Bool.false_eq_true, if_false]
theorem un_runs {many : Int} {own : List Int} (h : Un many own) : t_runs_ahead_1 many own = .ok (runs [] own) := by
  have m2 := h.m2; have hl := h.len
  exact e_runs (by omega) fun x hx => by have := h.ok x hx; omega
theorem runs_bd : ∀ (seen l : List Int), ∀ r ∈ runs seen l, 1 ≤ r ∧ r ≤ 13
  | _, [], r, h => by cases h
  | seen, s :: l, r, h => by
    unfold runs at h
    rcases List.mem_cons.mp h with rfl | h
    · have := blw_le seen 12 s; omega
    · exact runs_bd _ l r h
def prodI (l : List Int) : Int := l.foldl (fun a b => a * b) 1
theorem e_count {many : Int} {own : List Int} (h : Un many own) : t_count_for_1 many own = .ok (prodI (runs [] own)) := by
  have m2 := h.m2; have hl := h.len
  unfold t_count_for_1
  simp only [e_needP h, un_runs h, bok]
  have hrl : (runs [] own).length ≤ 12 := by rw [runs_len]; omega
  have key : ∃ t', forN (fun (i234 : Int) (t235 : (Int × Unit)) =>
 ((mulG t235.1 i234) >>= fun found_236 =>
 (Out.ok (found_236, ())))) (runs [] own) (1, ()) = .ok t' ∧ (t'.1 = prodI ([] ++ runs [] own) ∧ 1 ≤ t'.1 ∧ t'.1 ≤ (13 : Int) ^ ([] ++ runs [] own).length) := by
    refine forN_inv (I := fun pre (t : Int × Unit) => t.1 = prodI pre ∧ 1 ≤ t.1 ∧ t.1 ≤ (13 : Int) ^ pre.length) [] ⟨rfl, by show (1 : Int) ≤ 1; omega, by show (1 : Int) ≤ 13 ^ 0; decide⟩ ?_
    rintro p r q ⟨x, _⟩ e ⟨h1, h2, h3⟩
    simp only at h1 h2 h3 ⊢
    have e : runs [] own = p ++ r :: q := e
    have hr := runs_bd [] own r (by rw [e]; simp)
    have hpl : p.length ≤ 11 := by
      have := hrl
      rw [e] at this
      simp at this; omega
    have hb : (13 : Int) ^ p.length ≤ 13 ^ 11 := by
      exact_mod_cast Nat.pow_le_pow_right (by decide : 13 > 0) hpl
    have hb2 : (13 : Int) ^ 11 < 18446744073709551616 := by decide
    rw [mulG_ok (by omega) (by omega)]
    simp only [bok]
    refine ⟨_, rfl, ?_, ?_, ?_⟩
    · show x * r = prodI (p ++ [r])
      unfold prodI at h1 ⊢
      rw [List.foldl_append, h1]; rfl
    · show 1 ≤ x * r
      have := Int.mul_le_mul h2 hr.1 (by decide) (by omega)
      simpa using this
    · show x * r ≤ 13 ^ (p ++ [r]).length
      rw [List.length_append, List.length_singleton, Int.pow_succ]
      exact Int.mul_le_mul h3 hr.2 (by omega) (by omega)
  obtain ⟨t', e1, e2, _⟩ := key
  rw [e1]
  simp only [bok]
  rw [e2]; rfl
/-- the first wishes -/
def fst1 (own : List Int) : List Int := ((own.zip (runs [] own)).map fun i => i.1 - i.2 + 1)
theorem e_first {many : Int} {own : List Int} (h : Un many own) : t_first_for_1 many own = .ok (fst1 own) := by
  have m2 := h.m2; have hl := h.len
  unfold t_first_for_1
  simp only [e_needP h, un_runs h, bok]
  rw [fits_ok (by rw [List.length_map, List.length_zip]; omega)]
  rfl
end Lw

set_option Elab.async false
set_option linter.all false
set_option maxRecDepth 100000
set_option maxHeartbeats 1000000
namespace Lw
open PySem Fw
theorem nxt_run {many s : Int} {seen : List Int} (hm : many ≤ 12) (hs : 0 ≤ s ∧ s < many) (h0 : ∀ x ∈ seen, 0 ≤ x) (hn : s ∉ seen) : nxt many (seen.map some) (s - ((blw seen 12 s : Int) + 1) + 1) = some s := by
  have hb := blw_s (seen := seen) (n := 12) h0 hs.1
  unfold nxt
  rw [find_rng (r := s) (by omega) (fun x h1 h2 => ?_) (fun _ => ?_) (by omega), if_pos hs.2]
  · have hx := blw_mem (seen := seen) (n := 12) (s := s) (j := (s - x).toNat) (by omega) (by omega)
    have e : s - ((s - x).toNat : Int) = x := by omega
    rw [e] at hx
    unfold memT
    simp [hx]
  · unfold memT
    simp [hn]
theorem plc_runs {many : Int} (hm : many ≤ 12) : ∀ (l seen : List Int), (seen ++ l).Nodup → (∀ x ∈ seen ++ l, 0 ≤ x ∧ x < many) → plc many (seen.map some) ((l.zip (runs seen l)).map fun i => i.1 - i.2 + 1) = (seen ++ l).map some
  | [], seen, _, _ => by simp [plc]
  | s :: l, seen, nd, hb => by
    unfold runs
    rw [List.zip_cons_cons, List.map_cons]
    show plc many (seen.map some ++ [nxt many (seen.map some) (s - ((blw seen 12 s : Int) + 1) + 1)]) _ = _
    have hn : s ∉ seen := fun z => by
      have := (List.nodup_append.mp nd).2.2 s z s List.mem_cons_self
      exact this rfl
    rw [nxt_run hm (hb s (by simp)) (fun x hx => (hb x (by simp [hx])).1) hn]
    have e : seen.map some ++ [some s] = (seen ++ [s]).map some := by simp
    have e2 : seen ++ s :: l = (seen ++ [s]) ++ l := by simp
    rw [e, e2]
    rw [e2] at nd hb
    exact plc_runs hm l (seen ++ [s]) nd hb
theorem plc_fst {many : Int} {own : List Int} (h : Un many own) : plc many [] (fst1 own) = own.map some := by
  have := plc_runs h.m2 own [] (by simpa using h.nd) (by simpa using h.ok)
  simpa [fst1] using this
theorem fst_ok {many : Int} : ∀ (l seen : List Int), (∀ x ∈ seen ++ l, 0 ≤ x ∧ x < many) → (∀ x ∈ (l.zip (runs seen l)).map (fun i => i.1 - i.2 + 1), 0 ≤ x ∧ x < many) ∧ ∀ p ∈ ((l.zip (runs seen l)).map (fun i => i.1 - i.2 + 1)).zip l, p.1 ≤ p.2
  | [], seen, _ => ⟨by simp, by simp⟩
  | s :: l, seen, hb => by
    have ih := fst_ok l (seen ++ [s]) (by intro x hx; exact hb x (by simpa using hx))
    have hs := hb s (by simp)
    have hbl := blw_s (seen := seen) (n := 12) (fun x hx => (hb x (by simp [hx])).1) hs.1
    unfold runs
    rw [List.zip_cons_cons, List.map_cons, List.zip_cons_cons]
    refine ⟨fun x hx => ?_, fun p hp => ?_⟩
    · rcases List.mem_cons.mp hx with rfl | hx
      · show 0 ≤ s - ((blw seen 12 s : Int) + 1) + 1 ∧ s - ((blw seen 12 s : Int) + 1) + 1 < many
        omega
      · exact ih.1 x hx
    · rcases List.mem_cons.mp hp with rfl | hp
      · show s - ((blw seen 12 s : Int) + 1) + 1 ≤ s
        omega
      · exact ih.2 p hp
theorem wi_fst {many : Int} {own : List Int} (h : Un many own) : Wi many (fst1 own) where
  m1 := h.m1
  m2 := h.m2
  len := by
    have := h.len; have := h.m2
    unfold fst1
    rw [List.length_map, List.length_zip]; omega
  ok := (fst_ok own [] (by simpa using h.ok)).1
theorem zip_fst {many : Int} {own : List Int} (h : Un many own) : ((fst1 own).zip own).filter (fun (i : Int × Int) => decide (i.2 < i.1)) = [] := by
  rw [List.filter_eq_nil_iff]
  intro p hp
  have := (fst_ok own [] (by simpa using h.ok)).2 p hp
  simp; omega
end Lw

set_option Elab.async false
set_option linter.all false
set_option maxRecDepth 100000
set_option maxHeartbeats 1000000
namespace Lw
open PySem Fw
/-! ### how great the whole may be -/
theorem foldl_mul (a : Int) : ∀ l : List Int, l.foldl (fun a b => a * b) a = a * prodI l
  | [] => by simp [prodI]
  | x :: l => by
    unfold prodI
    rw [List.foldl_cons, List.foldl_cons, foldl_mul (a * x) l, foldl_mul (1 * x) l, Int.one_mul, Int.mul_assoc]
theorem prodI_cons (x : Int) (l : List Int) : prodI (x :: l) = x * prodI l := by
  show (l.foldl (fun a b => a * b) (1 * x)) = _
  rw [foldl_mul, Int.one_mul]
def fac : Nat → Int
  | 0 => 1
  | n + 1 => ((n : Int) + 1) * fac n
theorem fac_pos : ∀ n, 0 < fac n
  | 0 => by decide
  | n + 1 => Int.mul_pos (by omega) (fac_pos n)
theorem blw_few {seen : List Int} {n : Nat} {s : Int} (nd : seen.Nodup) : blw seen n s ≤ seen.length := by
  have h := nodup_len (a := (List.range (blw seen n s)).map fun (j : Nat) => s - ((j : Int) + 1)) (b := seen) ?_ ?_
  · simpa using h
  · rw [List.Nodup, List.pairwise_map]
    refine List.Pairwise.imp ?_ (List.nodup_range (n := blw seen n s))
    intro a b hab z
    exact hab (by omega)
  · intro x hx
    obtain ⟨j, hj, rfl⟩ := List.mem_map.mp hx
    have hj := List.mem_range.mp hj
    have := blw_mem (seen := seen) (n := n) (s := s) (j := j + 1) (by omega) (by omega)
    have e : s - ((j + 1 : Nat) : Int) = s - ((j : Int) + 1) := by omega
    rw [e] at this; exact this
theorem prod_pos : ∀ (l seen : List Int), 0 < prodI (runs seen l)
  | [], _ => by unfold runs; decide
  | s :: l, seen => by
    unfold runs
    rw [prodI_cons]
    exact Int.mul_pos (by omega) (prod_pos l _)
theorem prod_le : ∀ (l seen : List Int), (seen ++ l).Nodup → prodI (runs seen l) * fac seen.length ≤ fac (seen.length + l.length)
  | [], seen, _ => by
    have : prodI (runs seen []) = 1 := rfl
    rw [this, Int.one_mul]; exact Int.le_refl _
  | s :: l, seen, nd => by
    have e2 : seen ++ s :: l = (seen ++ [s]) ++ l := by simp
    have ih := prod_le l (seen ++ [s]) (by rw [← e2]; exact nd)
    have hb := blw_few (seen := seen) (n := 12) (s := s) (List.nodup_append.mp nd).1
    unfold runs
    rw [prodI_cons]
    rw [List.length_append, List.length_singleton] at ih
    have e3 : seen.length + (s :: l).length = seen.length + 1 + l.length := by rw [List.length_cons]; omega
    rw [e3]
    refine Int.le_trans ?_ ih
    have hp := prod_pos l (seen ++ [s])
    have hf := fac_pos seen.length
    show ((blw seen 12 s : Int) + 1) * prodI (runs (seen ++ [s]) l) * fac seen.length ≤ prodI (runs (seen ++ [s]) l) * (((seen.length : Int) + 1) * fac seen.length)
    have e4 : ((blw seen 12 s : Int) + 1) * prodI (runs (seen ++ [s]) l) * fac seen.length = prodI (runs (seen ++ [s]) l) * (((blw seen 12 s : Int) + 1) * fac seen.length) := by
      rw [Int.mul_comm ((blw seen 12 s : Int) + 1), Int.mul_assoc]
    rw [e4]
    exact Int.mul_le_mul_of_nonneg_left (Int.mul_le_mul_of_nonneg_right (by omega) (Int.le_of_lt hf)) (Int.le_of_lt hp)
theorem whole_le {many : Int} {own : List Int} (h : Un many own) : prodI (runs [] own) ≤ fac own.length := by
  have := prod_le own [] (by simpa using h.nd)
  have e : fac ([] : List Int).length = 1 := rfl
  rw [e, Int.mul_one] at this
  simpa using this
/-! ### the numbers -/
def ckF (m p : Nat) : Bool := match t_count_finding_1 (m : Int) (p : Int) with
  | .ok u => !(decide (u.1 < u.2)) && decide (fac p ≤ u.2) && (p == 0 || match (t_law_power_1 ((m : Int) + 1) ((p : Int) - 1) >>= fun x => mulG ((m : Int) + 1 - (p : Int)) x) with
    | .ok v => decide (u.2 = v)
    | _ => false)
  | _ => false
theorem ckF_all : ∀ m ∈ List.range 13, ∀ p ∈ List.range 13, m = 0 ∨ m < p ∨ ckF m p = true := by decide +kernel
end Lw

set_option Elab.async false
set_option linter.all false
set_option maxRecDepth 100000
set_option maxHeartbeats 1000000
namespace Lw
open PySem Fw
theorem cut_take {l : List Int} {n : Nat} (h : n ≤ l.length) : cutA l none (some (n : Int)) = l.take n := by
  unfold cutA
  rw [HT.sIx_none, HT.sIx_nat, Nat.min_eq_left h]; simp
/-! ### the law's own whole -/
theorem foldl_pair {f : Int → Int → Int} : ∀ (l : List Int) (a : Int), l.foldl (fun (t : Int × Unit) x => (f t.1 x, ())) (a, ()) = (l.foldl f a, ())
  | [], _ => rfl
  | x :: l, a => foldl_pair l (f a x)
theorem e_lawrun {many : Int} {own : List Int} {n : Nat} (h : Un many own) (hn : n < own.length) : forN (fun (i205 : Int) (t206 : (Int × Unit)) =>
 (((if (eqT t206.1 i205) = true then (((atG own (n : Int)) >>= fun x207 => Out.ok (x207 - i205)) >>= fun x208 => Out.ok (memT x208 (cutA own none (some (n : Int))))) else Out.ok false) >>= fun x209 => (if x209 = true then (Out.ok (t206.1 + (1 : Int))) else (Out.ok t206.1))) >>= fun run_210 =>
 (Out.ok (run_210, ())))) (rng 1 many) ((1 : Int), ()) = .ok (1 + (blw (own.take n) 12 own[n] : Int), ()) := by
  have m1 := h.m1; have m2 := h.m2
  have hs := h.ok own[n] (List.getElem_mem hn)
  have h0 : ∀ x ∈ own.take n, 0 ≤ x := fun x hx => (h.ok x (List.mem_of_mem_take hx)).1
  rw [cut_take (by omega)]
  have key := forN_fold (body := fun (i205 : Int) (t206 : (Int × Unit)) =>
 (((if (eqT t206.1 i205) = true then (((atG own (n : Int)) >>= fun x207 => Out.ok (x207 - i205)) >>= fun x208 => Out.ok (memT x208 (own.take n))) else Out.ok false) >>= fun x209 => (if x209 = true then (Out.ok (t206.1 + (1 : Int))) else (Out.ok t206.1))) >>= fun run_210 =>
 (Out.ok (run_210, ())))) (g := fun far (t : Int × Unit) => (stepR (own.take n) own[n] t.1 far, ())) (I := fun _ => True) (l := rng 1 many) (t := ((1 : Int), ())) trivial (fun far _ t _ => by
    obtain ⟨r, _⟩ := t
    rw [atG_nat hn]
    simp only [bok]
    unfold stepR eqT memT
    by_cases a : r = far
    · subst a
      by_cases b : own[n] - r ∈ own.take n
      · simp [b, bok]
      · simp [b, bok]
    · simp [a, bok])
  refine key.1.trans ?_
  rw [foldl_pair]
  obtain ⟨k, hk⟩ : ∃ k : Nat, many = 1 + (k : Int) := ⟨(many - 1).toNat, by omega⟩
  rw [hk, fold_run k]
  have e : blw (own.take n) 12 own[n] = blw (own.take n) k own[n] := blw_far h0 (by omega) (by omega)
  rw [e]
theorem e_whole {many : Int} {own : List Int} (h : Un many own) : forN (fun (i201 : Int) (t202 : (Int × Unit)) =>
 let run_203 : Int := (1 : Int);
 (((rngG (1 : Int) many) >>= fun x212 => (forN (fun (i205 : Int) (t206 : (Int × Unit)) =>
 (((if (eqT t206.1 i205) = true then (((atG own i201) >>= fun x207 => Out.ok (x207 - i205)) >>= fun x208 => Out.ok (memT x208 (cutA own none (some i201)))) else Out.ok false) >>= fun x209 => (if x209 = true then (Out.ok (t206.1 + (1 : Int))) else (Out.ok t206.1))) >>= fun run_210 =>
 (Out.ok (run_210, ())))) x212 (run_203, ()))) >>= fun m213 =>
 ((mulG t202.1 m213.1) >>= fun whole_214 =>
 (Out.ok (whole_214, ()))))) (rng 0 (own.length : Int)) ((1 : Int), ()) = .ok (prodI (runs [] own), ()) := by
  have m1 := h.m1; have m2 := h.m2; have hl := h.len
  have hpos : ∀ k, prodI (runs [] (own.take k)) ≤ fac (own.take k).length := fun k => by
    have := prod_le (own.take k) [] (by simpa using h.nd.sublist (List.take_sublist k own))
    have e : fac ([] : List Int).length = 1 := rfl
    rw [e, Int.mul_one] at this
    simpa using this
  have hfac : ∀ n, n ≤ 12 → fac n ≤ 479001600 := by decide +kernel
  generalize hL : (own.length : Int) = L
  obtain ⟨t', e1, e2⟩ := forN_inv (l := rng 0 L) (t := ((1 : Int), ())) (body := fun (i201 : Int) (t202 : (Int × Unit)) =>
 let run_203 : Int := (1 : Int);
 (((rngG (1 : Int) many) >>= fun x212 => (forN (fun (i205 : Int) (t206 : (Int × Unit)) =>
 (((if (eqT t206.1 i205) = true then (((atG own i201) >>= fun x207 => Out.ok (x207 - i205)) >>= fun x208 => Out.ok (memT x208 (cutA own none (some i201)))) else Out.ok false) >>= fun x209 => (if x209 = true then (Out.ok (t206.1 + (1 : Int))) else (Out.ok t206.1))) >>= fun run_210 =>
 (Out.ok (run_210, ())))) x212 (run_203, ()))) >>= fun m213 =>
 ((mulG t202.1 m213.1) >>= fun whole_214 =>
 (Out.ok (whole_214, ()))))) (I := fun pre (t : Int × Unit) => t = (prodI (runs [] (own.take pre.length)), ())) [] rfl (by
    rintro p i r t e rfl
    have hi : i = (p.length : Int) ∧ p.length < own.length := by
      have e' : rng 0 (own.length : Int) = p ++ i :: r := by rw [hL]; exact (List.nil_append _).symm.trans e
      have hlen : p.length < own.length := by
        have := congrArg List.length e'
        rw [rng_length] at this
        simp at this; omega
      refine ⟨?_, hlen⟩
      have e2 : (rng 0 (own.length : Int))[p.length]? = some i := by rw [e']; simp
      rw [rng_nat] at e2
      rw [List.getElem?_map, List.getElem?_range hlen] at e2
      simpa using e2.symm
    obtain ⟨rfl, hlen⟩ := hi
    dsimp only
    rw [rngG_ok (by omega) (by omega) (by omega) (by omega)]
    simp only [bok]
    rw [e_lawrun h hlen]
    simp only [bok]
    have q1 := hpos p.length
    have q2 := hfac (own.take p.length).length (by rw [List.length_take]; omega)
    have q3 := prod_pos (own.take p.length) []
    rw [mulG_ok (by omega) (by omega)]
    simp only [bok]
    refine ⟨_, rfl, ?_⟩
    have htk : own.take (p ++ [(p.length : Int)]).length = own.take p.length ++ [own[p.length]] := by
      rw [List.length_append, List.length_singleton, List.take_add_one, List.getElem?_eq_getElem hlen]; rfl
    rw [htk, runs_app, List.nil_append]
    unfold prodI
    rw [List.foldl_append]
    show _ = (List.foldl (fun a b => a * b) 1 (runs [] (own.take p.length)) * ((blw (own.take p.length) 12 own[p.length] : Int) + 1), ())
    rw [Int.add_comm 1])
  rw [e1, e2, List.nil_append, rng_length]
  have : (L - 0).toNat = own.length := by omega
  rw [this, List.take_length]
end Lw

set_option Elab.async false
set_option linter.all false
set_option maxRecDepth 100000
set_option maxHeartbeats 2000000
namespace Lw
open PySem Fw
def bodyB : Int → (List Int) × Unit → Out (TF ((List Int) × Unit) ((List Int) × Unit) Bool) := (fun (i157 : Int) (t158 : ((List Int) × Unit)) =>
 (((((t_law_roll_1 t158.1 (12 : Int) >>= fun r167 => Out.ok (r167.1, (r167.2, ()))) >>= fun y168 => Out.ok (((1 : Int) + y168.1), y168.2)) >>= fun q170 => Out.ok (q170.2.1, q170.1, ())) >>= fun m171 =>
 (((((((rngC m171.2.1) >>= fun x185 => Out.ok (x185, ())) >>= fun y186 => Out.ok (y186, (m171.1, ()))) >>= fun q187 => t_law_turned_1 q187.2.1 q187.1.1 >>= fun r188 => Out.ok (r188.1, (r188.2, ()))) >>= fun x189 => (((t_law_roll_1 x189.2.1 (m171.2.1 + (1 : Int)) >>= fun r192 => Out.ok (r192.1, (r192.2, ()))) >>= fun z194 => Out.ok (some z194.1, z194.2)) >>= fun z193 => Out.ok (cutA x189.1 none z193.1, z193.2))) >>= fun q195 => Out.ok (q195.2.1, q195.1, ())) >>= fun m196 =>
 (((t_first_for_1 m171.2.1 m196.2.1) >>= fun x198 => Out.ok (x198, ((1 : Int), ()))) >>= fun u199 =>
 (((rng0 ((List.length m196.2.1 : Nat) : Int)) >>= fun x216 => (forN (fun (i201 : Int) (t202 : (Int × Unit)) =>
 let run_203 : Int := (1 : Int);
 (((rngG (1 : Int) m171.2.1) >>= fun x212 => (forN (fun (i205 : Int) (t206 : (Int × Unit)) =>
 (((if (eqT t206.1 i205) = true then (((atG m196.2.1 i201) >>= fun x207 => Out.ok (x207 - i205)) >>= fun x208 => Out.ok (memT x208 (cutA m196.2.1 none (some i201)))) else Out.ok false) >>= fun x209 => (if x209 = true then (Out.ok (t206.1 + (1 : Int))) else (Out.ok t206.1))) >>= fun run_210 =>
 (Out.ok (run_210, ())))) x212 (run_203, ()))) >>= fun m213 =>
 ((mulG t202.1 m213.1) >>= fun whole_214 =>
 (Out.ok (whole_214, ()))))) x216 (u199.2.1, ()))) >>= fun m217 =>
 ((((t_places_1 (m171.2.1, u199.1)) >>= fun x218 => Out.ok (!eqT x218 ((fun x => List.map some x) m196.2.1))) >>= fun x228 => (if x228 = true then Out.ok true else ((((((t_count_for_1 m171.2.1 m196.2.1) >>= fun x219 => Out.ok ((fun x => (eI x : D)) x219)) >>= fun x221 => Out.ok (x221, (((fun x => (eI x : D)) m217.1), ()))) >>= fun x222 => sameG x222.1 x222.2.1) >>= fun x223 => Out.ok (!x223)) >>= fun x227 => (if x227 = true then Out.ok true else ((fits (((List.zip u199.1 m196.2.1).filter fun (i225 : (Int × Int)) => (decide (i225.2 < i225.1))).map fun (i225 : (Int × Int)) => (1 : Int))) >>= fun x226 => Out.ok (!eqT x226 ([] : (List Int)))))))) >>= fun x235 => if x235 = true then ((Out.ok false) >>= fun r229 => Out.ok (.rt r229)) else ((t_count_finding_1 m171.2.1 ((List.length m196.2.1 : Nat) : Int)) >>= fun u230 =>
 ((if (decide (u230.1 < u230.2)) = true then Out.ok true else (if (decide (u230.2 < m217.1)) = true then Out.ok true else (if (decide ((0 : Int) < ((List.length m196.2.1 : Nat) : Int))) = true then (((t_law_power_1 (m171.2.1 + (1 : Int)) (((List.length m196.2.1 : Nat) : Int) - (1 : Int))) >>= fun x231 => (mulG ((m171.2.1 + (1 : Int)) - ((List.length m196.2.1 : Nat) : Int)) x231)) >>= fun x232 => Out.ok (!eqT u230.2 x232)) else Out.ok false))) >>= fun x234 => if x234 = true then ((Out.ok false) >>= fun r233 => Out.ok (.rt r233)) else (Out.ok (.nx (m196.1, ())))))))))) : Out (TF ((List Int) × Unit) ((List Int) × Unit) Bool)))
theorem e_nums {m p : Nat} (h1 : 1 ≤ m) (h2 : m ≤ 12) (h3 : p ≤ m) : ∃ u, t_count_finding_1 (m : Int) (p : Int) = .ok u ∧ ¬ u.1 < u.2 ∧ fac p ≤ u.2 ∧ (p ≠ 0 → (t_law_power_1 ((m : Int) + 1) ((p : Int) - 1) >>= fun x => mulG ((m : Int) + 1 - (p : Int)) x) = .ok u.2) := by
  have h := ckF_all m (List.mem_range.mpr (by omega)) p (List.mem_range.mpr (by omega))
  rcases h with h | h | h
  · omega
  · omega
  · unfold ckF at h
    cases hu : t_count_finding_1 (m : Int) (p : Int) with
    | ok u =>
      rw [hu] at h
      simp only [Bool.and_eq_true, Bool.or_eq_true, Bool.not_eq_true', decide_eq_false_iff_not, decide_eq_true_eq, beq_iff_eq] at h
      obtain ⟨⟨a, b⟩, c⟩ := h
      refine ⟨u, rfl, a, b, fun hp => ?_⟩
      rcases c with c | c
      · exact absurd c hp
      · cases hv : (t_law_power_1 ((m : Int) + 1) ((p : Int) - 1) >>= fun x => mulG ((m : Int) + 1 - (p : Int)) x) with
        | ok v =>
          rw [hv] at c
          simp only [decide_eq_true_eq] at c
          rw [c]
        | err _ _ => rw [hv] at c; cases c
        | bad => rw [hv] at c; cases c
    | err _ _ => rw [hu] at h; cases h
    | bad => rw [hu] at h; cases h
theorem e_B {c : List Int} (h : Cup c) (i : Int) : ∃ c', bodyB i (c, ()) = .ok (.nx (c', ())) ∧ Cup c' := by
  obtain ⟨r, c1, e1, h1, r0, r1⟩ := e_roll (m := 12) h (by decide) (by decide)
  obtain ⟨m, hm⟩ : ∃ m : Nat, 1 + r = (m : Int) := ⟨(1 + r).toNat, by omega⟩
  obtain ⟨ow, c2, e2, h2, pm⟩ := e_turned (own := rng 0 (m : Int)) h1 (by rw [rng_length]; omega)
  obtain ⟨k, c3, e3, h3, k0, k1⟩ := e_roll (m := (m : Int) + 1) h2 (by omega) (by omega)
  obtain ⟨n, rfl⟩ := Int.eq_ofNat_of_zero_le k0
  have hlen : ow.length = m := by rw [pm.length_eq, rng_length]; omega
  have hnd : ow.Nodup := by
    refine pm.symm.nodup ?_
    rw [rng_nat, List.Nodup, List.pairwise_map]
    exact List.Pairwise.imp (fun {a b} hab z => hab (by omega)) (List.nodup_range (n := m))
  have U : Un (m : Int) (ow.take n) := {
    m1 := by omega
    m2 := by omega
    len := by rw [List.length_take]; omega
    ok := fun x hx => mem_rng.mp ((pm.mem_iff).mp (List.mem_of_mem_take hx))
    nd := hnd.sublist (List.take_sublist n ow) }
  obtain ⟨u, eu, n1, n2, n3⟩ := e_nums (m := m) (p := (ow.take n).length) (by omega) (by omega) (by rw [List.length_take]; omega)
  have hw := whole_le U
  unfold bodyB
  simp only [e1, bok, hm]
  rw [rngC_ok (by omega) (by omega)]
  simp only [bok, e2, e3]
  rw [cut_take (by omega)]
  simp only [bok, e_first U]
  generalize hO : ow.take n = own at *
  generalize hL : ((List.length own : Nat) : Int) = L
  have hl2 := U.len
  rw [rng0_ok (n := L) (by omega) (by omega)]
  simp only [bok]
  have ew := e_whole U
  rw [hL] at ew
  rw [ew]
  simp only [bok, e_pl (wi_fst U), plc_fst U, e_count U]
  have hq : eqT (own.map some) (List.map some own) = true := by unfold eqT; simp
  have hs : sameG (eI (prodI (runs [] own))) (eI (prodI (runs [] own))) = .ok true := sameG_ok rfl
  simp only [hq, Bool.not_true, Bool.false_eq_true, if_false, bok, hs, zip_fst U, List.map_nil]
  rw [fits_ok (by simp)]
  have he : eqT ([] : List Int) [] = true := by unfold eqT; simp
  simp only [bok, he, Bool.not_true, Bool.false_eq_true, if_false]
  rw [← hL, eu]
  simp only [bok]
  rw [decide_eq_false n1, decide_eq_false (by omega)]
  simp only [Bool.false_eq_true, if_false]
  by_cases hp : own.length = 0
  · have hz : ¬ ((0 : Int) < (own.length : Int)) := by omega
    rw [decide_eq_false hz]
    simp only [Bool.false_eq_true, if_false, bok]
    exact ⟨_, rfl, h3⟩
  · have hz : ((0 : Int) < (own.length : Int)) := by omega
    rw [decide_eq_true hz]
    have := n3 hp
    simp only [if_true, this, bok]
    have hq2 : eqT u.2 u.2 = true := by unfold eqT; simp
    simp only [hq2, Bool.not_true, Bool.false_eq_true, if_false]
    exact ⟨_, rfl, h3⟩
end Lw

set_option Elab.async false
set_option linter.all false
set_option maxRecDepth 100000
set_option maxHeartbeats 2000000
namespace Lw
open PySem Fw
def isOkT : Out Bool → Bool
  | .ok b => b
  | _ => false
theorem ok_of {o : Out Bool} (h : isOkT o = true) : o = .ok true := by
  cases o with
  | ok b => cases b <;> first | rfl | cases h
  | err c x => cases h
  | bad => cases h
def restC (m : Int) : Out Bool := (((((t_count_finding_1 m m) >>= fun x250 => Out.ok x250.2) >>= fun x258 => (((t_count_finding_1 m (1 : Int)) >>= fun x256 => (((t_count_finding_1 m (0 : Int)) >>= fun x254 => (((t_most_steps_1 m m) >>= fun x252 => Out.ok (x252, ())) >>= fun y253 => Out.ok (x254, y253))) >>= fun y255 => Out.ok (x256, y255))) >>= fun y257 => Out.ok (x258, y257))) >>= fun x259 => Out.ok ((fun x => (x.1, x.2.1, x.2.2.1, x.2.2.2.1)) x259)) >>= fun told_260 =>
 (((((((t_law_power_1 (m + (1 : Int)) (m - (1 : Int))) >>= fun x272 => ((((((((mulG m (m - (1 : Int))) >>= fun x261 => Out.ok (x261 / 2)) >>= fun x265 => (((repG [(0 : Int)] m) >>= fun x263 => Out.ok (x263, ())) >>= fun y264 => Out.ok (x265, y264))) >>= fun x266 => Out.ok ((fun x => (x.1, x.2.1)) x266)) >>= fun x268 => Out.ok (x268, ())) >>= fun y269 => Out.ok (((1 : Int), (1 : Int)), y269)) >>= fun y270 => Out.ok ((m, m), y270)) >>= fun y271 => Out.ok (x272, y271))) >>= fun x273 => Out.ok ((fun x => (x.1, x.2.1, x.2.2.1, x.2.2.2.1)) x273)) >>= fun x274 => Out.ok ((fun x => ((e4 eI (e2 eI eI) (e2 eI eI) (e2 eI (eU eI))) x : D)) x274)) >>= fun x276 => Out.ok (x276, ())) >>= fun y277 => Out.ok (((fun x => ((e4 eI (e2 eI eI) (e2 eI eI) (e2 eI (eU eI))) x : D)) told_260), y277)) >>= fun x278 => sameG x278.1 x278.2.1))
theorem restC_all : ∀ m ∈ List.range 13, m = 0 ∨ isOkT (restC (m : Int)) = true := by decide +kernel
def bodyC (m236 : (List Int) × Unit) : Out Bool := ((((t_law_roll_1 m236.1 (12 : Int) >>= fun r245 => Out.ok (r245.1, (r245.2, ()))) >>= fun y246 => Out.ok (((1 : Int) + y246.1), y246.2)) >>= fun q248 => Out.ok (q248.2.1, q248.1, ())) >>= fun m249 =>
 (((((t_count_finding_1 m249.2.1 m249.2.1) >>= fun x250 => Out.ok x250.2) >>= fun x258 => (((t_count_finding_1 m249.2.1 (1 : Int)) >>= fun x256 => (((t_count_finding_1 m249.2.1 (0 : Int)) >>= fun x254 => (((t_most_steps_1 m249.2.1 m249.2.1) >>= fun x252 => Out.ok (x252, ())) >>= fun y253 => Out.ok (x254, y253))) >>= fun y255 => Out.ok (x256, y255))) >>= fun y257 => Out.ok (x258, y257))) >>= fun x259 => Out.ok ((fun x => (x.1, x.2.1, x.2.2.1, x.2.2.2.1)) x259)) >>= fun told_260 =>
 (((((((t_law_power_1 (m249.2.1 + (1 : Int)) (m249.2.1 - (1 : Int))) >>= fun x272 => ((((((((mulG m249.2.1 (m249.2.1 - (1 : Int))) >>= fun x261 => Out.ok (x261 / 2)) >>= fun x265 => (((repG [(0 : Int)] m249.2.1) >>= fun x263 => Out.ok (x263, ())) >>= fun y264 => Out.ok (x265, y264))) >>= fun x266 => Out.ok ((fun x => (x.1, x.2.1)) x266)) >>= fun x268 => Out.ok (x268, ())) >>= fun y269 => Out.ok (((1 : Int), (1 : Int)), y269)) >>= fun y270 => Out.ok ((m249.2.1, m249.2.1), y270)) >>= fun y271 => Out.ok (x272, y271))) >>= fun x273 => Out.ok ((fun x => (x.1, x.2.1, x.2.2.1, x.2.2.2.1)) x273)) >>= fun x274 => Out.ok ((fun x => ((e4 eI (e2 eI eI) (e2 eI eI) (e2 eI (eU eI))) x : D)) x274)) >>= fun x276 => Out.ok (x276, ())) >>= fun y277 => Out.ok (((fun x => ((e4 eI (e2 eI eI) (e2 eI eI) (e2 eI (eU eI))) x : D)) told_260), y277)) >>= fun x278 => sameG x278.1 x278.2.1)))
theorem e_C {c : List Int} (h : Cup c) : bodyC (c, ()) = .ok true := by
  obtain ⟨r, c1, e1, h1, r0, r1⟩ := e_roll (m := 12) h (by decide) (by decide)
  obtain ⟨m, hm⟩ : ∃ m : Nat, 1 + r = (m : Int) := ⟨(1 + r).toNat, by omega⟩
  have hr : restC (m : Int) = .ok true := by
    rcases restC_all m (List.mem_range.mpr (by omega)) with h | h
    · omega
    · exact ok_of h
  unfold bodyC
  simp only [e1, bok, hm]
  exact hr
end Lw

set_option Elab.async false
set_option linter.all false
set_option maxRecDepth 100000
set_option maxHeartbeats 2000000
namespace Lw
open PySem Fw
theorem ordX_ints (l : List Int) : ordX (l.map eI) = true := by
  unfold ordX
  rw [Bool.and_eq_true, Bool.and_eq_true, List.all_eq_true, List.all_eq_true]
  refine ⟨⟨fun a ha => ?_, fun a ha => ?_⟩, ?_⟩
  · obtain ⟨x, _, rfl⟩ := List.mem_map.mp ha
    rw [List.all_eq_true]
    intro b hb
    obtain ⟨y, _, rfl⟩ := List.mem_map.mp hb
    rfl
  · obtain ⟨x, _, rfl⟩ := List.mem_map.mp ha
    rfl
  · exact (q_lst q_int).shp (by decide) l
theorem maxT_ints (x : Int) (r : List Int) : maxT eI (x :: r) = .ok (r.foldl max x) := by
  have h1 := maxD_map (ea := eI) x r
  have h2 : PySem.W.maxD (eI x) (r.map eI) = eI (r.foldl max x) := PySem.W.maxD_ints x r
  rw [h2] at h1
  have h3 : r.foldl max x = r.foldl (fun a y => if PySem.W.dataLt (eI a) (eI y) = true then y else a) x := PyData.int.inj h1
  unfold maxT
  show (if ordX (List.map eI (x :: r)) = true then Out.ok (List.foldl (fun a y => if PySem.W.dataLt (eI a) (eI y) = true then y else a) x r) else Out.bad) = _
  rw [if_pos (ordX_ints (x :: r)), h3]
def maxP : List Int → Out Int
  | [] => .bad
  | x :: r => .ok (r.foldl max x)
theorem maxT_eq : maxT eI = maxP := by
  funext l
  cases l with
  | nil => unfold maxT maxP; rfl
  | cons x r => rw [maxT_ints]; rfl
end Lw

set_option Elab.async false
set_option linter.all false
set_option maxRecDepth 100000
set_option maxHeartbeats 4000000
namespace Lw
open PySem Fw
/-! ### the first loop: its parts, as plain evaluation -/
def goodA (m : Int) (rows : List (List Int)) : Out (List (List Int)) := (lcP (fun (i60 : (List Int)) => (((t_law_places_1 m i60) >>= fun x61 => Out.ok (!memT ((fun _ => (none : (Option Int))) ()) x61)) >>= fun x63 => (if x63 = true then ((Out.ok i60) >>= fun z62 => Out.ok (some z62)) else Out.ok none))) rows >>= fun r => fits r)
def sameA (m p : Int) (rows good : List (List Int)) : Out Bool := (((((((t_count_finding_1 m p) >>= fun x68 => (((t_all_finding_1 m p) >>= fun x66 => Out.ok (x66, ())) >>= fun y67 => Out.ok (x68, y67))) >>= fun x69 => Out.ok ((fun x => (x.1, x.2.1)) x69)) >>= fun x70 => Out.ok ((fun x => ((e2 (e2 eI eI) (eU (eU eI))) x : D)) x70)) >>= fun x72 => Out.ok (x72, (((fun x => ((e2 (e2 eI eI) (eU (eU eI))) x : D)) ((((List.length rows : Nat) : Int), ((List.length good : Nat) : Int)), good)), ()))) >>= fun x73 => sameG x73.1 x73.2.1))
def in1 (m : Int) (good : List (List Int)) (own : List Int) : Out Bool := ((lcP (fun (i102 : (List Int)) => (((((t_law_places_1 m i102) >>= fun x103 => Out.ok x103) >>= unO) >>= fun x104 => Out.ok (eqT x104 own)) >>= fun x106 => (if x106 = true then ((Out.ok i102) >>= fun z105 => Out.ok (some z105)) else Out.ok none))) good >>= fun r => fits r) >>= fun same_107 =>
 ((((((t_count_for_1 m own) >>= fun x111 => (((t_first_for_1 m own) >>= fun x109 => Out.ok (x109, ())) >>= fun y110 => Out.ok (x111, y110))) >>= fun x112 => Out.ok ((fun x => (x.1, x.2.1)) x112)) >>= fun x117 => Out.ok ((fun x => ((e2 eI (eU eI)) x : D)) x117)) >>= fun x122 => (((((((atG same_107 (0 : Int)) >>= fun x114 => Out.ok (x114, ())) >>= fun y115 => Out.ok (((List.length same_107 : Nat) : Int), y115)) >>= fun x116 => Out.ok ((fun x => (x.1, x.2.1)) x116)) >>= fun x118 => Out.ok ((fun x => ((e2 eI (eU eI)) x : D)) x118)) >>= fun x120 => Out.ok (x120, ())) >>= fun y121 => Out.ok (x122, y121))) >>= fun x123 => sameG x123.1 x123.2.1))
def in2 (m p : Int) (good : List (List Int)) (mx : List Int → Out Int) : Out Bool := ((lcQ (fun (i127 : (List Int)) => ((((t_law_places_1 m i127) >>= unO) >>= fun x128 => Out.ok (List.sum x128)) >>= fun x129 => Out.ok (x129 - (List.sum i127)))) good >>= fun r => fits r) >>= fun sums_130 =>
 ((((t_most_steps_1 m p) >>= fun x142 => Out.ok ((fun x => ((e2 eI (eU eI)) x : D)) x142)) >>= fun x147 => ((((((mx sums_130) >>= fun x140 => ((((lcP (fun (i132 : ((List Int) × Int)) => (((mx sums_130) >>= fun x133 => Out.ok (eqT i132.2 x133)) >>= fun x135 => (if x135 = true then ((Out.ok i132.1) >>= fun z134 => Out.ok (some z134)) else Out.ok none))) (List.zip good sums_130) >>= fun r => fits r) >>= fun x136 => (atG x136 (0 : Int))) >>= fun x138 => Out.ok (x138, ())) >>= fun y139 => Out.ok (x140, y139))) >>= fun x141 => Out.ok ((fun x => (x.1, x.2.1)) x141)) >>= fun x143 => Out.ok ((fun x => ((e2 eI (eU eI)) x : D)) x143)) >>= fun x145 => Out.ok (x145, ())) >>= fun y146 => Out.ok (x147, y146))) >>= fun x148 => sameG x148.1 x148.2.1))
def ownsA (m : Int) (good : List (List Int)) : Out (List (List Int)) := lcQ (fun row => t_law_places_1 m row >>= unO) good
def uq : List (List Int) → List (List Int)
  | [] => []
  | x :: r => if x ∈ r then uq r else x :: uq r
theorem uq_mem {x : List Int} : ∀ {l : List (List Int)}, x ∈ l → x ∈ uq l
  | y :: r, h => by
    unfold uq
    split
    · rename_i hy
      rcases List.mem_cons.mp h with rfl | h
      · exact uq_mem hy
      · exact uq_mem h
    · rcases List.mem_cons.mp h with rfl | h
      · exact List.mem_cons_self
      · exact List.mem_cons_of_mem _ (uq_mem h)
def ckO (m p : Int) : Out Bool := t_law_rows_1 m p >>= fun rows => goodA m rows >>= fun good => sameA m p rows good >>= fun a => if good.isEmpty = true then .ok a else in2 m p good maxP >>= fun b => ownsA m good >>= fun os => .ok (a && (b && (decide (good.length < 1000000) && (uq os).all fun own => isOkT (in1 m good own))))
theorem ckA_all : ∀ m ∈ List.range 5, ∀ p ∈ List.range 5, m = 0 ∨ isOkT (ckO (m : Int) (p : Int)) = true := by decide +kernel
end Lw

set_option Elab.async false
set_option linter.all false
set_option maxRecDepth 100000
set_option maxHeartbeats 4000000
namespace Lw
open PySem Fw
theorem lcQ_mem {α β : Type} {f : α → Out β} : ∀ {l : List α} {os : List β}, lcQ f l = .ok os → ∀ x ∈ l, ∃ y ∈ os, f x = .ok y
  | [], _, _, x, hx => by cases hx
  | a :: l, os, h, x, hx => by
    obtain ⟨y, h1, h2⟩ := bind_okd (show (noErr (f a) >>= fun p => lcQ f l >>= fun q => (.ok (p :: q) : Out (List β))) = .ok os from h)
    obtain ⟨q, h3, h4⟩ := bind_okd h2
    cases h4
    rcases List.mem_cons.mp hx with rfl | hx
    · exact ⟨y, List.mem_cons_self, noErr_okd h1⟩
    · obtain ⟨z, hz, e⟩ := lcQ_mem h3 x hx
      exact ⟨z, List.mem_cons_of_mem _ hz, e⟩
def in1a (m : Int) (good : List (List Int)) (own : List Int) : Out (List (List Int)) := (lcP (fun (i102 : (List Int)) => (((((t_law_places_1 m i102) >>= fun x103 => Out.ok x103) >>= unO) >>= fun x104 => Out.ok (eqT x104 own)) >>= fun x106 => (if x106 = true then ((Out.ok i102) >>= fun z105 => Out.ok (some z105)) else Out.ok none))) good >>= fun r => fits r)
def in1b (m : Int) (own : List Int) (same_107 : List (List Int)) : Out Bool := ((((((t_count_for_1 m own) >>= fun x111 => (((t_first_for_1 m own) >>= fun x109 => Out.ok (x109, ())) >>= fun y110 => Out.ok (x111, y110))) >>= fun x112 => Out.ok ((fun x => (x.1, x.2.1)) x112)) >>= fun x117 => Out.ok ((fun x => ((e2 eI (eU eI)) x : D)) x117)) >>= fun x122 => (((((((atG same_107 (0 : Int)) >>= fun x114 => Out.ok (x114, ())) >>= fun y115 => Out.ok (((List.length same_107 : Nat) : Int), y115)) >>= fun x116 => Out.ok ((fun x => (x.1, x.2.1)) x116)) >>= fun x118 => Out.ok ((fun x => ((e2 eI (eU eI)) x : D)) x118)) >>= fun x120 => Out.ok (x120, ())) >>= fun y121 => Out.ok (x122, y121))) >>= fun x123 => sameG x123.1 x123.2.1)
theorem in1_eq (m : Int) (good : List (List Int)) (own : List Int) : in1 m good own = (in1a m good own >>= fun same => in1b m own same) := rfl
def in2a (m : Int) (good : List (List Int)) : Out (List Int) := (lcQ (fun (i127 : (List Int)) => ((((t_law_places_1 m i127) >>= unO) >>= fun x128 => Out.ok (List.sum x128)) >>= fun x129 => Out.ok (x129 - (List.sum i127)))) good >>= fun r => fits r)
def in2b (m p : Int) (good : List (List Int)) (mx : List Int → Out Int) (sums_130 : List Int) : Out Bool := ((((t_most_steps_1 m p) >>= fun x142 => Out.ok ((fun x => ((e2 eI (eU eI)) x : D)) x142)) >>= fun x147 => ((((((mx sums_130) >>= fun x140 => ((((lcP (fun (i132 : ((List Int) × Int)) => (((mx sums_130) >>= fun x133 => Out.ok (eqT i132.2 x133)) >>= fun x135 => (if x135 = true then ((Out.ok i132.1) >>= fun z134 => Out.ok (some z134)) else Out.ok none))) (List.zip good sums_130) >>= fun r => fits r) >>= fun x136 => (atG x136 (0 : Int))) >>= fun x138 => Out.ok (x138, ())) >>= fun y139 => Out.ok (x140, y139))) >>= fun x141 => Out.ok ((fun x => (x.1, x.2.1)) x141)) >>= fun x143 => Out.ok ((fun x => ((e2 eI (eU eI)) x : D)) x143)) >>= fun x145 => Out.ok (x145, ())) >>= fun y146 => Out.ok (x147, y146))) >>= fun x148 => sameG x148.1 x148.2.1)
theorem in2_eq (m p : Int) (good : List (List Int)) (mx : List Int → Out Int) : in2 m p good mx = (in2a m good >>= fun s => in2b m p good mx s) := rfl
def bodyA : Int → (List Int) × Unit → Out (TF ((List Int) × Unit) ((List Int) × Unit) Bool) := (fun (i37 : Int) (t38 : ((List Int) × Unit)) =>
 ((((((t_law_roll_1 t38.1 (4 : Int) >>= fun r48 => Out.ok (r48.1, (r48.2, ()))) >>= fun y49 => Out.ok (((1 : Int) + y49.1), y49.2)) >>= fun x51 => ((t_law_roll_1 x51.2.1 (5 : Int) >>= fun r52 => Out.ok (r52.1, (r52.2, ()))) >>= fun x53 => (Out.ok ((), (x53.2.1, ()))) >>= fun y54 => Out.ok ((x53.1, y54.1), y54.2)) >>= fun y55 => Out.ok ((x51.1, y55.1), y55.2)) >>= fun q56 => Out.ok (q56.2.1, q56.1.1, q56.1.2.1, ())) >>= fun m57 =>
 ((t_law_rows_1 m57.2.1 m57.2.2.1) >>= fun rows_58 =>
 ((lcP (fun (i60 : (List Int)) => (((t_law_places_1 m57.2.1 i60) >>= fun x61 => Out.ok (!memT ((fun _ => (none : (Option Int))) ()) x61)) >>= fun x63 => (if x63 = true then ((Out.ok i60) >>= fun z62 => Out.ok (some z62)) else Out.ok none))) rows_58 >>= fun r => fits r) >>= fun good_64 =>
 ((((((((t_count_finding_1 m57.2.1 m57.2.2.1) >>= fun x68 => (((t_all_finding_1 m57.2.1 m57.2.2.1) >>= fun x66 => Out.ok (x66, ())) >>= fun y67 => Out.ok (x68, y67))) >>= fun x69 => Out.ok ((fun x => (x.1, x.2.1)) x69)) >>= fun x70 => Out.ok ((fun x => ((e2 (e2 eI eI) (eU (eU eI))) x : D)) x70)) >>= fun x72 => Out.ok (x72, (((fun x => ((e2 (e2 eI eI) (eU (eU eI))) x : D)) ((((List.length rows_58 : Nat) : Int), ((List.length good_64 : Nat) : Int)), good_64)), ()))) >>= fun x73 => sameG x73.1 x73.2.1) >>= fun x74 => Out.ok (!x74)) >>= fun x154 => if x154 = true then ((Out.ok false) >>= fun r75 => Out.ok (.rt r75)) else (andThen ((if (!eqT good_64 ([] : (List (List Int)))) = true then (((((((Out.ok (m57.2.1, (m57.1, ()))) >>= fun x89 => ((t_law_some_1 x89.2.1 good_64 >>= fun r90 => Out.ok (r90.1, (r90.2, ()))) >>= fun x91 => (Out.ok ((), (x91.2.1, ()))) >>= fun y92 => Out.ok ((x91.1, y92.1), y92.2)) >>= fun y93 => Out.ok ((x89.1, y93.1), y93.2)) >>= fun q94 => t_law_places_1 q94.1.1 q94.1.2.1 >>= fun r95 => Out.ok (r95, q94.2)) >>= fun x96 => Out.ok (x96.1, x96.2)) >>= fun x97 => unO x97.1 >>= fun z98 => Out.ok (z98, x97.2)) >>= fun q99 => Out.ok (q99.2.1, q99.1, ())) >>= fun m100 =>
 ((lcP (fun (i102 : (List Int)) => (((((t_law_places_1 m57.2.1 i102) >>= fun x103 => Out.ok x103) >>= unO) >>= fun x104 => Out.ok (eqT x104 m100.2.1)) >>= fun x106 => (if x106 = true then ((Out.ok i102) >>= fun z105 => Out.ok (some z105)) else Out.ok none))) good_64 >>= fun r => fits r) >>= fun same_107 =>
 ((((((((t_count_for_1 m57.2.1 m100.2.1) >>= fun x111 => (((t_first_for_1 m57.2.1 m100.2.1) >>= fun x109 => Out.ok (x109, ())) >>= fun y110 => Out.ok (x111, y110))) >>= fun x112 => Out.ok ((fun x => (x.1, x.2.1)) x112)) >>= fun x117 => Out.ok ((fun x => ((e2 eI (eU eI)) x : D)) x117)) >>= fun x122 => (((((((atG same_107 (0 : Int)) >>= fun x114 => Out.ok (x114, ())) >>= fun y115 => Out.ok (((List.length same_107 : Nat) : Int), y115)) >>= fun x116 => Out.ok ((fun x => (x.1, x.2.1)) x116)) >>= fun x118 => Out.ok ((fun x => ((e2 eI (eU eI)) x : D)) x118)) >>= fun x120 => Out.ok (x120, ())) >>= fun y121 => Out.ok (x122, y121))) >>= fun x123 => sameG x123.1 x123.2.1) >>= fun x124 => Out.ok (!x124)) >>= fun x152 => if x152 = true then ((Out.ok false) >>= fun r125 => Out.ok (.rt r125)) else ((lcQ (fun (i127 : (List Int)) => ((((t_law_places_1 m57.2.1 i127) >>= unO) >>= fun x128 => Out.ok (List.sum x128)) >>= fun x129 => Out.ok (x129 - (List.sum i127)))) good_64 >>= fun r => fits r) >>= fun sums_130 =>
 ((((((t_most_steps_1 m57.2.1 m57.2.2.1) >>= fun x142 => Out.ok ((fun x => ((e2 eI (eU eI)) x : D)) x142)) >>= fun x147 => ((((((maxT eI sums_130) >>= fun x140 => ((((lcP (fun (i132 : ((List Int) × Int)) => (((maxT eI sums_130) >>= fun x133 => Out.ok (eqT i132.2 x133)) >>= fun x135 => (if x135 = true then ((Out.ok i132.1) >>= fun z134 => Out.ok (some z134)) else Out.ok none))) (List.zip good_64 sums_130) >>= fun r => fits r) >>= fun x136 => (atG x136 (0 : Int))) >>= fun x138 => Out.ok (x138, ())) >>= fun y139 => Out.ok (x140, y139))) >>= fun x141 => Out.ok ((fun x => (x.1, x.2.1)) x141)) >>= fun x143 => Out.ok ((fun x => ((e2 eI (eU eI)) x : D)) x143)) >>= fun x145 => Out.ok (x145, ())) >>= fun y146 => Out.ok (x147, y146))) >>= fun x148 => sameG x148.1 x148.2.1) >>= fun x149 => Out.ok (!x149)) >>= fun x151 => if x151 = true then ((Out.ok false) >>= fun r150 => Out.ok (.rt r150)) else (Out.ok (.nx (m100.1, m57.2.1, m57.2.2.1, good_64, ())))))))) else (Out.ok (.nx (m57.1, m57.2.1, m57.2.2.1, good_64, ())))) : Out (TF ((List Int) × Int × Int × (List (List Int)) × Unit) ((List Int) × Unit) Bool)) fun m153 => (Out.ok (.nx (m153.1, ())))))))) : Out (TF ((List Int) × Unit) ((List Int) × Unit) Bool)))
def bodyA' : Int → (List Int) × Unit → Out (TF ((List Int) × Unit) ((List Int) × Unit) Bool) := (fun (i37 : Int) (t38 : ((List Int) × Unit)) =>
 ((((((t_law_roll_1 t38.1 (4 : Int) >>= fun r48 => Out.ok (r48.1, (r48.2, ()))) >>= fun y49 => Out.ok (((1 : Int) + y49.1), y49.2)) >>= fun x51 => ((t_law_roll_1 x51.2.1 (5 : Int) >>= fun r52 => Out.ok (r52.1, (r52.2, ()))) >>= fun x53 => (Out.ok ((), (x53.2.1, ()))) >>= fun y54 => Out.ok ((x53.1, y54.1), y54.2)) >>= fun y55 => Out.ok ((x51.1, y55.1), y55.2)) >>= fun q56 => Out.ok (q56.2.1, q56.1.1, q56.1.2.1, ())) >>= fun m57 =>
 ((t_law_rows_1 m57.2.1 m57.2.2.1) >>= fun rows_58 =>
 ((goodA m57.2.1 rows_58) >>= fun good_64 =>
 ((sameA m57.2.1 m57.2.2.1 rows_58 good_64 >>= fun x74 => Out.ok (!x74)) >>= fun x154 => if x154 = true then ((Out.ok false) >>= fun r75 => Out.ok (.rt r75)) else (andThen ((if (!eqT good_64 ([] : (List (List Int)))) = true then (((((((Out.ok (m57.2.1, (m57.1, ()))) >>= fun x89 => ((t_law_some_1 x89.2.1 good_64 >>= fun r90 => Out.ok (r90.1, (r90.2, ()))) >>= fun x91 => (Out.ok ((), (x91.2.1, ()))) >>= fun y92 => Out.ok ((x91.1, y92.1), y92.2)) >>= fun y93 => Out.ok ((x89.1, y93.1), y93.2)) >>= fun q94 => t_law_places_1 q94.1.1 q94.1.2.1 >>= fun r95 => Out.ok (r95, q94.2)) >>= fun x96 => Out.ok (x96.1, x96.2)) >>= fun x97 => unO x97.1 >>= fun z98 => Out.ok (z98, x97.2)) >>= fun q99 => Out.ok (q99.2.1, q99.1, ())) >>= fun m100 =>
 ((in1a m57.2.1 good_64 m100.2.1) >>= fun same_107 =>
 (((in1b m57.2.1 m100.2.1 same_107) >>= fun x124 => Out.ok (!x124)) >>= fun x152 => if x152 = true then ((Out.ok false) >>= fun r125 => Out.ok (.rt r125)) else ((in2a m57.2.1 good_64) >>= fun sums_130 =>
 (((in2b m57.2.1 m57.2.2.1 good_64 (maxT eI) sums_130) >>= fun x149 => Out.ok (!x149)) >>= fun x151 => if x151 = true then ((Out.ok false) >>= fun r150 => Out.ok (.rt r150)) else (Out.ok (.nx (m100.1, m57.2.1, m57.2.2.1, good_64, ())))))))) else (Out.ok (.nx (m57.1, m57.2.1, m57.2.2.1, good_64, ())))) : Out (TF ((List Int) × Int × Int × (List (List Int)) × Unit) ((List Int) × Unit) Bool)) fun m153 => (Out.ok (.nx (m153.1, ())))))))) : Out (TF ((List Int) × Unit) ((List Int) × Unit) Bool)))
theorem bodyA_eq : bodyA = bodyA' := rfl
theorem e_A {c : List Int} (h : Cup c) (i : Int) : ∃ c', bodyA i (c, ()) = .ok (.nx (c', ())) ∧ Cup c' := by
  obtain ⟨r, c1, e1, h1, r0, r1⟩ := e_roll (m := 4) h (by decide) (by decide)
  obtain ⟨m, hm⟩ : ∃ m : Nat, 1 + r = (m : Int) := ⟨(1 + r).toNat, by omega⟩
  obtain ⟨k, c2, e2, h2, k0, k1⟩ := e_roll (m := 5) h1 (by decide) (by decide)
  obtain ⟨p, rfl⟩ := Int.eq_ofNat_of_zero_le k0
  have ck : ckO m p = .ok true := by
    rcases ckA_all m (List.mem_range.mpr (by omega)) p (List.mem_range.mpr (by omega)) with h | h
    · omega
    · exact ok_of h
  unfold ckO at ck
  obtain ⟨rows, hr, ck⟩ := bind_okd ck
  obtain ⟨good, hg, ck⟩ := bind_okd ck
  obtain ⟨a, hs, ck⟩ := bind_okd ck
  rw [bodyA_eq]
  unfold bodyA'
  cases good with
  | nil =>
    have ck0 : (Out.ok a : Out Bool) = Out.ok true := ck
    have ha : a = true := Out.ok.inj ck0
    rw [ha] at hs
    have he : eqT ([] : List (List Int)) [] = true := by unfold eqT; simp
    simp only [e1, bok, hm, e2, hr, hg, hs, he, Bool.not_true, Bool.false_eq_true, if_false]
    exact ⟨c2, by rw [andThen_nx rfl], h2⟩
  | cons g0 gs =>
    rw [if_neg (by simp)] at ck
    obtain ⟨b, hi2, ck⟩ := bind_okd ck
    obtain ⟨os, ho, ck⟩ := bind_okd ck
    have ck2 := Out.ok.inj ck
    simp only [Bool.and_eq_true, decide_eq_true_eq] at ck2
    obtain ⟨ha, hb, hfew, ck3⟩ := ck2
    rw [ha] at hs
    rw [hb] at hi2
    obtain ⟨row, c3, e3, h3, hrow⟩ := e_some (l := g0 :: gs) h2 (by simp) hfew
    obtain ⟨own, hown, eo⟩ := lcQ_mem ho row hrow
    obtain ⟨pl, ep, eu⟩ := bind_okd eo
    have hi1 := ok_of (List.all_eq_true.mp ck3 own (uq_mem hown))
    rw [in1_eq] at hi1
    rw [in2_eq] at hi2
    obtain ⟨same, hsm, hi1⟩ := bind_okd hi1
    obtain ⟨sums, hsu, hi2⟩ := bind_okd hi2
    have he : eqT (g0 :: gs) ([] : List (List Int)) = false := by unfold eqT; simp
    simp only [maxT_eq, e1, bok, hm, e2, hr, hg, hs, he, Bool.not_true, Bool.not_false, Bool.false_eq_true, if_false, if_true, e3, ep, eu, hsm, hi1, hsu, hi2]
    exact ⟨c3, by rw [andThen_nx rfl], h3⟩
end Lw

set_option Elab.async false
set_option linter.all false
set_option maxRecDepth 100000
set_option maxHeartbeats 4000000
namespace Lw
open PySem Fw
theorem e_cup {ns : List Int} (h : ns.length ≤ 63) : ∃ c, t_law_cup_1 (scrD (ns.map PyData.int)) = .ok c ∧ Cup c := by
  have e1 : toLX (scrD (ns.map PyData.int)) = .ok (ns.map PyData.int) := rfl
  have e2 : ∃ x : Int, atG (ns.map PyData.int ++ [PyData.int 0]) (0 : Int) = .ok (.int x) := by
    cases ns with
    | nil => exact ⟨0, atG_nat (i := 0) (by simp)⟩
    | cons a r => exact ⟨a, atG_nat (i := 0) (by simp)⟩
  obtain ⟨x, e2⟩ := e2
  unfold t_law_cup_1
  simp only [e1, bok, eI]
  rw [fits_ok (by simp; omega)]
  simp only [bok, e2, toI]
  have ha : 0 ≤ (if x < 0 then -x else x) := by split <;> omega
  generalize (if x < 0 then -x else x) = N at ha
  refine ⟨_, rfl, _, _, rfl, ?_, ?_⟩
  · split
    · exact Int.ediv_nonneg ha (by decide)
    · exact Int.le_refl 0
  · have := Int.emod_nonneg (N * 313 + 4021) (show (2077495741 : Int) ≠ 0 by decide)
    omega
theorem thenR_for {X T R : Type} {body : X → T → Out (TF T T R)} {l : List X} {t : T} {k : T → Out R} {r : Out R} {I : T → Prop} (h0 : I t) (hs : ∀ x ∈ l, ∀ t, I t → ∃ t', body x t = .ok (.nx t') ∧ I t') (hk : ∀ t', I t' → k t' = r) : thenR (forS body l t) k = r := by
  obtain ⟨t', e, h⟩ := forS_nx h0 hs
  rw [thenR_nx e, hk t' h]
theorem law_ok {ns : List Int} (h : ns.length ≤ 63) : t_law_1 (scrD (ns.map PyData.int)) = .ok true := by
  obtain ⟨c, ec, hc⟩ := e_cup h
  unfold t_law_1
  rw [ec, bok]
  refine thenR_for (body := bodyA) (I := fun t => Cup t.1) hc ?_ ?_
  · rintro i - ⟨c, ⟨⟩⟩ hc
    obtain ⟨c', e, h⟩ := e_A hc i
    exact ⟨_, e, h⟩
  · rintro ⟨c1, ⟨⟩⟩ hc1
    refine thenR_for (body := bodyB) (I := fun t => Cup t.1) hc1 ?_ ?_
    · rintro i - ⟨c, ⟨⟩⟩ hc
      obtain ⟨c', e, h⟩ := e_B hc i
      exact ⟨_, e, h⟩
    · rintro ⟨c2, ⟨⟩⟩ hc2
      exact e_C hc2
theorem law_true (ns : List Int) (h : ns.length ≤ 63) : fd_law.F .none [scrD (ns.map PyData.int)] = .ok (.bool true, .none) := by
  have q := r_law_1.run .none (scrD (ns.map PyData.int), ())
  have e : t_law_1 (scrD (ns.map PyData.int)) = .ok true := law_ok h
  simp only [e] at q
  exact q
end Lw

set_option Elab.async false
set_option linter.all false
set_option maxRecDepth 100000
set_option maxHeartbeats 4000000
namespace Lw
open PySem PySem.Spec L2 Fw
theorem all_mk {l : PySem.W.OpenLaw} {w : World} {K : PySem.W.Frag} {h : Heap} {mg : Str → Option Value} {fa : Addr} {f1 : Addr} {od1 an1 : Option Addr} {sl1 : Array (Option Value)} {oc1 kV1 dc1 pm1 cd1 ct1 : Value} {f2 : Addr} {od2 an2 : Option Addr} {sl2 : Array (Option Value)} {oc2 kV2 dc2 pm2 cd2 ct2 : Value} {f3 : Addr} {od3 an3 : Option Addr} {sl3 : Array (Option Value)} {oc3 kV3 dc3 pm3 cd3 ct3 : Value} {f4 : Addr} {od4 an4 : Option Addr} {sl4 : Array (Option Value)} {oc4 kV4 dc4 pm4 cd4 ct4 : Value} {f5 : Addr} {od5 an5 : Option Addr} {sl5 : Array (Option Value)} {oc5 kV5 dc5 pm5 cd5 ct5 : Value} {f6 : Addr} {od6 an6 : Option Addr} {sl6 : Array (Option Value)} {oc6 kV6 dc6 pm6 cd6 ct6 : Value} {f7 : Addr} {od7 an7 : Option Addr} {sl7 : Array (Option Value)} {oc7 kV7 dc7 pm7 cd7 ct7 : Value} {f8 : Addr} {od8 an8 : Option Addr} {sl8 : Array (Option Value)} {oc8 kV8 dc8 pm8 cd8 ct8 : Value} {f9 : Addr} {od9 an9 : Option Addr} {sl9 : Array (Option Value)} {oc9 kV9 dc9 pm9 cd9 ct9 : Value} {f10 : Addr} {od10 an10 : Option Addr} {sl10 : Array (Option Value)} {oc10 kV10 dc10 pm10 cd10 ct10 : Value} {f11 : Addr} {od11 an11 : Option Addr} {sl11 : Array (Option Value)} {oc11 kV11 dc11 pm11 cd11 ct11 : Value} {f12 : Addr} {od12 an12 : Option Addr} {sl12 : Array (Option Value)} {oc12 kV12 dc12 pm12 cd12 ct12 : Value} {f13 : Addr} {od13 an13 : Option Addr} {sl13 : Array (Option Value)} {oc13 kV13 dc13 pm13 cd13 ct13 : Value} {f14 : Addr} {od14 an14 : Option Addr} {sl14 : Array (Option Value)} {oc14 kV14 dc14 pm14 cd14 ct14 : Value} {f15 : Addr} {od15 an15 : Option Addr} {sl15 : Array (Option Value)} {oc15 kV15 dc15 pm15 cd15 ct15 : Value} {f16 : Addr} {od16 an16 : Option Addr} {sl16 : Array (Option Value)} {oc16 kV16 dc16 pm16 cd16 ct16 : Value} {f17 : Addr} {od17 an17 : Option Addr} {sl17 : Array (Option Value)} {oc17 kV17 dc17 pm17 cd17 ct17 : Value} {f18 : Addr} {od18 an18 : Option Addr} {sl18 : Array (Option Value)} {oc18 kV18 dc18 pm18 cd18 ct18 : Value} {f19 : Addr} {od19 an19 : Option Addr} {sl19 : Array (Option Value)} {oc19 kV19 dc19 pm19 cd19 ct19 : Value} {f20 : Addr} {od20 an20 : Option Addr} {sl20 : Array (Option Value)} {oc20 kV20 dc20 pm20 cd20 ct20 : Value} {f21 : Addr} {od21 an21 : Option Addr} {sl21 : Array (Option Value)} {oc21 kV21 dc21 pm21 cd21 ct21 : Value} {f22 : Addr} {od22 an22 : Option Addr} {sl22 : Array (Option Value)} {oc22 kV22 dc22 pm22 cd22 ct22 : Value} {f23 : Addr} {od23 an23 : Option Addr} {sl23 : Array (Option Value)} {oc23 kV23 dc23 pm23 cd23 ct23 : Value} {f24 : Addr} {od24 an24 : Option Addr} {sl24 : Array (Option Value)} {oc24 kV24 dc24 pm24 cd24 ct24 : Value} {f25 : Addr} {od25 an25 : Option Addr} {sl25 : Array (Option Value)} {oc25 kV25 dc25 pm25 cd25 ct25 : Value} {f26 : Addr} {od26 an26 : Option Addr} {sl26 : Array (Option Value)} {oc26 kV26 dc26 pm26 cd26 ct26 : Value} {C_InvalidNumber : Addr} {C_InvalidSlots : Addr} {t_ROWS : Tok} {t_SLOTS : Tok}
    (X : K.In h) (G : h.Ns mainGlobals mg) (hfa : mg "law" = some (.ref fa))
    (a1 : PySem.W.nsIn K mainGlobals "is_whole" = some (some (.ref f1)))
    (l1 : K.lookup f1 = some ⟨oc1, od1, .func (PySem.W.fnOf "is_whole" "is_whole" (defArgs s_is_whole) (defBody s_is_whole) (defScope s_is_whole) .none kV1 dc1 pm1 an1 cd1 ct1), sl1⟩)
    (c1 : PySem.W.codeIn K cd1 "is_whole" = true)
    (k1 : PySem.W.keepIn K (.ref f1) = true)
    (a2 : PySem.W.nsIn K mainGlobals "is_tuple_of" = some (some (.ref f2)))
    (l2 : K.lookup f2 = some ⟨oc2, od2, .func (PySem.W.fnOf "is_tuple_of" "is_tuple_of" (defArgs s_is_tuple_of) (defBody s_is_tuple_of) (defScope s_is_tuple_of) .none kV2 dc2 pm2 an2 cd2 ct2), sl2⟩)
    (c2 : PySem.W.codeIn K cd2 "is_tuple_of" = true)
    (k2 : PySem.W.keepIn K (.ref f2) = true)
    (a3 : PySem.W.nsIn K mainGlobals "fits_wishes" = some (some (.ref f3)))
    (l3 : K.lookup f3 = some ⟨oc3, od3, .func (PySem.W.fnOf "fits_wishes" "fits_wishes" (defArgs s_fits_wishes) (defBody s_fits_wishes) (defScope s_fits_wishes) .none kV3 dc3 pm3 an3 cd3 ct3), sl3⟩)
    (c3 : PySem.W.codeIn K cd3 "fits_wishes" = true)
    (k3 : PySem.W.keepIn K (.ref f3) = true)
    (a4 : PySem.W.nsIn K mainGlobals "need_wishes" = some (some (.ref f4)))
    (l4 : K.lookup f4 = some ⟨oc4, od4, .func (PySem.W.fnOf "need_wishes" "need_wishes" (defArgs s_need_wishes) (defBody s_need_wishes) (defScope s_need_wishes) .none kV4 dc4 pm4 an4 cd4 ct4), sl4⟩)
    (c4 : PySem.W.codeIn K cd4 "need_wishes" = true)
    (k4 : PySem.W.keepIn K (.ref f4) = true)
    (a5 : PySem.W.nsIn K mainGlobals "placed" = some (some (.ref f5)))
    (l5 : K.lookup f5 = some ⟨oc5, od5, .func (PySem.W.fnOf "placed" "placed" (defArgs s_placed) (defBody s_placed) (defScope s_placed) .none kV5 dc5 pm5 an5 cd5 ct5), sl5⟩)
    (c5 : PySem.W.codeIn K cd5 "placed" = true)
    (k5 : PySem.W.keepIn K (.ref f5) = true)
    (a6 : PySem.W.nsIn K mainGlobals "more_from" = some (some (.ref f6)))
    (l6 : K.lookup f6 = some ⟨oc6, od6, .func (PySem.W.fnOf "more_from" "more_from" (defArgs s_more_from) (defBody s_more_from) (defScope s_more_from) .none kV6 dc6 pm6 an6 cd6 ct6), sl6⟩)
    (c6 : PySem.W.codeIn K cd6 "more_from" = true)
    (k6 : PySem.W.keepIn K (.ref f6) = true)
    (a7 : PySem.W.nsIn K mainGlobals "power" = some (some (.ref f7)))
    (l7 : K.lookup f7 = some ⟨oc7, od7, .func (PySem.W.fnOf "power" "power" (defArgs s_power) (defBody s_power) (defScope s_power) .none kV7 dc7 pm7 an7 cd7 ct7), sl7⟩)
    (c7 : PySem.W.codeIn K cd7 "power" = true)
    (k7 : PySem.W.keepIn K (.ref f7) = true)
    (a8 : PySem.W.nsIn K mainGlobals "fits_places" = some (some (.ref f8)))
    (l8 : K.lookup f8 = some ⟨oc8, od8, .func (PySem.W.fnOf "fits_places" "fits_places" (defArgs s_fits_places) (defBody s_fits_places) (defScope s_fits_places) .none kV8 dc8 pm8 an8 cd8 ct8), sl8⟩)
    (c8 : PySem.W.codeIn K cd8 "fits_places" = true)
    (k8 : PySem.W.keepIn K (.ref f8) = true)
    (a9 : PySem.W.nsIn K mainGlobals "places" = some (some (.ref f9)))
    (l9 : K.lookup f9 = some ⟨oc9, od9, .func (PySem.W.fnOf "places" "places" (defArgs s_places) (defBody s_places) (defScope s_places) .none kV9 dc9 pm9 an9 cd9 ct9), sl9⟩)
    (c9 : PySem.W.codeIn K cd9 "places" = true)
    (k9 : PySem.W.keepIn K (.ref f9) = true)
    (a10 : PySem.W.nsIn K mainGlobals "need_counts" = some (some (.ref f10)))
    (l10 : K.lookup f10 = some ⟨oc10, od10, .func (PySem.W.fnOf "need_counts" "need_counts" (defArgs s_need_counts) (defBody s_need_counts) (defScope s_need_counts) .none kV10 dc10 pm10 an10 cd10 ct10), sl10⟩)
    (c10 : PySem.W.codeIn K cd10 "need_counts" = true)
    (k10 : PySem.W.keepIn K (.ref f10) = true)
    (a11 : PySem.W.nsIn K mainGlobals "count_finding" = some (some (.ref f11)))
    (l11 : K.lookup f11 = some ⟨oc11, od11, .func (PySem.W.fnOf "count_finding" "count_finding" (defArgs s_count_finding) (defBody s_count_finding) (defScope s_count_finding) .none kV11 dc11 pm11 an11 cd11 ct11), sl11⟩)
    (c11 : PySem.W.codeIn K cd11 "count_finding" = true)
    (k11 : PySem.W.keepIn K (.ref f11) = true)
    (a12 : PySem.W.nsIn K mainGlobals "all_finding" = some (some (.ref f12)))
    (l12 : K.lookup f12 = some ⟨oc12, od12, .func (PySem.W.fnOf "all_finding" "all_finding" (defArgs s_all_finding) (defBody s_all_finding) (defScope s_all_finding) .none kV12 dc12 pm12 an12 cd12 ct12), sl12⟩)
    (c12 : PySem.W.codeIn K cd12 "all_finding" = true)
    (k12 : PySem.W.keepIn K (.ref f12) = true)
    (a13 : PySem.W.nsIn K mainGlobals "runs_ahead" = some (some (.ref f13)))
    (l13 : K.lookup f13 = some ⟨oc13, od13, .func (PySem.W.fnOf "runs_ahead" "runs_ahead" (defArgs s_runs_ahead) (defBody s_runs_ahead) (defScope s_runs_ahead) .none kV13 dc13 pm13 an13 cd13 ct13), sl13⟩)
    (c13 : PySem.W.codeIn K cd13 "runs_ahead" = true)
    (k13 : PySem.W.keepIn K (.ref f13) = true)
    (a14 : PySem.W.nsIn K mainGlobals "need_places" = some (some (.ref f14)))
    (l14 : K.lookup f14 = some ⟨oc14, od14, .func (PySem.W.fnOf "need_places" "need_places" (defArgs s_need_places) (defBody s_need_places) (defScope s_need_places) .none kV14 dc14 pm14 an14 cd14 ct14), sl14⟩)
    (c14 : PySem.W.codeIn K cd14 "need_places" = true)
    (k14 : PySem.W.keepIn K (.ref f14) = true)
    (a15 : PySem.W.nsIn K mainGlobals "count_for" = some (some (.ref f15)))
    (l15 : K.lookup f15 = some ⟨oc15, od15, .func (PySem.W.fnOf "count_for" "count_for" (defArgs s_count_for) (defBody s_count_for) (defScope s_count_for) .none kV15 dc15 pm15 an15 cd15 ct15), sl15⟩)
    (c15 : PySem.W.codeIn K cd15 "count_for" = true)
    (k15 : PySem.W.keepIn K (.ref f15) = true)
    (a16 : PySem.W.nsIn K mainGlobals "first_for" = some (some (.ref f16)))
    (l16 : K.lookup f16 = some ⟨oc16, od16, .func (PySem.W.fnOf "first_for" "first_for" (defArgs s_first_for) (defBody s_first_for) (defScope s_first_for) .none kV16 dc16 pm16 an16 cd16 ct16), sl16⟩)
    (c16 : PySem.W.codeIn K cd16 "first_for" = true)
    (k16 : PySem.W.keepIn K (.ref f16) = true)
    (a17 : PySem.W.nsIn K mainGlobals "most_steps" = some (some (.ref f17)))
    (l17 : K.lookup f17 = some ⟨oc17, od17, .func (PySem.W.fnOf "most_steps" "most_steps" (defArgs s_most_steps) (defBody s_most_steps) (defScope s_most_steps) .none kV17 dc17 pm17 an17 cd17 ct17), sl17⟩)
    (c17 : PySem.W.codeIn K cd17 "most_steps" = true)
    (k17 : PySem.W.keepIn K (.ref f17) = true)
    (a18 : PySem.W.nsIn K mainGlobals "_law_cup" = some (some (.ref f18)))
    (l18 : K.lookup f18 = some ⟨oc18, od18, .func (PySem.W.fnOf "_law_cup" "_law_cup" (defArgs s_law_cup) (defBody s_law_cup) (defScope s_law_cup) .none kV18 dc18 pm18 an18 cd18 ct18), sl18⟩)
    (c18 : PySem.W.codeIn K cd18 "_law_cup" = true)
    (k18 : PySem.W.keepIn K (.ref f18) = true)
    (a19 : PySem.W.nsIn K mainGlobals "_law_roll" = some (some (.ref f19)))
    (l19 : K.lookup f19 = some ⟨oc19, od19, .func (PySem.W.fnOf "_law_roll" "_law_roll" (defArgs s_law_roll) (defBody s_law_roll) (defScope s_law_roll) .none kV19 dc19 pm19 an19 cd19 ct19), sl19⟩)
    (c19 : PySem.W.codeIn K cd19 "_law_roll" = true)
    (k19 : PySem.W.keepIn K (.ref f19) = true)
    (a20 : PySem.W.nsIn K mainGlobals "_law_some" = some (some (.ref f20)))
    (l20 : K.lookup f20 = some ⟨oc20, od20, .func (PySem.W.fnOf "_law_some" "_law_some" (defArgs s_law_some) (defBody s_law_some) (defScope s_law_some) .none kV20 dc20 pm20 an20 cd20 ct20), sl20⟩)
    (c20 : PySem.W.codeIn K cd20 "_law_some" = true)
    (k20 : PySem.W.keepIn K (.ref f20) = true)
    (a21 : PySem.W.nsIn K mainGlobals "_law_same" = some (some (.ref f21)))
    (l21 : K.lookup f21 = some ⟨oc21, od21, .func (PySem.W.fnOf "_law_same" "_law_same" (defArgs s_law_same) (defBody s_law_same) (defScope s_law_same) .none kV21 dc21 pm21 an21 cd21 ct21), sl21⟩)
    (c21 : PySem.W.codeIn K cd21 "_law_same" = true)
    (k21 : PySem.W.keepIn K (.ref f21) = true)
    (a22 : PySem.W.nsIn K mainGlobals "_law_turned" = some (some (.ref f22)))
    (l22 : K.lookup f22 = some ⟨oc22, od22, .func (PySem.W.fnOf "_law_turned" "_law_turned" (defArgs s_law_turned) (defBody s_law_turned) (defScope s_law_turned) .none kV22 dc22 pm22 an22 cd22 ct22), sl22⟩)
    (c22 : PySem.W.codeIn K cd22 "_law_turned" = true)
    (k22 : PySem.W.keepIn K (.ref f22) = true)
    (a23 : PySem.W.nsIn K mainGlobals "_law_places" = some (some (.ref f23)))
    (l23 : K.lookup f23 = some ⟨oc23, od23, .func (PySem.W.fnOf "_law_places" "_law_places" (defArgs s_law_places) (defBody s_law_places) (defScope s_law_places) .none kV23 dc23 pm23 an23 cd23 ct23), sl23⟩)
    (c23 : PySem.W.codeIn K cd23 "_law_places" = true)
    (k23 : PySem.W.keepIn K (.ref f23) = true)
    (a24 : PySem.W.nsIn K mainGlobals "_law_rows" = some (some (.ref f24)))
    (l24 : K.lookup f24 = some ⟨oc24, od24, .func (PySem.W.fnOf "_law_rows" "_law_rows" (defArgs s_law_rows) (defBody s_law_rows) (defScope s_law_rows) .none kV24 dc24 pm24 an24 cd24 ct24), sl24⟩)
    (c24 : PySem.W.codeIn K cd24 "_law_rows" = true)
    (k24 : PySem.W.keepIn K (.ref f24) = true)
    (a25 : PySem.W.nsIn K mainGlobals "_law_power" = some (some (.ref f25)))
    (l25 : K.lookup f25 = some ⟨oc25, od25, .func (PySem.W.fnOf "_law_power" "_law_power" (defArgs s_law_power) (defBody s_law_power) (defScope s_law_power) .none kV25 dc25 pm25 an25 cd25 ct25), sl25⟩)
    (c25 : PySem.W.codeIn K cd25 "_law_power" = true)
    (k25 : PySem.W.keepIn K (.ref f25) = true)
    (a26 : PySem.W.nsIn K mainGlobals "law" = some (some (.ref f26)))
    (l26 : K.lookup f26 = some ⟨oc26, od26, .func (PySem.W.fnOf "law" "law" (defArgs s_law) (defBody s_law) (defScope s_law) .none kV26 dc26 pm26 an26 cd26 ct26), sl26⟩)
    (c26 : PySem.W.codeIn K cd26 "law" = true)
    (k26 : PySem.W.keepIn K (.ref f26) = true)
    (xa_InvalidNumber : PySem.W.nsIn K mainGlobals "InvalidNumber" = some (some (.ref C_InvalidNumber)))
    (xq_InvalidNumber : PySem.W.excIn K C_InvalidNumber [.type "ValueError", .type "Exception", .type "BaseException", .type "object"] "ValueError.__new__" = true)
    (xk_InvalidNumber : PySem.W.keepIn K (.ref C_InvalidNumber) = true)
    (xs_InvalidNumber : PySem.W.subIn K (.ref C_InvalidNumber) (.type "BaseException") = some true)
    (xt_InvalidNumber : PySem.W.typeIn K (.ref C_InvalidNumber) = some (.type "type"))
    (xa_InvalidSlots : PySem.W.nsIn K mainGlobals "InvalidSlots" = some (some (.ref C_InvalidSlots)))
    (xq_InvalidSlots : PySem.W.excIn K C_InvalidSlots [.type "ValueError", .type "Exception", .type "BaseException", .type "object"] "ValueError.__new__" = true)
    (xk_InvalidSlots : PySem.W.keepIn K (.ref C_InvalidSlots) = true)
    (xs_InvalidSlots : PySem.W.subIn K (.ref C_InvalidSlots) (.type "BaseException") = some true)
    (xt_InvalidSlots : PySem.W.typeIn K (.ref C_InvalidSlots) = some (.type "type"))
    (g_ROWS : PySem.W.nsIn K mainGlobals "ROWS" = some (some (.int 2000 t_ROWS)))
    (g_SLOTS : PySem.W.nsIn K mainGlobals "SLOTS" = some (some (.int 12 t_SLOTS)))
    (z_len : PySem.W.nsIn K mainGlobals "len" = some none)
    (z_abs : PySem.W.nsIn K mainGlobals "abs" = some none)
    (z_int : PySem.W.nsIn K mainGlobals "int" = some none)
    (z_str : PySem.W.nsIn K mainGlobals "str" = some none)
    (z_sum : PySem.W.nsIn K mainGlobals "sum" = some none)
    (z_all : PySem.W.nsIn K mainGlobals "all" = some none)
    (z_any : PySem.W.nsIn K mainGlobals "any" = some none)
    (z_min : PySem.W.nsIn K mainGlobals "min" = some none)
    (z_max : PySem.W.nsIn K mainGlobals "max" = some none)
    (z_repr : PySem.W.nsIn K mainGlobals "repr" = some none)
    (z_set : PySem.W.nsIn K mainGlobals "set" = some none)
    (z_isinstance : PySem.W.nsIn K mainGlobals "isinstance" = some none)
    (z_bool : PySem.W.nsIn K mainGlobals "bool" = some none)
    (z_tuple : PySem.W.nsIn K mainGlobals "tuple" = some none)
    (z_list : PySem.W.nsIn K mainGlobals "list" = some none)
    (z_range : PySem.W.nsIn K mainGlobals "range" = some none)
    (z_enumerate : PySem.W.nsIn K mainGlobals "enumerate" = some none)
    (z_zip : PySem.W.nsIn K mainGlobals "zip" = some none)
    (z_sorted : PySem.W.nsIn K mainGlobals "sorted" = some none)
    (z_dict : PySem.W.nsIn K mainGlobals "dict" = some none)
    (z_reversed : PySem.W.nsIn K mainGlobals "reversed" = some none) :
    ∃ fd : FuncData, (∀ (s : Shared) (v : Value), BindsTo s fd ⟨[v], []⟩ [("script", v)]) ∧ ∀ base : Heap, K.In base → base.Ns mainGlobals mg → FnOk l.prog w K mg base (L2.CX l.prog w) 8 fa fd ["script"] (spLaw K) := by
  have e := hfa.symm.trans (PySem.W.mg_of X G a26)
  cases e
  have T : Facts ⟨l.prog, w, K, mg⟩ := {
    mo := ⟨(fun x d hx => by
      unfold Γ at hx
      split at hx
      · rename_i e; subst e; cases hx; exact ⟨.int 2000, _, PySem.W.mg_of X G g_ROWS, ⟨_, rfl⟩, fun G => .int _⟩
      split at hx
      · rename_i e; subst e; cases hx; exact ⟨.int 12, _, PySem.W.mg_of X G g_SLOTS, ⟨_, rfl⟩, fun G => .int _⟩
      cases hx), List.forall_mem_cons.mpr ⟨PySem.W.mg_none_of X G z_len, List.forall_mem_cons.mpr ⟨PySem.W.mg_none_of X G z_abs, List.forall_mem_cons.mpr ⟨PySem.W.mg_none_of X G z_int, List.forall_mem_cons.mpr ⟨PySem.W.mg_none_of X G z_str, List.forall_mem_cons.mpr ⟨PySem.W.mg_none_of X G z_sum, List.forall_mem_cons.mpr ⟨PySem.W.mg_none_of X G z_all, List.forall_mem_cons.mpr ⟨PySem.W.mg_none_of X G z_any, List.forall_mem_cons.mpr ⟨PySem.W.mg_none_of X G z_min, List.forall_mem_cons.mpr ⟨PySem.W.mg_none_of X G z_max, List.forall_mem_cons.mpr ⟨PySem.W.mg_none_of X G z_repr, List.forall_mem_cons.mpr ⟨PySem.W.mg_none_of X G z_set, List.forall_mem_cons.mpr ⟨PySem.W.mg_none_of X G z_isinstance, List.forall_mem_cons.mpr ⟨PySem.W.mg_none_of X G z_bool, List.forall_mem_cons.mpr ⟨PySem.W.mg_none_of X G z_tuple, List.forall_mem_cons.mpr ⟨PySem.W.mg_none_of X G z_list, List.forall_mem_cons.mpr ⟨PySem.W.mg_none_of X G z_range, List.forall_mem_cons.mpr ⟨PySem.W.mg_none_of X G z_enumerate, List.forall_mem_cons.mpr ⟨PySem.W.mg_none_of X G z_zip, List.forall_mem_cons.mpr ⟨PySem.W.mg_none_of X G z_sorted, List.forall_mem_cons.mpr ⟨PySem.W.mg_none_of X G z_dict, List.forall_mem_cons.mpr ⟨PySem.W.mg_none_of X G z_reversed, List.forall_mem_nil _⟩⟩⟩⟩⟩⟩⟩⟩⟩⟩⟩⟩⟩⟩⟩⟩⟩⟩⟩⟩⟩⟩
    d_is_whole := okd (Θ := ⟨l.prog, w, K, mg⟩) X G a1 l1 c1 k1 (fun _ _ _ _ _ _ us hl => match us, hl with | [_, _, _], _ => rfl)
    d_is_tuple_of := okd (Θ := ⟨l.prog, w, K, mg⟩) X G a2 l2 c2 k2 (fun _ _ _ _ _ _ us hl => match us, hl with | [_, _, _], _ => rfl)
    d_fits_wishes := okd (Θ := ⟨l.prog, w, K, mg⟩) X G a3 l3 c3 k3 (fun _ _ _ _ _ _ us hl => match us, hl with | [_], _ => rfl)
    d_need_wishes := okd (Θ := ⟨l.prog, w, K, mg⟩) X G a4 l4 c4 k4 (fun _ _ _ _ _ _ us hl => match us, hl with | [_], _ => rfl)
    d_placed := okd (Θ := ⟨l.prog, w, K, mg⟩) X G a5 l5 c5 k5 (fun _ _ _ _ _ _ us hl => match us, hl with | [_], _ => rfl)
    d_more_from := okd (Θ := ⟨l.prog, w, K, mg⟩) X G a6 l6 c6 k6 (fun _ _ _ _ _ _ us hl => match us, hl with | [_], _ => rfl)
    d_power := okd (Θ := ⟨l.prog, w, K, mg⟩) X G a7 l7 c7 k7 (fun _ _ _ _ _ _ us hl => match us, hl with | [_, _], _ => rfl)
    d_fits_places := okd (Θ := ⟨l.prog, w, K, mg⟩) X G a8 l8 c8 k8 (fun _ _ _ _ _ _ us hl => match us, hl with | [_, _], _ => rfl)
    d_places := okd (Θ := ⟨l.prog, w, K, mg⟩) X G a9 l9 c9 k9 (fun _ _ _ _ _ _ us hl => match us, hl with | [_], _ => rfl)
    d_need_counts := okd (Θ := ⟨l.prog, w, K, mg⟩) X G a10 l10 c10 k10 (fun _ _ _ _ _ _ us hl => match us, hl with | [_, _], _ => rfl)
    d_count_finding := okd (Θ := ⟨l.prog, w, K, mg⟩) X G a11 l11 c11 k11 (fun _ _ _ _ _ _ us hl => match us, hl with | [_, _], _ => rfl)
    d_all_finding := okd (Θ := ⟨l.prog, w, K, mg⟩) X G a12 l12 c12 k12 (fun _ _ _ _ _ _ us hl => match us, hl with | [_, _], _ => rfl)
    d_runs_ahead := okd (Θ := ⟨l.prog, w, K, mg⟩) X G a13 l13 c13 k13 (fun _ _ _ _ _ _ us hl => match us, hl with | [_, _], _ => rfl)
    d_need_places := okd (Θ := ⟨l.prog, w, K, mg⟩) X G a14 l14 c14 k14 (fun _ _ _ _ _ _ us hl => match us, hl with | [_, _], _ => rfl)
    d_count_for := okd (Θ := ⟨l.prog, w, K, mg⟩) X G a15 l15 c15 k15 (fun _ _ _ _ _ _ us hl => match us, hl with | [_, _], _ => rfl)
    d_first_for := okd (Θ := ⟨l.prog, w, K, mg⟩) X G a16 l16 c16 k16 (fun _ _ _ _ _ _ us hl => match us, hl with | [_, _], _ => rfl)
    d_most_steps := okd (Θ := ⟨l.prog, w, K, mg⟩) X G a17 l17 c17 k17 (fun _ _ _ _ _ _ us hl => match us, hl with | [_, _], _ => rfl)
    d_law_cup := okd (Θ := ⟨l.prog, w, K, mg⟩) X G a18 l18 c18 k18 (fun _ _ _ _ _ _ us hl => match us, hl with | [_], _ => rfl)
    d_law_roll := okd (Θ := ⟨l.prog, w, K, mg⟩) X G a19 l19 c19 k19 (fun _ _ _ _ _ _ us hl => match us, hl with | [_, _], _ => rfl)
    d_law_some := okd (Θ := ⟨l.prog, w, K, mg⟩) X G a20 l20 c20 k20 (fun _ _ _ _ _ _ us hl => match us, hl with | [_, _], _ => rfl)
    d_law_same := okd (Θ := ⟨l.prog, w, K, mg⟩) X G a21 l21 c21 k21 (fun _ _ _ _ _ _ us hl => match us, hl with | [_, _], _ => rfl)
    d_law_turned := okd (Θ := ⟨l.prog, w, K, mg⟩) X G a22 l22 c22 k22 (fun _ _ _ _ _ _ us hl => match us, hl with | [_, _], _ => rfl)
    d_law_places := okd (Θ := ⟨l.prog, w, K, mg⟩) X G a23 l23 c23 k23 (fun _ _ _ _ _ _ us hl => match us, hl with | [_, _], _ => rfl)
    d_law_rows := okd (Θ := ⟨l.prog, w, K, mg⟩) X G a24 l24 c24 k24 (fun _ _ _ _ _ _ us hl => match us, hl with | [_, _], _ => rfl)
    d_law_power := okd (Θ := ⟨l.prog, w, K, mg⟩) X G a25 l25 c25 k25 (fun _ _ _ _ _ _ us hl => match us, hl with | [_, _], _ => rfl)
    d_law := okd (Θ := ⟨l.prog, w, K, mg⟩) X G a26 l26 c26 k26 (fun _ _ _ _ _ _ us hl => match us, hl with | [_], _ => rfl)
    e_InvalidNumber := ⟨_, _, _, _, _, PySem.F.excBase_ValueError, xq_InvalidNumber, PySem.W.mg_of X G xa_InvalidNumber, xk_InvalidNumber, xs_InvalidNumber, xt_InvalidNumber⟩
    e_InvalidSlots := ⟨_, _, _, _, _, PySem.F.excBase_ValueError, xq_InvalidSlots, PySem.W.mg_of X G xa_InvalidSlots, xk_InvalidSlots, xs_InvalidSlots, xt_InvalidSlots⟩ }
  exact ⟨_, fun s v => .of_eq rfl, fun base _ _ => (fn_law T (fun_mk (st := s_law) l26 c26 k26)).imp (law_sp (fd := fd_law) rfl rfl rfl law_true)⟩
end Lw
open PySem PySem.W PyProof.Rows in
set_option maxRecDepth 100000 in
set_option maxHeartbeats 0 in
theorem PySem.Challenge.cw_sortingoffice_k75_whole_counts_of_wishes_holds : PySem.Challenge.rw_sortingoffice_k75_whole_counts_of_wishes.Holds := by
  w_on; o_law; k_head; (case hw => w_witness2)
  k_fill
  refine Fw.walkF (lv := 8) (l := PySem.Challenge.rw_sortingoffice_k75_whole_counts_of_wishes) rfl (by decide) (by decide) rfl ⟨rfl, by decide, by decide⟩ (fun w h Y => PySem.W.kIn_of Y) ?F
  case F =>
    intro w mg fa h KX G hmg
    refine' Lw.all_mk KX G hmg ?a1 ?l1 ?c1 ?k1 ?a2 ?l2 ?c2 ?k2 ?a3 ?l3 ?c3 ?k3 ?a4 ?l4 ?c4 ?k4 ?a5 ?l5 ?c5 ?k5 ?a6 ?l6 ?c6 ?k6 ?a7 ?l7 ?c7 ?k7 ?a8 ?l8 ?c8 ?k8 ?a9 ?l9 ?c9 ?k9 ?a10 ?l10 ?c10 ?k10 ?a11 ?l11 ?c11 ?k11 ?a12 ?l12 ?c12 ?k12 ?a13 ?l13 ?c13 ?k13 ?a14 ?l14 ?c14 ?k14 ?a15 ?l15 ?c15 ?k15 ?a16 ?l16 ?c16 ?k16 ?a17 ?l17 ?c17 ?k17 ?a18 ?l18 ?c18 ?k18 ?a19 ?l19 ?c19 ?k19 ?a20 ?l20 ?c20 ?k20 ?a21 ?l21 ?c21 ?k21 ?a22 ?l22 ?c22 ?k22 ?a23 ?l23 ?c23 ?k23 ?a24 ?l24 ?c24 ?k24 ?a25 ?l25 ?c25 ?k25 ?a26 ?l26 ?c26 ?k26 ?xa_InvalidNumber ?xq_InvalidNumber ?xk_InvalidNumber ?xs_InvalidNumber ?xt_InvalidNumber ?xa_InvalidSlots ?xq_InvalidSlots ?xk_InvalidSlots ?xs_InvalidSlots ?xt_InvalidSlots ?g_ROWS ?g_SLOTS ?z_len ?z_abs ?z_int ?z_str ?z_sum ?z_all ?z_any ?z_min ?z_max ?z_repr ?z_set ?z_isinstance ?z_bool ?z_tuple ?z_list ?z_range ?z_enumerate ?z_zip ?z_sorted ?z_dict ?z_reversed
    (case a1 => k_is)
    (case l1 => k_is)
    (case c1 => k_is)
    (case k1 => k_is)
    (case a2 => k_is)
    (case l2 => k_is)
    (case c2 => k_is)
    (case k2 => k_is)
    (case a3 => k_is)
    (case l3 => k_is)
    (case c3 => k_is)
    (case k3 => k_is)
    (case a4 => k_is)
    (case l4 => k_is)
    (case c4 => k_is)
    (case k4 => k_is)
    (case a5 => k_is)
    (case l5 => k_is)
    (case c5 => k_is)
    (case k5 => k_is)
    (case a6 => k_is)
    (case l6 => k_is)
    (case c6 => k_is)
    (case k6 => k_is)
    (case a7 => k_is)
    (case l7 => k_is)
    (case c7 => k_is)
    (case k7 => k_is)
    (case a8 => k_is)
    (case l8 => k_is)
    (case c8 => k_is)
    (case k8 => k_is)
    (case a9 => k_is)
    (case l9 => k_is)
    (case c9 => k_is)
    (case k9 => k_is)
    (case a10 => k_is)
    (case l10 => k_is)
    (case c10 => k_is)
    (case k10 => k_is)
    (case a11 => k_is)
    (case l11 => k_is)
    (case c11 => k_is)
    (case k11 => k_is)
    (case a12 => k_is)
    (case l12 => k_is)
    (case c12 => k_is)
    (case k12 => k_is)
    (case a13 => k_is)
    (case l13 => k_is)
    (case c13 => k_is)
    (case k13 => k_is)
    (case a14 => k_is)
    (case l14 => k_is)
    (case c14 => k_is)
    (case k14 => k_is)
    (case a15 => k_is)
    (case l15 => k_is)
    (case c15 => k_is)
    (case k15 => k_is)
    (case a16 => k_is)
    (case l16 => k_is)
    (case c16 => k_is)
    (case k16 => k_is)
    (case a17 => k_is)
    (case l17 => k_is)
    (case c17 => k_is)
    (case k17 => k_is)
    (case a18 => k_is)
    (case l18 => k_is)
    (case c18 => k_is)
    (case k18 => k_is)
    (case a19 => k_is)
    (case l19 => k_is)
    (case c19 => k_is)
    (case k19 => k_is)
    (case a20 => k_is)
    (case l20 => k_is)
    (case c20 => k_is)
    (case k20 => k_is)
    (case a21 => k_is)
    (case l21 => k_is)
    (case c21 => k_is)
    (case k21 => k_is)
    (case a22 => k_is)
    (case l22 => k_is)
    (case c22 => k_is)
    (case k22 => k_is)
    (case a23 => k_is)
    (case l23 => k_is)
    (case c23 => k_is)
    (case k23 => k_is)
    (case a24 => k_is)
    (case l24 => k_is)
    (case c24 => k_is)
    (case k24 => k_is)
    (case a25 => k_is)
    (case l25 => k_is)
    (case c25 => k_is)
    (case k25 => k_is)
    (case a26 => k_is)
    (case l26 => k_is)
    (case c26 => k_is)
    (case k26 => k_is)
    (case xa_InvalidNumber => k_is)
    (case xq_InvalidNumber => k_exc)
    (case xk_InvalidNumber => k_is)
    (case xs_InvalidNumber => k_is)
    (case xt_InvalidNumber => k_is)
    (case xa_InvalidSlots => k_is)
    (case xq_InvalidSlots => k_exc)
    (case xk_InvalidSlots => k_is)
    (case xs_InvalidSlots => k_is)
    (case xt_InvalidSlots => k_is)
    (case g_ROWS => k_is)
    (case g_SLOTS => k_is)
    (case z_len => k_is)
    (case z_abs => k_is)
    (case z_int => k_is)
    (case z_str => k_is)
    (case z_sum => k_is)
    (case z_all => k_is)
    (case z_any => k_is)
    (case z_min => k_is)
    (case z_max => k_is)
    (case z_repr => k_is)
    (case z_set => k_is)
    (case z_isinstance => k_is)
    (case z_bool => k_is)
    (case z_tuple => k_is)
    (case z_list => k_is)
    (case z_range => k_is)
    (case z_enumerate => k_is)
    (case z_zip => k_is)
    (case z_sorted => k_is)
    (case z_dict => k_is)
    (case z_reversed => k_is)

