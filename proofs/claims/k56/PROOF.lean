import PyProof.Rows.All
import Wide.All
import OpenK.AllK
import Wide.FinOn
import KE.DataEq
import KE.SortData
import HandS.ForMost
import HandS.Wide
import HandS.WideBits
import HandS.IsInst
import HandS.TupAny
import HandS.Strs
import HandS.Conv
import HandS.Zip
import HandS.Gcd
import HandS.TupMul
import HandS.Style
import KE.KTupSum
import KE.DataMinMax
import HandS.SetFor
import HandS.TupSets
import KE.GoesMore
import KE.BitLaws
import KE.IntBitsLaws
import PySem.Challenge.RW_tolledjoins_k56_patterns_judged
set_option Elab.async false
set_option linter.all false
set_option maxRecDepth 100000
set_option maxHeartbeats 4000000
set_option autoImplicit false
namespace Pl
open PySem PySem.Spec PyProof.Rows L2

abbrev D := PyData

/-! ## data in the abstract heap -/
mutual
inductive Rp (H : Hp) : V → D → Prop
  | non : Rp H .non .none
  | bl (b : Bool) : Rp H (.bl b) (.bool b)
  | int (i : Int) : Rp H (.int i) (.int i)
  | str (x : Str) : Rp H (.str x) (.str x)
  | lst {a : Addr} {xs : List V} {ds : List D} : Rd H a (.lst xs) → RpAll H xs ds → Rp H (.ref a) (.list ds)
  | tup {a : Addr} {o : Obj} {xs : List V} {ds : List D} : H a = some (.frz o (.tup xs)) → o.dict = none → RpAll H xs ds → Rp H (.ref a) (.tuple ds)
inductive RpAll (H : Hp) : List V → List D → Prop
  | nil : RpAll H [] []
  | cons {v : V} {vs : List V} {d : D} {ds : List D} : Rp H v d → RpAll H vs ds → RpAll H (v :: vs) (d :: ds)
end

/-- part of -/
def Sub (H H' : Hp) : Prop := ∀ a o, H a = some o → H' a = some o
theorem Sub.refl (H : Hp) : Sub H H := fun _ _ h => h
theorem Sub.trans {A B C : Hp} (h : Sub A B) (g : Sub B C) : Sub A C := fun a o e => g a o (h a o e)
theorem Sub.upd {H : Hp} {p : Addr} {o : HO} (h : H p = none) : Sub H (upd H p o) := fun a u e => by
  rw [upd_ne (ne_of_none e h)]; exact e
theorem Sub.rd {H H' : Hp} (h : Sub H H') {a : Addr} {u : HO} (r : Rd H a u) : Rd H' a u := by
  rcases r with r | ⟨o, r⟩
  · exact .inl (h _ _ r)
  · exact .inr ⟨o, h _ _ r⟩

mutual
theorem Rp.mono {H H' : Hp} (s : Sub H H') : ∀ (d : D) (v : V), Rp H v d → Rp H' v d
  | .none, _, h => by cases h; exact .non
  | .bool b, _, h => by cases h; exact .bl b
  | .int i, _, h => by cases h; exact .int i
  | .str x, _, h => by cases h; exact .str x
  | .list ds, _, h => by
    cases h with
    | lst h1 h2 => exact .lst (s.rd h1) (RpAll.mono s ds _ h2)
  | .tuple ds, _, h => by
    cases h with
    | tup h1 hd h2 => exact .tup (s _ _ h1) hd (RpAll.mono s ds _ h2)
  | .dict _, _, h => by cases h
theorem RpAll.mono {H H' : Hp} (s : Sub H H') : ∀ (ds : List D) (vs : List V), RpAll H vs ds → RpAll H' vs ds
  | [], _, h => by cases h; exact .nil
  | d :: ds, _, h => by
    cases h with
    | cons h1 h2 => exact .cons (Rp.mono s d _ h1) (RpAll.mono s ds _ h2)
end
mutual
theorem Rp.dp {K : PySem.W.Frag} {H : Hp} : ∀ (d : D) (v : V), Rp H v d → Dp K H v d
  | .none, _, h => by cases h; exact .non
  | .bool b, _, h => by cases h; exact .bl b
  | .int i, _, h => by cases h; exact .int i
  | .str x, _, h => by cases h; exact .str x
  | .list ds, _, h => by
    cases h with
    | lst h1 h2 => exact .lst (.inl h1) (RpAll.dp ds _ h2)
  | .tuple ds, _, h => by
    cases h with
    | tup h1 hd h2 => exact .tup (.inl (.inr ⟨_, h1⟩)) (RpAll.dp ds _ h2)
  | .dict _, _, h => by cases h
theorem RpAll.dp {K : PySem.W.Frag} {H : Hp} : ∀ (ds : List D) (vs : List V), RpAll H vs ds → DpAll K H vs ds
  | [], _, h => by cases h; exact .nil
  | d :: ds, _, h => by
    cases h with
    | cons h1 h2 => exact .cons (Rp.dp d _ h1) (RpAll.dp ds _ h2)
end
mutual
theorem Rp.plain {H : Hp} : ∀ (d : D) (v : V), Rp H v d → d.plain = true
  | .none, _, h => rfl
  | .bool b, _, h => rfl
  | .int i, _, h => rfl
  | .str x, _, h => rfl
  | .list ds, _, h => by
    cases h with
    | lst h1 h2 => rw [PyData.plain]; exact RpAll.plain ds _ h2
  | .tuple ds, _, h => by
    cases h with
    | tup h1 hd h2 => rw [PyData.plain]; exact RpAll.plain ds _ h2
  | .dict _, _, h => by cases h
theorem RpAll.plain {H : Hp} : ∀ (ds : List D) (vs : List V), RpAll H vs ds → PyData.plainAll ds = true
  | [], _, h => rfl
  | d :: ds, _, h => by
    cases h with
    | cons h1 h2 => rw [PyData.plainAll, Rp.plain d _ h1, RpAll.plain ds _ h2]; rfl
end
section
variable {H : Hp} {vs ws : List V} {ds es : List D}
theorem RpAll.length : ∀ {vs : List V} {ds : List D}, RpAll H vs ds → vs.length = ds.length
  | [], _, h => by cases h; rfl
  | _ :: vs, _, h => by
    cases h with
    | cons h1 h2 => rw [List.length_cons, List.length_cons, RpAll.length h2]
theorem RpAll.append : ∀ {vs : List V} {ds : List D}, RpAll H vs ds → RpAll H ws es → RpAll H (vs ++ ws) (ds ++ es)
  | [], _, h, g => by cases h; exact g
  | _ :: vs, _, h, g => by
    cases h with
    | cons h1 h2 => exact .cons h1 (RpAll.append h2 g)
theorem RpAll.get : ∀ {vs : List V} {ds : List D} {i : Nat} {d : D}, RpAll H vs ds → ds[i]? = some d → ∃ v, vs[i]? = some v ∧ Rp H v d
  | _, [], i, d, _, e => by simp at e
  | _, x :: ds, 0, d, h, e => by
    cases h with
    | cons h1 h2 => simp at e; subst e; exact ⟨_, rfl, h1⟩
  | _, x :: ds, i + 1, d, h, e => by
    cases h with
    | cons h1 h2 =>
      obtain ⟨v, a, b⟩ := RpAll.get (i := i) h2 (by simpa using e)
      exact ⟨v, by simpa using a, b⟩
theorem RpAll.getV : ∀ {vs : List V} {ds : List D} {i : Nat} {v : V}, RpAll H vs ds → vs[i]? = some v → ∃ d, ds[i]? = some d ∧ Rp H v d
  | [], _, i, d, _, e => by simp at e
  | x :: ds, _, 0, d, h, e => by
    cases h with
    | cons h1 h2 => simp at e; subst e; exact ⟨_, rfl, h1⟩
  | x :: ds, _, i + 1, d, h, e => by
    cases h with
    | cons h1 h2 =>
      obtain ⟨v, a, b⟩ := RpAll.getV (i := i) h2 (by simpa using e)
      exact ⟨v, by simpa using a, b⟩
theorem RpAll.set {v : V} {d : D} (r : Rp H v d) : ∀ {vs : List V} {ds : List D} (i : Nat), RpAll H vs ds → RpAll H (vs.set i v) (ds.set i d)
  | _, _, i, .nil => .nil
  | _, _, 0, .cons h1 h2 => .cons r h2
  | _, _, i + 1, .cons h1 h2 => .cons h1 (RpAll.set r i h2)
theorem RpAll.take : ∀ {vs : List V} {ds : List D} (n : Nat), RpAll H vs ds → RpAll H (vs.take n) (ds.take n)
  | _, _, 0, _ => .nil
  | _, _, _ + 1, .nil => .nil
  | _, _, n + 1, .cons r t => .cons r (RpAll.take n t)
theorem RpAll.drop : ∀ {vs : List V} {ds : List D} (n : Nat), RpAll H vs ds → RpAll H (vs.drop n) (ds.drop n)
  | _, _, 0, r => r
  | _, _, _ + 1, .nil => .nil
  | _, _, n + 1, .cons _ t => RpAll.drop n t
theorem RpAll.erase : ∀ {vs : List V} {ds : List D} (n : Nat), RpAll H vs ds → RpAll H (vs.eraseIdx n) (ds.eraseIdx n)
  | _, _, _, .nil => .nil
  | _, _, 0, .cons _ t => t
  | _, _, n + 1, .cons r t => .cons r (RpAll.erase n t)
theorem RpAll.rev : ∀ {vs : List V} {ds : List D}, RpAll H vs ds → RpAll H vs.reverse ds.reverse
  | _, _, .nil => .nil
  | _, _, .cons r t => by
    rw [List.reverse_cons, List.reverse_cons]
    exact (RpAll.rev t).append (.cons r .nil)
theorem RpAll.rep (r : RpAll H vs ds) : ∀ k : Nat, RpAll H (List.replicate k vs).flatten (List.replicate k ds).flatten
  | 0 => .nil
  | k + 1 => by
    rw [List.replicate_succ, List.replicate_succ, List.flatten_cons, List.flatten_cons]
    exact r.append (RpAll.rep r k)
theorem RpAll.mid : ∀ {vs1 : List V} {ds : List D}, RpAll H (vs1 ++ vs) ds → ∃ d1 d2, ds = d1 ++ d2 ∧ RpAll H vs1 d1 ∧ RpAll H vs d2
  | [], ds, h => ⟨[], ds, rfl, .nil, h⟩
  | v :: vs1, _, h => by
    cases h with
    | cons h1 h2 =>
      obtain ⟨d1, d2, rfl, a, b⟩ := RpAll.mid h2
      exact ⟨_ :: d1, d2, rfl, .cons h1 a, b⟩
end
theorem Rp.int_inv {H : Hp} {v : V} {i : Int} (h : Rp H v (.int i)) : v = .int i := by cases h; rfl
theorem Rp.str_inv {H : Hp} {v : V} {i : Str} (h : Rp H v (.str i)) : v = .str i := by cases h; rfl
theorem Rp.bl_inv {H : Hp} {v : V} {i : Bool} (h : Rp H v (.bool i)) : v = .bl i := by cases h; rfl
theorem Rp.non_inv {H : Hp} {v : V} (h : Rp H v .none) : v = .non := by cases h; rfl

/-! ## objects that may change -/
inductive Ob
  | lst (xs : List D)
  | dK (kvs : List (Key × D))
  | dT (kvs : List (List Key × D))
/-- values: data; a register's object; a new object that nothing else knows -/
inductive Vl
  | dat (d : D) | ptr (n : Nat) | fr (o : Ob)

abbrev Loc := List (Option (Addr × List Addr))
def cellsOf : Option (Addr × List Addr) → List Addr
  | none => []
  | some (a, ks) => a :: ks
def Loc.all (L : Loc) : List Addr := L.flatMap cellsOf

def RpKv {κ : Type} (Z : Hp) : List (κ × V) → List (κ × D) → Prop := Paired fun p q => p.1 = q.1 ∧ Rp Z p.2 q.2
def RepO (Z H : Hp) (a : Addr) (ks : List Addr) : Ob → Prop
  | .lst ds => ks = [] ∧ ∃ xs, H a = some (.lst xs) ∧ RpAll Z xs ds
  | .dK kvs => ks = [] ∧ ∃ kw, H a = some (.dK kw) ∧ RpKv Z kw kvs
  | .dT kvs => ks = [] ∧ ∃ kw, H a = some (.dT kw) ∧ RpKv Z kw kvs
theorem RpKv.mono {κ : Type} {Z Z' : Hp} (s : Sub Z Z') {a : List (κ × V)} {b : List (κ × D)} (h : RpKv Z a b) : RpKv Z' a b := Paired.mapP h fun _ _ q => ⟨q.1, Rp.mono s _ _ q.2⟩
theorem RepO.mono {Z Z' H H' : Hp} {a : Addr} {ks : List Addr} (s : Sub Z Z') (k : ∀ b ∈ a :: ks, H' b = H b) : ∀ {o : Ob}, RepO Z H a ks o → RepO Z' H' a ks o
  | .lst ds, ⟨e, xs, h1, h2⟩ => ⟨e, xs, by rw [k a List.mem_cons_self]; exact h1, RpAll.mono s _ _ h2⟩
  | .dK kvs, ⟨e, xs, h1, h2⟩ => ⟨e, xs, by rw [k a List.mem_cons_self]; exact h1, h2.mono s⟩
  | .dT kvs, ⟨e, xs, h1, h2⟩ => ⟨e, xs, by rw [k a List.mem_cons_self]; exact h1, h2.mono s⟩
theorem RepO.some {Z H : Hp} {a : Addr} {ks : List Addr} : ∀ {o : Ob}, RepO Z H a ks o → ∀ b ∈ a :: ks, ∃ u, H b = some u
  | .lst ds, ⟨e, xs, h1, h2⟩, b, hb => by subst e; rw [List.mem_singleton] at hb; subst hb; exact ⟨_, h1⟩
  | .dK ds, ⟨e, xs, h1, h2⟩, b, hb => by subst e; rw [List.mem_singleton] at hb; subst hb; exact ⟨_, h1⟩
  | .dT ds, ⟨e, xs, h1, h2⟩, b, hb => by subst e; rw [List.mem_singleton] at hb; subst hb; exact ⟨_, h1⟩
theorem RepO.nodup {Z H : Hp} {a : Addr} {ks : List Addr} : ∀ {o : Ob}, RepO Z H a ks o → (a :: ks).Nodup
  | .lst ds, ⟨e, _⟩ => by subst e; simp
  | .dK ds, ⟨e, _⟩ => by subst e; simp
  | .dT ds, ⟨e, _⟩ => by subst e; simp

/-- the ghost: what is others', what was frozen at the entry, the parameters' addresses -/
structure Gh where
  F0 : Hp
  Z0 : Hp
  A0 : Nat → Option Addr
abbrev Reg := List (Option Ob)

structure SI (G : Gh) (L : Loc) (Z : Hp) (η : Reg) (H : Hp) : Prop where
  a0 : ∀ (n : Nat) (a : Addr), G.A0 n = some a → ∃ ks, L[n]? = some (some (a, ks))
  z0 : Sub G.Z0 Z
  zh : Sub Z H
  fh : Sub G.F0 H
  zn : ∀ a o, Z a = some o → G.F0 a = none
  nd : L.all.Nodup
  ln : L.length = η.length
  ow : ∀ (n : Nat) (p : Addr × List Addr), L[n]? = some (some p) → (∀ b ∈ p.1 :: p.2, Z b = none ∧ G.F0 b = none) ∧ ∃ o, η[n]? = some (some o) ∧ RepO Z H p.1 p.2 o
  lv : ∀ (n : Nat) (o : Ob), η[n]? = some (some o) → ∃ p, L[n]? = some (some p)

theorem mem_all {L : Loc} {b : Addr} : b ∈ L.all ↔ ∃ (n : Nat) (p : Addr × List Addr), L[n]? = some (some p) ∧ b ∈ p.1 :: p.2 := by
  unfold Loc.all
  rw [List.mem_flatMap]
  constructor
  · rintro ⟨x, hx, hb⟩
    cases x with
    | none => cases hb
    | some p =>
      obtain ⟨n, hn⟩ := List.getElem?_of_mem hx
      exact ⟨n, p, hn, hb⟩
  · rintro ⟨n, p, h, hb⟩
    exact ⟨some p, List.mem_of_getElem? h, hb⟩
theorem all_nodup {L : Loc} : L.all.Nodup ↔ (∀ x ∈ L, (cellsOf x).Nodup) ∧ L.Pairwise fun x y => ∀ b ∈ cellsOf x, b ∉ cellsOf y := by
  unfold Loc.all List.Nodup
  rw [List.pairwise_flatMap]
  constructor
  · rintro ⟨a, b⟩
    exact ⟨a, b.imp fun h x hx hy => h x hx x hy rfl⟩
  · rintro ⟨a, b⟩
    exact ⟨a, b.imp fun h x hx y hy e => h x hx (by rw [e]; exact hy)⟩
section
variable {G : Gh} {L : Loc} {Z : Hp} {η : Reg} {H : Hp} {p : Addr} {o : HO}
theorem SI.own (S : SI G L Z η H) {b : Addr} (h : b ∈ L.all) : Z b = none ∧ G.F0 b = none ∧ ∃ u, H b = some u := by
  obtain ⟨n, p, h1, h2⟩ := mem_all.mp h
  obtain ⟨a, o, _, r⟩ := S.ow n p h1
  exact ⟨(a b h2).1, (a b h2).2, r.some b h2⟩
theorem SI.notown (S : SI G L Z η H) {b : Addr} (h : H b = none) : b ∉ L.all := fun q => by
  obtain ⟨_, _, u, e⟩ := S.own q
  rw [h] at e; cases e
/-- an object appears at p, or changes there, that neither is owned nor frozen nor others' -/
theorem SI.other (S : SI G L Z η H) (h1 : p ∉ L.all) (h2 : Z p = none) (h3 : G.F0 p = none) : SI G L Z η (upd H p o) := by
  refine ⟨S.a0, S.z0, fun a u e => ?_, fun a u e => ?_, S.zn, S.nd, S.ln, fun n q e => ?_, S.lv⟩
  · rw [upd_ne (fun z => by subst z; rw [h2] at e; cases e)]; exact S.zh a u e
  · rw [upd_ne (fun z => by subst z; rw [h3] at e; cases e)]; exact S.fh a u e
  · obtain ⟨a, o', hn, r⟩ := S.ow n q e
    exact ⟨a, o', hn, r.mono (Sub.refl _) fun b hb => upd_ne fun z => h1 (by rw [← z]; exact mem_all.mpr ⟨n, q, e, hb⟩)⟩
/-- such an object is frozen -/
theorem SI.freeze (S : SI G L Z η H) (h1 : p ∉ L.all) (h2 : Z p = none) (h3 : G.F0 p = none) (hp : H p = some o) : SI G L (upd Z p o) η H := by
  have sz : Sub Z (upd Z p o) := Sub.upd h2
  refine ⟨S.a0, S.z0.trans sz, fun a u e => ?_, S.fh, fun a u e => ?_, S.nd, S.ln, fun n q e => ?_, S.lv⟩
  · by_cases z : a = p
    · subst z; rw [upd_same] at e; cases e; exact hp
    · rw [upd_ne z] at e; exact S.zh a u e
  · by_cases z : a = p
    · subst z; exact h3
    · rw [upd_ne z] at e; exact S.zn a u e
  · obtain ⟨a, o', hn, r⟩ := S.ow n q e
    refine ⟨fun b hb => ⟨?_, (a b hb).2⟩, o', hn, r.mono sz fun _ _ => rfl⟩
    rw [upd_ne fun z => h1 (by rw [← z]; exact mem_all.mpr ⟨n, q, e, hb⟩)]
    exact (a b hb).1
theorem SI.fresh (S : SI G L Z η H) (h : H p = none) : p ∉ L.all ∧ Z p = none ∧ G.F0 p = none := by
  refine ⟨S.notown h, ?_, ?_⟩
  · cases e : Z p with
    | none => rfl
    | some u => have := S.zh p u e; rw [h] at this; cases this
  · cases e : G.F0 p with
    | none => rfl
    | some u => have := S.fh p u e; rw [h] at this; cases this
/-- a new frozen object -/
theorem SI.newZ (S : SI G L Z η H) (h : H p = none) : SI G L (upd Z p o) η (upd H p o) := by
  obtain ⟨a, b, c⟩ := S.fresh h
  exact (S.other a b c).freeze a b c upd_same
/-- a register's object changes -/
theorem SI.write {n : Nat} {a : Addr} {ks ks' : List Addr} {H' : Hp} {o' : Ob} (S : SI G L Z η H) (e : L[n]? = some (some (a, ks)))
    (hk : ∀ b, b ∉ a :: ks → ∀ u, H b = some u → H' b = some u) (hn : ∀ b ∈ ks', b ∈ ks ∨ H b = none) (r : RepO Z H' a ks' o') :
    SI G (L.set n (some (a, ks'))) Z (η.set n (some o')) H' := by
  have hlt : n < L.length := (List.getElem?_eq_some_iff.mp e).1
  have hown := (S.ow n _ e).1
  have hnew : ∀ b ∈ a :: ks', Z b = none ∧ G.F0 b = none ∧ (b ∈ a :: ks ∨ H b = none) := fun b hb => by
    rcases List.mem_cons.mp hb with rfl | hb
    · exact ⟨(hown b List.mem_cons_self).1, (hown b List.mem_cons_self).2, .inl List.mem_cons_self⟩
    · rcases hn b hb with q | q
      · exact ⟨(hown b (List.mem_cons_of_mem _ q)).1, (hown b (List.mem_cons_of_mem _ q)).2, .inl (List.mem_cons_of_mem _ q)⟩
      · obtain ⟨_, x, y⟩ := S.fresh q
        exact ⟨x, y, .inr q⟩
  have hother : ∀ (m : Nat) (p : Addr × List Addr), m ≠ n → L[m]? = some (some p) → ∀ b ∈ p.1 :: p.2, b ∉ a :: ks ∧ (∃ u, H b = some u) := by
    intro m p hm em b hb
    refine ⟨fun hb2 => ?_, ?_⟩
    · have nd := S.nd
      have pw := (all_nodup.mp nd).2
      have hlm : m < L.length := (List.getElem?_eq_some_iff.mp em).1
      rw [List.pairwise_iff_getElem] at pw
      have em' : L[m] = some p := (List.getElem?_eq_some_iff.mp em).2
      have en' : L[n] = some (a, ks) := (List.getElem?_eq_some_iff.mp e).2
      rcases Nat.lt_or_gt_of_ne hm with q | q
      · have := pw m n hlm hlt q
        rw [em', en'] at this
        exact this b hb hb2
      · have := pw n m hlt hlm q
        rw [em', en'] at this
        exact this b hb2 hb
    · obtain ⟨_, _, _, r⟩ := S.ow m p em
      exact r.some b hb
  have getm : ∀ (m : Nat) (q : Addr × List Addr), (L.set n (some (a, ks')))[m]? = some (some q) → (m = n ∧ q = (a, ks')) ∨ (m ≠ n ∧ L[m]? = some (some q)) := by
    intro m q em
    by_cases hm : n = m
    · subst hm
      rw [List.getElem?_set_self hlt] at em
      exact .inl ⟨rfl, by cases em; rfl⟩
    · rw [List.getElem?_set_ne hm] at em
      exact .inr ⟨fun z => hm z.symm, em⟩
  have hnth : η.length = L.length := S.ln.symm
  refine ⟨fun m c em => ?_, S.z0, fun b u eb => ?_, fun b u eb => ?_, S.zn, ?_, by rw [List.length_set, List.length_set]; exact S.ln, fun m q em => ?_, fun m u em => ?_⟩
  · obtain ⟨k0, e0⟩ := S.a0 m c em
    by_cases hm : n = m
    · subst hm
      rw [e] at e0
      cases e0
      exact ⟨ks', by rw [List.getElem?_set_self hlt]⟩
    · exact ⟨k0, by rw [List.getElem?_set_ne hm]; exact e0⟩
  · refine hk b (fun hb => ?_) u (S.zh b u eb)
    have := (hown b hb).1
    rw [eb] at this; cases this
  · refine hk b (fun hb => ?_) u (S.fh b u eb)
    have := (hown b hb).2
    rw [eb] at this; cases this
  · have nd := all_nodup.mp S.nd
    refine all_nodup.mpr ⟨fun x hx => ?_, ?_⟩
    · obtain ⟨m, em⟩ := List.getElem?_of_mem hx
      cases x with
      | none => exact List.nodup_nil
      | some q =>
        rcases getm m q em with ⟨_, rfl⟩ | ⟨_, em⟩
        · exact r.nodup
        · exact nd.1 _ (List.mem_of_getElem? em)
    · rw [List.pairwise_iff_getElem]
      have pw := nd.2
      rw [List.pairwise_iff_getElem] at pw
      intro i j hi hj hij b hb1 hb2
      rw [List.length_set] at hi hj
      have q1 : ∀ (k : Nat) (hk2 : k < L.length), b ∈ cellsOf ((L.set n (some (a, ks')))[k]'(by rw [List.length_set]; exact hk2)) → (k = n ∧ b ∈ a :: ks') ∨ (k ≠ n ∧ b ∈ cellsOf L[k]) := by
        intro k hk2 hb
        by_cases hkn : n = k
        · subst hkn
          rw [List.getElem_set_self] at hb
          exact .inl ⟨rfl, hb⟩
        · rw [List.getElem_set_ne hkn] at hb
          exact .inr ⟨fun z => hkn z.symm, hb⟩
      have hcase : ∀ k, k ≠ n → ∀ (hk2 : k < L.length), b ∈ cellsOf L[k] → b ∉ a :: ks' := by
        intro k hkn hk2 hb hb3
        cases hq : L[k] with
        | none => rw [hq] at hb; cases hb
        | some p =>
          rw [hq] at hb
          obtain ⟨z1, u, z2⟩ := hother k p hkn (by rw [List.getElem?_eq_getElem hk2, hq]) b hb
          rcases (hnew b hb3).2.2 with q | q
          · exact z1 q
          · rw [z2] at q; cases q
      rcases q1 i hi hb1 with ⟨a1, a2⟩ | ⟨a1, a2⟩
      · rcases q1 j hj hb2 with ⟨c1, c2⟩ | ⟨c1, c2⟩
        · omega
        · exact hcase j c1 hj c2 a2
      · rcases q1 j hj hb2 with ⟨c1, c2⟩ | ⟨c1, c2⟩
        · exact hcase i a1 hi a2 c2
        · exact pw i j hi hj hij b a2 c2
  · rcases getm m q em with ⟨rfl, rfl⟩ | ⟨hm, em⟩
    · exact ⟨fun b hb => ⟨(hnew b hb).1, (hnew b hb).2.1⟩, o', by rw [List.getElem?_set_self (by omega)], r⟩
    · obtain ⟨x, o2, y, z⟩ := S.ow m q em
      refine ⟨x, o2, by rw [List.getElem?_set_ne (fun q => hm q.symm)]; exact y, z.mono (Sub.refl _) fun b hb => ?_⟩
      obtain ⟨z1, u, z2⟩ := hother m q hm em b hb
      rw [z2]
      exact hk b z1 u z2
  · by_cases hm : n = m
    · subst hm
      exact ⟨_, List.getElem?_set_self hlt⟩
    · rw [List.getElem?_set_ne hm] at em ⊢
      exact S.lv m u em
end
end Pl

namespace Pl
open PySem PySem.Spec PyProof.Rows L2

section
variable {G : Gh} {L L' L2' : Loc} {Z Z' Z2 : Hp} {η : Reg} {H : Hp} {p : Addr} {o : HO}
/-- a new register's object -/
theorem SI.put {n : Nat} {ks : List Addr} {o' : Ob} (S : SI G L Z η H) (hn : n < L.length) (ha : G.A0 n = none)
    (r : RepO Z H p ks o') (hf : ∀ b ∈ p :: ks, Z b = none ∧ G.F0 b = none ∧ b ∉ L.all) : SI G (L.set n (some (p, ks))) Z (η.set n (some o')) H := by
  have getm : ∀ (m : Nat) (q : Addr × List Addr), (L.set n (some (p, ks)))[m]? = some (some q) → (m = n ∧ q = (p, ks)) ∨ (m ≠ n ∧ L[m]? = some (some q)) := by
    intro m q em
    by_cases hm : n = m
    · subst hm
      rw [List.getElem?_set_self hn] at em
      exact .inl ⟨rfl, by cases em; rfl⟩
    · rw [List.getElem?_set_ne hm] at em
      exact .inr ⟨fun z => hm z.symm, em⟩
  have hln := S.ln
  refine ⟨fun m c em => ?_, S.z0, S.zh, S.fh, S.zn, ?_, by rw [List.length_set, List.length_set]; exact S.ln, fun m q em => ?_, fun m u em => ?_⟩
  · obtain ⟨k0, e0⟩ := S.a0 m c em
    have : n ≠ m := fun z => by subst z; rw [ha] at em; cases em
    exact ⟨k0, by rw [List.getElem?_set_ne this]; exact e0⟩
  · have nd := all_nodup.mp S.nd
    refine all_nodup.mpr ⟨fun x hx => ?_, ?_⟩
    · obtain ⟨m, em⟩ := List.getElem?_of_mem hx
      cases x with
      | none => exact List.nodup_nil
      | some q =>
        rcases getm m q em with ⟨_, rfl⟩ | ⟨_, em⟩
        · exact r.nodup
        · exact nd.1 _ (List.mem_of_getElem? em)
    · rw [List.pairwise_iff_getElem]
      have pw := nd.2
      rw [List.pairwise_iff_getElem] at pw
      intro i j hi hj hij b hb1 hb2
      rw [List.length_set] at hi hj
      have q1 : ∀ (k : Nat) (hk2 : k < L.length), b ∈ cellsOf ((L.set n (some (p, ks)))[k]'(by rw [List.length_set]; exact hk2)) → (k = n ∧ b ∈ p :: ks) ∨ (k ≠ n ∧ b ∈ cellsOf L[k]) := by
        intro k hk2 hb
        by_cases hkn : n = k
        · subst hkn
          rw [List.getElem_set_self] at hb
          exact .inl ⟨rfl, hb⟩
        · rw [List.getElem_set_ne hkn] at hb
          exact .inr ⟨fun z => hkn z.symm, hb⟩
      have hcase : ∀ k, ∀ (hk2 : k < L.length), b ∈ cellsOf L[k] → b ∉ p :: ks := by
        intro k hk2 hb hb3
        refine (hf b hb3).2.2 ?_
        unfold Loc.all
        exact List.mem_flatMap.mpr ⟨_, List.getElem_mem hk2, hb⟩
      rcases q1 i hi hb1 with ⟨a1, a2⟩ | ⟨a1, a2⟩
      · rcases q1 j hj hb2 with ⟨c1, c2⟩ | ⟨c1, c2⟩
        · omega
        · exact hcase j hj c2 a2
      · rcases q1 j hj hb2 with ⟨c1, c2⟩ | ⟨c1, c2⟩
        · exact hcase i hi a2 c2
        · exact pw i j hi hj hij b a2 c2
  · rcases getm m q em with ⟨rfl, rfl⟩ | ⟨hm, em⟩
    · exact ⟨fun b hb => ⟨(hf b hb).1, (hf b hb).2.1⟩, o', by rw [List.getElem?_set_self (by omega)], r⟩
    · obtain ⟨x, o2, y, z⟩ := S.ow m q em
      exact ⟨x, o2, by rw [List.getElem?_set_ne (fun q => hm q.symm)]; exact y, z⟩
  · by_cases hm : n = m
    · subst hm
      exact ⟨_, List.getElem?_set_self hn⟩
    · rw [List.getElem?_set_ne hm] at em ⊢
      exact S.lv m u em
/-- a register is forgotten -/
theorem SI.drop {n : Nat} (S : SI G L Z η H) (ha : G.A0 n = none) : SI G (L.set n none) Z (η.set n none) H := by
  have getm : ∀ (m : Nat) (q : Addr × List Addr), (L.set n none)[m]? = some (some q) → m ≠ n ∧ L[m]? = some (some q) := by
    intro m q em
    by_cases hm : n = m
    · subst hm
      by_cases hn : n < L.length
      · rw [List.getElem?_set_self hn] at em; cases em
      · rw [List.getElem?_eq_none (by rw [List.length_set]; omega)] at em; cases em
    · rw [List.getElem?_set_ne hm] at em
      exact ⟨fun z => hm z.symm, em⟩
  refine ⟨fun m c em => ?_, S.z0, S.zh, S.fh, S.zn, ?_, by rw [List.length_set, List.length_set]; exact S.ln, fun m q em => ?_, fun m u em => ?_⟩
  · obtain ⟨k0, e0⟩ := S.a0 m c em
    have : n ≠ m := fun z => by subst z; rw [ha] at em; cases em
    exact ⟨k0, by rw [List.getElem?_set_ne this]; exact e0⟩
  · have nd := all_nodup.mp S.nd
    refine all_nodup.mpr ⟨fun x hx => ?_, ?_⟩
    · obtain ⟨m, em⟩ := List.getElem?_of_mem hx
      cases x with
      | none => exact List.nodup_nil
      | some q => exact nd.1 _ (List.mem_of_getElem? (getm m q em).2)
    · rw [List.pairwise_iff_getElem]
      have pw := nd.2
      rw [List.pairwise_iff_getElem] at pw
      intro i j hi hj hij b hb1 hb2
      rw [List.length_set] at hi hj
      have q1 : ∀ (k : Nat) (hk2 : k < L.length), b ∈ cellsOf ((L.set n none)[k]'(by rw [List.length_set]; exact hk2)) → b ∈ cellsOf L[k] := by
        intro k hk2 hb
        by_cases hkn : n = k
        · subst hkn
          rw [List.getElem_set_self] at hb
          cases hb
        · rw [List.getElem_set_ne hkn] at hb
          exact hb
      exact pw i j hi hj hij b (q1 i hi hb1) (q1 j hj hb2)
  · obtain ⟨hm, em⟩ := getm m q em
    obtain ⟨x, o2, y, z⟩ := S.ow m q em
    exact ⟨x, o2, by rw [List.getElem?_set_ne (fun q => hm q.symm)]; exact y, z⟩
  · by_cases hm : n = m
    · subst hm
      by_cases hn : n < η.length
      · rw [List.getElem?_set_self hn] at em; cases em
      · rw [List.getElem?_eq_none (by rw [List.length_set]; omega)] at em; cases em
    · rw [List.getElem?_set_ne hm] at em ⊢
      exact S.lv m u em

/-! ## values and slots -/
def RepV (G : Gh) (L : Loc) (Z H : Hp) (x : V) : Vl → Prop
  | .dat d => Rp Z x d
  | .ptr n => ∃ a ks, L[n]? = some (some (a, ks)) ∧ x = .ref a
  | .fr o => ∃ a ks, x = .ref a ∧ RepO Z H a ks o ∧ ∀ b ∈ a :: ks, Z b = none ∧ G.F0 b = none ∧ b ∉ L.all
def RepS (L : Loc) (Z : Hp) (x : Option V) : Option Vl → Prop
  | none => True
  | some (.dat d) => ∃ v, x = some v ∧ Rp Z v d
  | some (.ptr n) => ∃ a ks, L[n]? = some (some (a, ks)) ∧ x = some (.ref a)
  | some (.fr _) => False
abbrev Sl := List (Option Vl)
abbrev SV := L2.St
def SS (L : Loc) (Z : Hp) : SV → Sl → Prop := Paired (RepS L Z)
/-- later: more is frozen, registers keep their places -/
def Ext (L : Loc) (Z : Hp) (L' : Loc) (Z' : Hp) : Prop := Sub Z Z' ∧ ∀ (n : Nat) (a : Addr) (ks : List Addr), L[n]? = some (some (a, ks)) → ∃ ks', L'[n]? = some (some (a, ks'))
theorem Ext.refl : Ext L Z L Z := ⟨Sub.refl _, fun n a ks h => ⟨ks, h⟩⟩
theorem Ext.trans (a : Ext L Z L' Z') (b : Ext L' Z' L2' Z2) : Ext L Z L2' Z2 := ⟨a.1.trans b.1, fun n c ks h => by
  obtain ⟨ks', e⟩ := a.2 n c ks h
  exact b.2 n c ks' e⟩
theorem RepS.ext {x : Option V} {v : Option Vl} (e : Ext L Z L' Z') (h : RepS L Z x v) : RepS L' Z' x v := by
  cases v with
  | none => trivial
  | some v =>
    cases v with
    | dat d => obtain ⟨u, a, b⟩ := h; exact ⟨u, a, Rp.mono e.1 _ _ b⟩
    | ptr n => obtain ⟨a, ks, h1, h2⟩ := h; obtain ⟨ks', h3⟩ := e.2 n a ks h1; exact ⟨a, ks', h3, h2⟩
    | fr o => exact h
theorem SS.ext {σ : SV} {ρ : Sl} (e : Ext L Z L' Z') (h : SS L Z σ ρ) : SS L' Z' σ ρ := Paired.mapP h fun _ _ q => q.ext e
theorem SS.get : ∀ {σ : SV} {ρ : Sl} {i : Nat} {v : Option Vl}, SS L Z σ ρ → ρ[i]? = some v → ∃ x, σ[i]? = some x ∧ RepS L Z x v
  | _, _, _, _, .nil, e => by simp at e
  | _, _, 0, _, .cons r _, e => by simp at e; subst e; exact ⟨_, rfl, r⟩
  | _, _, i + 1, v, .cons _ t, e => by
    obtain ⟨u, h1, h2⟩ := SS.get (i := i) (v := v) t (by simpa using e)
    exact ⟨u, by simpa using h1, h2⟩
theorem SS.set {x : Option V} {v : Option Vl} (r : RepS L Z x v) : ∀ {σ : SV} {ρ : Sl} (i : Nat), SS L Z σ ρ → SS L Z (σ.set i x) (ρ.set i v)
  | _, _, _, .nil => .nil
  | _, _, 0, .cons _ t => .cons r t
  | _, _, i + 1, .cons q t => .cons q (SS.set r i t)
theorem SS.length {σ : SV} {ρ : Sl} (h : SS L Z σ ρ) : σ.length = ρ.length := Paired.length h

def Vl.fz : Vl → Vl
  | .fr (.lst ds) => .dat (.list ds)
  | v => v
def Vl.view : Vl → Reg → Option D
  | .dat d, _ => some d
  | .ptr n, η => match η[n]? with
    | some (some (.lst ds)) => some (.list ds)
    | _ => none
  | .fr _, _ => none
/-- what is read as data just now -/
def Vw (Z H : Hp) (x : V) : D → Prop
  | .list ds => ∃ a xs, x = .ref a ∧ Rd H a (.lst xs) ∧ RpAll Z xs ds
  | d => Rp Z x d
theorem Vw.of {x : V} {d : D} (s : Sub Z H) (r : Rp Z x d) : Vw Z H x d := by
  cases d with
  | list ds => cases r with
    | lst h1 h2 => exact ⟨_, _, rfl, s.rd h1, h2⟩
  | _ => exact r
theorem Vw.rp {x : V} {d : D} (s : Sub Z H) (r : Vw Z H x d) : Rp H x d := by
  cases d with
  | list ds =>
    obtain ⟨a, xs, rfl, h1, h2⟩ := r
    exact .lst h1 (RpAll.mono s _ _ h2)
  | _ => exact Rp.mono s _ _ r
theorem RepV.ext {H' : Hp} {x : V} {v : Vl} (e : Ext L Z L' Z') (h : RepV G L Z H x v) (hf : ∀ o, v ≠ .fr o) : RepV G L' Z' H' x v := by
  cases v with
  | dat d => exact Rp.mono e.1 _ _ h
  | ptr n =>
    obtain ⟨a, ks, h1, h2⟩ := h
    obtain ⟨ks', h3⟩ := e.2 n a ks h1
    exact ⟨a, ks', h3, h2⟩
  | fr o => exact absurd rfl (hf o)
theorem RepV.view {x : V} {v : Vl} {d : D} (S : SI G L Z η H) (h : RepV G L Z H x v) (e : v.view η = some d) : Vw Z H x d := by
  cases v with
  | dat d' => cases e; exact Vw.of S.zh h
  | ptr n =>
    obtain ⟨a, ks, h1, rfl⟩ := h
    obtain ⟨_, o, h2, h3⟩ := S.ow n _ h1
    unfold Vl.view at e
    simp only [h2] at e
    cases o with
    | lst ds =>
      cases e
      obtain ⟨_, xs, q1, q2⟩ := h3
      exact ⟨a, xs, rfl, .inl q1, q2⟩
    | dK kvs => cases e
    | dT kvs => cases e
  | fr o => cases e
/-- a new list that is not named is frozen -/
theorem settle {x : V} {v : Vl} (S : SI G L Z η H) (h : RepV G L Z H x v) : ∃ Z', SI G L Z' η H ∧ Ext L Z L Z' ∧ RepV G L Z' H x v.fz := by
  cases v with
  | dat d => exact ⟨Z, S, Ext.refl, h⟩
  | ptr n => exact ⟨Z, S, Ext.refl, h⟩
  | fr o =>
    cases o with
    | lst ds =>
      obtain ⟨a, ks, rfl, ⟨rfl, xs, h1, h2⟩, hf⟩ := h
      obtain ⟨z1, z2, z3⟩ := hf a List.mem_cons_self
      have sz : Sub Z (upd Z a (.lst xs)) := Sub.upd z1
      exact ⟨_, S.freeze z3 z1 z2 h1, ⟨sz, fun n a ks h => ⟨ks, h⟩⟩, .lst (.inl upd_same) (RpAll.mono sz _ _ h2)⟩
    | dK kvs => exact ⟨Z, S, Ext.refl, h⟩
    | dT kvs => exact ⟨Z, S, Ext.refl, h⟩
end

/-! ## the lifted readings -/
abbrev LTE := Sl → Reg → (Vl → Reg → Prop) → Prop
abbrev LTT := Sl → Reg → (Bool → Reg → Prop) → Prop
abbrev LTA := Sl → Reg → (List Vl → Reg → Prop) → Prop
def RepVs (G : Gh) (L : Loc) (Z H : Hp) : List V → List Vl → Prop := Paired fun x v => RepV G L Z H x v ∧ ∀ o, v ≠ .fr o

def liftE (G : Gh) (t : LTE) : TE := fun σ H Q => ∃ ρ L Z η Qp, SI G L Z η H ∧ SS L Z σ ρ ∧ t ρ η Qp ∧
  ∀ x v L' Z' η' H', SI G L' Z' η' H' → Ext L Z L' Z' → RepV G L' Z' H' x v → Qp v η' → Q x H'
def liftT (G : Gh) (t : LTT) : TT := fun σ H Q => ∃ ρ L Z η Qp, SI G L Z η H ∧ SS L Z σ ρ ∧ t ρ η Qp ∧
  ∀ b L' Z' η' H', SI G L' Z' η' H' → Ext L Z L' Z' → Qp b η' → Q b H'
def liftA (G : Gh) (t : LTA) : TA := fun σ H Q => ∃ ρ L Z η Qp, SI G L Z η H ∧ SS L Z σ ρ ∧ t ρ η Qp ∧
  ∀ xs vs L' Z' η' H', SI G L' Z' η' H' → Ext L Z L' Z' → RepVs G L' Z' H' xs vs → Qp vs η' → Q xs H'
structure LEnds where
  nx : Sl → Reg → Prop
  rt : Vl → Reg → Prop
  bk : Sl → Reg → Prop := fun _ _ => False
  ct : Sl → Reg → Prop := fun _ _ => False
abbrev LTS := LEnds → Sl → Reg → Prop
/-- the ends of a statement, as the layer below has them -/
structure EndsOk (G : Gh) (P : LEnds) (Q : Ends) : Prop where
  nx : ∀ σ H ρ L Z η, SI G L Z η H → SS L Z σ ρ → P.nx ρ η → Q.nx σ H
  rt : ∀ x v L Z η H, SI G L Z η H → RepV G L Z H x v → P.rt v η → Q.rt x H
  bk : ∀ σ H ρ L Z η, SI G L Z η H → SS L Z σ ρ → P.bk ρ η → Q.bk σ H
  ct : ∀ σ H ρ L Z η, SI G L Z η H → SS L Z σ ρ → P.ct ρ η → Q.ct σ H
def liftS (G : Gh) (t : LTS) : TS := fun Q σ H => ∃ ρ L Z η P, SI G L Z η H ∧ SS L Z σ ρ ∧ t P ρ η ∧ EndsOk G P Q

abbrev LE (X : Cx) (G : Gh) (e : Expr) (t : LTE) : Prop := PE X e (liftE G t)
abbrev LT (X : Cx) (G : Gh) (e : Expr) (t : LTT) : Prop := PT X e (liftT G t)
abbrev LA (X : Cx) (G : Gh) (es : List Expr) (t : LTA) : Prop := PA X es (liftA G t)
abbrev LS (X : Cx) (G : Gh) (st : Stmt) (t : LTS) : Prop := PS X st (liftS G t)
abbrev LSs (X : Cx) (G : Gh) (st : List Stmt) (t : LTS) : Prop := PSs X st (liftS G t)
theorem _root_.L2.PE.weak {X : Cx} {e : Expr} {t t' : TE} (h : PE X e t) (w : ∀ σ H Q, t' σ H Q → t σ H Q) : PE X e t' := ⟨fun pins s σ H Q I q => h.run pins s σ H Q I (w σ H Q q)⟩
theorem _root_.L2.PT.weak {X : Cx} {e : Expr} {t t' : TT} (h : PT X e t) (w : ∀ σ H Q, t' σ H Q → t σ H Q) : PT X e t' := ⟨fun pins s σ H Q I q => h.run pins s σ H Q I (w σ H Q q)⟩
theorem _root_.L2.PW.weak {X : Cx} {e : Expr} {t t' : TT} (h : PW X e t) (w : ∀ σ H Q, t' σ H Q → t σ H Q) : PW X e t' := ⟨fun whole pins s σ H Q I q => h.run whole pins s σ H Q I (w σ H Q q)⟩
theorem _root_.L2.PA.weak {X : Cx} {e : List Expr} {t t' : TA} (h : PA X e t) (w : ∀ σ H Q, t' σ H Q → t σ H Q) : PA X e t' := ⟨fun pos pins s σ H Q I q => h.run pos pins s σ H Q I (w σ H Q q)⟩
theorem _root_.L2.PS.weak {X : Cx} {e : Stmt} {t t' : TS} (h : PS X e t) (w : ∀ D σ H, t' D σ H → t D σ H) : PS X e t' := ⟨fun pins s σ H D I q => h.run pins s σ H D I (w D σ H q)⟩
theorem _root_.L2.PSs.weak {X : Cx} {e : List Stmt} {t t' : TS} (h : PSs X e t) (w : ∀ D σ H, t' D σ H → t D σ H) : PSs X e t' := ⟨fun pins s σ H D I q => h.run pins s σ H D I (w D σ H q)⟩

section
variable {G : Gh} {L : Loc} {Z : Hp} {η : Reg} {H : Hp} {σ : SV} {ρ : Sl}
/-- one part is evaluated, its value settled; go on -/
theorem step {ta : LTE} {R : V → Hp → Prop} {P : Vl → Reg → Prop} (S : SI G L Z η H) (s : SS L Z σ ρ) (t : ta ρ η fun v η1 => P v.fz η1)
    (k : ∀ x v L1 Z1 η1 H1, SI G L1 Z1 η1 H1 → SS L1 Z1 σ ρ → Ext L Z L1 Z1 → RepV G L1 Z1 H1 x v → P v η1 → R x H1) : liftE G ta σ H R := by
  refine ⟨ρ, L, Z, η, _, S, s, t, fun x v L' Z' η' H' S' E' r q => ?_⟩
  obtain ⟨Z2, S2, E2, r2⟩ := settle S' r
  have E3 := E'.trans E2
  exact k x _ L' Z2 η' H' S2 (s.ext E3) E3 r2 q
/-- .. unsettled -/
theorem step' {ta : LTE} {R : V → Hp → Prop} {P : Vl → Reg → Prop} (S : SI G L Z η H) (s : SS L Z σ ρ) (t : ta ρ η P)
    (k : ∀ x v L1 Z1 η1 H1, SI G L1 Z1 η1 H1 → SS L1 Z1 σ ρ → Ext L Z L1 Z1 → RepV G L1 Z1 H1 x v → P v η1 → R x H1) : liftE G ta σ H R :=
  ⟨ρ, L, Z, η, _, S, s, t, fun x v L' Z' η' H' S' E' r q => k x v L' Z' η' H' S' (s.ext E') E' r q⟩
theorem stepT {ta : LTT} {R : Bool → Hp → Prop} {P : Bool → Reg → Prop} (S : SI G L Z η H) (s : SS L Z σ ρ) (t : ta ρ η P)
    (k : ∀ b L1 Z1 η1 H1, SI G L1 Z1 η1 H1 → SS L1 Z1 σ ρ → Ext L Z L1 Z1 → P b η1 → R b H1) : liftT G ta σ H R :=
  ⟨ρ, L, Z, η, _, S, s, t, fun b L' Z' η' H' S' E' q => k b L' Z' η' H' S' (s.ext E') E' q⟩
theorem stepA {ta : LTA} {R : List V → Hp → Prop} {P : List Vl → Reg → Prop} (S : SI G L Z η H) (s : SS L Z σ ρ) (t : ta ρ η P)
    (k : ∀ xs vs L1 Z1 η1 H1, SI G L1 Z1 η1 H1 → SS L1 Z1 σ ρ → Ext L Z L1 Z1 → RepVs G L1 Z1 H1 xs vs → P vs η1 → R xs H1) : liftA G ta σ H R :=
  ⟨ρ, L, Z, η, _, S, s, t, fun b vs L' Z' η' H' S' E' r q => k b vs L' Z' η' H' S' (s.ext E') E' r q⟩
theorem stepS {t : LTS} {P : LEnds} {Q : Ends} (S : SI G L Z η H) (s : SS L Z σ ρ) (h : t P ρ η) (e : EndsOk G P Q) : liftS G t Q σ H := ⟨ρ, L, Z, η, P, S, s, h, e⟩
end
end Pl

namespace Pl
open PySem PySem.Spec PyProof.Rows L2

/-! ## the terms -/
inductive Bop | add | sub | mul | fdiv | mod | pow | band | bor | bxor | shl | shr
  deriving DecidableEq
inductive Cop | eq | ne | lt | le | gt | ge | isin | notin | isnone | notnone
  deriving DecidableEq
/-- built-ins called by name -/
inductive Bi | len | int | abs | sum | min1 | max1 | min2 | max2 | all | any | list | tuple | sorted | rlist1 | rlist2 | rtup1 | rtup2 | isi (T : String)
  deriving DecidableEq
/-- methods of built-in types -/
inductive Mt | append | pop | popAt | extend | index | split | bitlen
  deriving DecidableEq
inductive Tg | one (i : Nat) | many (is : List Nat)
mutual
inductive E
  | var (i : Nat)
  | lit (d : D)
  | con (x : Str) (d : D)
  | bop (o : Bop) (a b : E)
  | neg (a : E)
  | cmp (o : Cop) (a b : E)
  | chn (o p : Cop) (a b c : E)
  | chn3 (o p q : Cop) (a b c d : E)
  | rev (a : E)
  | own (n : Nat) (a : E)
  | sset (a : E)
  | nset (a : E)
  | and (a : E) (es : Es)
  | or (a : E) (es : Es)
  | not (a : E)
  | ite (c a b : E)
  | tup (es : Es)
  | lst (es : Es)
  | idx (a b : E)
  | sli (a : E) (lo hi : Eo)
  | call (f : Nat) (es : Es)
  | bi (b : Bi) (es : Es)
  | met (m : Mt) (a : E) (es : Es)
  | lc (tg : Tg) (own : List Nat) (s : Src) (c : Eo) (e : E)
inductive Es
  | nil | cons (e : E) (es : Es)
inductive Eo
  | no | so (e : E)
inductive Src
  | seq (e : E) | rng1 (a : E) | rng2 (a b : E) | zip (a b : E) | enum (a : E)
end

/-! ## the meaning -/
abbrev PSpec := List Vl → List Ob → (Vl → List Ob → Prop) → Prop
abbrev Env := List (Str × PSpec)
def Vl.settled : Vl → Prop
  | .fr _ => False
  | _ => True
def Vl.onD : Vl → (D → Prop) → Prop
  | .dat d, Q => Q d
  | _, _ => False
def onView (v : Vl) (η : Reg) (Q : D → Prop) : Prop := match v.view η with
  | some d => Q d
  | none => False
def MulOk (i j : Int) : Prop := (-(2 ^ 64) < i ∧ i < 2 ^ 64) ∨ (-(2 ^ 64) < j ∧ j < 2 ^ 64) ∨ IntMulOk i j
def DivOk (i j : Int) : Prop := j < 1073741824 ∨ Builtin.divisionGoesByPylong i j = false
def ShOk (i j : Int) : Prop := 0 ≤ j ∧ ((j ≤ 1000000 ∧ i.natAbs < 2 ^ 64) ∨ (Builtin.Int.intBits i : Int) + j ≤ 2 ^ 27)
def bopD : Bop → D → D → (Vl → Prop) → Prop
  | .add, .int i, .int j, Q => Q (.dat (.int (i + j)))
  | .add, .str x, .str y, Q => x.length + y.length ≤ sizeLine ∧ Q (.dat (.str (x ++ y)))
  | .add, .tuple xs, .tuple ys, Q => xs.length + ys.length ≤ sizeLine ∧ Q (.dat (.tuple (xs ++ ys)))
  | .add, .list xs, .list ys, Q => xs.length + ys.length ≤ sizeLine ∧ Q (.fr (.lst (xs ++ ys)))
  | .sub, .int i, .int j, Q => Q (.dat (.int (i - j)))
  | .mul, .int i, .int j, Q => MulOk i j ∧ Q (.dat (.int (i * j)))
  | .mul, .list xs, .int k, Q => (-(2 ^ 63) ≤ k ∧ k < 2 ^ 63 ∧ xs.length * k.toNat ≤ sizeLine) ∧ Q (.fr (.lst (List.replicate k.toNat xs).flatten))
  | .mul, .tuple xs, .int k, Q => (xs ≠ [] ∧ 0 ≤ k ∧ k ≤ 1000 ∧ xs.length ≤ 1000) ∧ Q (.dat (.tuple (List.replicate k.toNat xs).flatten))
  | .fdiv, .int i, .int j, Q => (0 < j ∧ DivOk i j) ∧ Q (.dat (.int (i / j)))
  | .mod, .int i, .int j, Q => 0 < j ∧ Q (.dat (.int (i % j)))
  | .pow, .int i, .int j, Q => (0 ≤ j ∧ j ≤ 1000000 ∧ i.natAbs < 2 ^ 64) ∧ Q (.dat (.int (i ^ j.toNat)))
  | .band, .int i, .int j, Q => Q (.dat (.int (Builtin.bitAnd i j)))
  | .bor, .int i, .int j, Q => Q (.dat (.int (Builtin.bitOr i j)))
  | .bxor, .int i, .int j, Q => Q (.dat (.int (Builtin.bitXor i j)))
  | .shl, .int i, .int j, Q => ShOk i j ∧ Q (.dat (.int (i * 2 ^ j.toNat)))
  | .shr, .int i, .int j, Q => 0 ≤ j ∧ Q (.dat (.int (i / 2 ^ j.toNat)))
  | _, _, _, _ => False
def isNone : D → Bool
  | .none => true
  | _ => false
def intsOf (xs : List D) (Q : List Int → Prop) : Prop := ∃ ns : List Int, xs = ns.map PyData.int ∧ Q ns
def cmpD : Cop → D → D → (Bool → Prop) → Prop
  | .eq, x, y, Q => (x.depth ≤ 60 ∨ y.depth ≤ 60) ∧ Q (PyData.eqv x y)
  | .ne, x, y, Q => (x.depth ≤ 60 ∨ y.depth ≤ 60) ∧ Q (!PyData.eqv x y)
  | .lt, .int i, .int j, Q => Q (decide (i < j))
  | .le, .int i, .int j, Q => Q (decide (i ≤ j))
  | .gt, .int i, .int j, Q => Q (decide (j < i))
  | .ge, .int i, .int j, Q => Q (decide (j ≤ i))
  | .lt, .str i, .str j, Q => Q (decide (i.cps.toList < j.cps.toList))
  | .isin, .str x, .str z, Q => ∃ c : Nat, x = ⟨#[c]⟩ ∧ Q (decide (c ∈ z.cps.toList))
  | .isin, x, .list ys, Q => (PyData.depthAll ys ≤ 60 ∨ x.depth ≤ 60) ∧ Q (ys.any fun y => PyData.eqv y x)
  | .isin, x, .tuple ys, Q => (PyData.depthAll ys ≤ 60 ∨ x.depth ≤ 60) ∧ Q (ys.any fun y => PyData.eqv y x)
  | .notin, .str x, .str z, Q => ∃ c : Nat, x = ⟨#[c]⟩ ∧ Q (!decide (c ∈ z.cps.toList))
  | .notin, x, .list ys, Q => (PyData.depthAll ys ≤ 60 ∨ x.depth ≤ 60) ∧ Q (!ys.any fun y => PyData.eqv y x)
  | .notin, x, .tuple ys, Q => (PyData.depthAll ys ≤ 60 ∨ x.depth ≤ 60) ∧ Q (!ys.any fun y => PyData.eqv y x)
  | .isnone, x, .none, Q => Q (isNone x)
  | .notnone, x, .none, Q => Q (!isNone x)
  | .isnone, .bool x, .bool y, Q => Q (x == y)
  | .notnone, .bool x, .bool y, Q => Q (x != y)
  | _, _, _, _ => False
def idxD : D → D → (D → Prop) → Prop
  | .list xs, .int i, Q => ∃ d, atI xs i = some d ∧ Q d
  | .tuple xs, .int i, Q => ∃ d, atI xs i = some d ∧ Q d
  | .str z, .int i, Q => z.length ≤ sizeLine ∧ ∃ c, atI z.cps.toList i = some c ∧ Q (.str ⟨#[c]⟩)
  | _, _, _ => False
def cutL {α : Type} (xs : List α) (lo hi : Option Int) : List α := (xs.drop (HT.sIx xs.length 0 lo)).take (HT.sIx xs.length xs.length hi - HT.sIx xs.length 0 lo)
def sliD : D → Option Int → Option Int → (Vl → Prop) → Prop
  | .list xs, lo, hi, Q => Q (.fr (.lst (cutL xs lo hi)))
  | .tuple xs, lo, hi, Q => Q (.dat (.tuple (cutL xs lo hi)))
  | .str z, lo, hi, Q => z.length ≤ sizeLine ∧ Q (.dat (.str (cutS z lo hi)))
  | _, _, _, _ => False
def chars (s : Str) : List D := s.cps.toList.map fun c => .str ⟨#[c]⟩
def rangeD (lo : Int) (n : Nat) : List D := (List.range n).map fun k => .int (lo + (k : Nat))
/-- the type's name of data -/
def tyD : D → String
  | .none => "NoneType" | .bool _ => "bool" | .int _ => "int" | .str _ => "str" | .list _ => "list" | .tuple _ => "tuple" | .dict _ => "dict"
def tyV' : Vl → Reg → Option String
  | .dat d, _ => some (tyD d)
  | .ptr n, η => match η[n]? with
    | some (some (.lst _)) => some "list"
    | some (some _) => some "dict"
    | _ => none
  | .fr _, _ => none
def lenOf (v : Vl) (η : Reg) (Q : Nat → Prop) : Prop := onView v η fun
  | .list xs => Q xs.length
  | .tuple xs => Q xs.length
  | .str s => s.length ≤ sizeLine ∧ Q s.length
  | _ => False
def biW : Bi → List Vl → Reg → (Vl → Prop) → Prop
  | .len, [v], η, Q => lenOf v η fun n => Q (.dat (.int n))
  | .int, [.dat (.int i)], _, Q => Q (.dat (.int i))
  | .int, [.dat (.bool b)], _, Q => Q (.dat (.int (if b then 1 else 0)))
  | .abs, [.dat (.int i)], _, Q => Q (.dat (.int (if i < 0 then -i else i)))
  | .min2, [.dat (.int i), .dat (.int j)], _, Q => Q (.dat (.int (if j < i then j else i)))
  | .max2, [.dat (.int i), .dat (.int j)], _, Q => Q (.dat (.int (if j > i then j else i)))
  | .sum, [v], η, Q => onView v η fun
    | .list xs => intsOf xs fun ns => Q (.dat (.int ns.sum))
    | .tuple xs => intsOf xs fun ns => Q (.dat (.int ns.sum))
    | _ => False
  | .min1, [v], η, Q => onView v η fun
    | .list xs => intsOf xs fun ns => 0 < ns.length ∧ ∀ m ∈ ns, (∀ y ∈ ns, m ≤ y) → Q (.dat (.int m))
    | .tuple xs => intsOf xs fun ns => 0 < ns.length ∧ ∀ m ∈ ns, (∀ y ∈ ns, m ≤ y) → Q (.dat (.int m))
    | _ => False
  | .max1, [v], η, Q => onView v η fun
    | .list xs => intsOf xs fun ns => 0 < ns.length ∧ ∀ m ∈ ns, (∀ y ∈ ns, y ≤ m) → Q (.dat (.int m))
    | .tuple xs => intsOf xs fun ns => 0 < ns.length ∧ ∀ m ∈ ns, (∀ y ∈ ns, y ≤ m) → Q (.dat (.int m))
    | _ => False
  | .all, [v], η, Q => onView v η fun
    | .list xs => ∃ bs : List Bool, xs = bs.map PyData.bool ∧ Q (.dat (.bool (bs.all id)))
    | _ => False
  | .any, [v], η, Q => onView v η fun
    | .list xs => ∃ bs : List Bool, xs = bs.map PyData.bool ∧ Q (.dat (.bool (bs.any id)))
    | _ => False
  | .list, [v], η, Q => onView v η fun
    | .list xs => Q (.fr (.lst xs))
    | .tuple xs => Q (.fr (.lst xs))
    | _ => False
  | .tuple, [v], η, Q => onView v η fun
    | .list xs => Q (.dat (.tuple xs))
    | .tuple xs => Q (.dat (.tuple xs))
    | _ => False
  | .rlist1, [.dat (.int j)], _, Q => RgOk 0 j ∧ Q (.fr (.lst (rangeD 0 j.toNat)))
  | .rlist2, [.dat (.int i), .dat (.int j)], _, Q => RgOk i j ∧ Q (.fr (.lst (rangeD i (j - i).toNat)))
  | .rtup1, [.dat (.int j)], _, Q => RgOk 0 j ∧ Q (.dat (.tuple (rangeD 0 j.toNat)))
  | .rtup2, [.dat (.int i), .dat (.int j)], _, Q => RgOk i j ∧ Q (.dat (.tuple (rangeD i (j - i).toNat)))
  | .sorted, [v], η, Q => onView v η fun
    | .list xs => (PySem.W.AllAlike xs ∧ PySem.W.Sortable xs ∧ ∀ d ∈ xs, d.depth ≤ 50) ∧ Q (.fr (.lst (xs.mergeSort (PySem.W.dataLe false id))))
    | .tuple xs => (PySem.W.AllAlike xs ∧ PySem.W.Sortable xs ∧ ∀ d ∈ xs, d.depth ≤ 50) ∧ Q (.fr (.lst (xs.mergeSort (PySem.W.dataLe false id))))
    | _ => False
  | .isi T, [v], η, Q => ∃ t b, tyV' v η = some t ∧ kitB t T = some b ∧ Q (.dat (.bool b))
  | _, _, _, _ => False
/-- the first place of an item -/
def firstAt (ds : List D) (d : D) (Q : Nat → Prop) : Prop := (PyData.depthAll ds ≤ 60 ∨ d.depth ≤ 60) ∧ ∃ (j : Nat) (z : D), ds[j]? = some z ∧ PyData.eqv z d = true ∧ (∀ (m : Nat) (y : D), m < j → ds[m]? = some y → PyData.eqv y d = false) ∧ Q j
def mtTy : Mt → Option String → Bool
  | .append, some "list" => true
  | .pop, some "list" => true
  | .popAt, some "list" => true
  | .extend, some "list" => true
  | .index, some "list" => true
  | .index, some "tuple" => true
  | .split, some "str" => true
  | .bitlen, some "int" => true
  | _, _ => false
def metW : Mt → Vl → List Vl → Reg → (Vl → Reg → Prop) → Prop
  | .append, .ptr n, [v], η, Q => match η[n]? with
    | some (some (.lst xs)) => xs.length < sizeLine ∧ v.onD fun d => Q (.dat .none) (η.set n (some (.lst (xs ++ [d]))))
    | _ => False
  | .pop, .ptr n, [], η, Q => match η[n]? with
    | some (some (.lst xs)) => ∃ d, xs[xs.length - 1]? = some d ∧ Q (.dat d) (η.set n (some (.lst xs.dropLast)))
    | _ => False
  | .popAt, .ptr n, [.dat (.int i)], η, Q => match η[n]? with
    | some (some (.lst xs)) => ∃ d, (0 ≤ i ∧ i < 2 ^ 63) ∧ xs[i.toNat]? = some d ∧ Q (.dat d) (η.set n (some (.lst (xs.eraseIdx i.toNat))))
    | _ => False
  | .extend, .ptr n, [v], η, Q => match η[n]? with
    | some (some (.lst xs)) => onView v η fun
      | .list ys => xs.length + ys.length ≤ sizeLine ∧ Q (.dat .none) (η.set n (some (.lst (xs ++ ys))))
      | _ => False
    | _ => False
  | .index, v, [.dat d], η, Q => onView v η fun
    | .list ds => firstAt ds d fun j => Q (.dat (.int (j : Nat))) η
    | .tuple ds => firstAt ds d fun j => Q (.dat (.int (j : Nat))) η
    | _ => False
  | .bitlen, .dat (.int i), [], η, Q => Q (.dat (.int (Builtin.Int.intBits i : Nat))) η
  | .split, .dat (.str a), [.dat (.str b)], η, Q => (b.length == 0) = false ∧ a.length + 2 ≤ sizeLine ∧ Q (.fr (.lst ((Txt.split a b).map PyData.str))) η
  | _, _, _, _, _ => False

/-! calls -/
def regsOf : List Vl → List Nat
  | [] => []
  | .ptr n :: r => n :: regsOf r
  | _ :: r => regsOf r
def renum : Nat → List Vl → List Vl
  | _, [] => []
  | k, .ptr _ :: r => .ptr k :: renum (k + 1) r
  | k, v :: r => v :: renum k r
def obsAt : List Nat → Reg → Option (List Ob)
  | [], _ => some []
  | n :: ns, η => match η[n]?, obsAt ns η with
    | some (some o), some os => some (o :: os)
    | _, _ => none
def putAll : List Nat → List Ob → Reg → Reg
  | n :: ns, o :: os, η => putAll ns os (η.set n (some o))
  | _, _, η => η
def Vl.noPtr : Vl → Prop
  | .ptr _ => False
  | _ => True
def callW (sp : PSpec) (vs : List Vl) (η : Reg) (Q : Vl → Reg → Prop) : Prop :=
  (regsOf vs).Nodup ∧ match obsAt (regsOf vs) η with
    | some obs => sp (renum 0 vs) obs fun v obs' => obs'.length = obs.length ∧ v.noPtr ∧ Q v (putAll (regsOf vs) obs' η)
    | none => False
def callN (Γ : Env) (f : Nat) (vs : List Vl) (η : Reg) (Q : Vl → Reg → Prop) : Prop := match Γ[f]? with
  | some p => callW p.2 vs η Q
  | none => False

/-! loops -/
def setMany : Sl → List Nat → List D → Sl
  | ρ, i :: is, d :: ds => setMany (ρ.set i (some (.dat d))) is ds
  | ρ, _, _ => ρ
def wTg : Tg → D → Sl → (Sl → Prop) → Prop
  | .one i, d, ρ, Q => Q (ρ.set i (some (.dat d)))
  | .many is, .tuple ds, ρ, Q => is.length = ds.length ∧ Q (setMany ρ is ds)
  | .many _, _, _, _ => False
def wipeL (ρ : Sl) : List Nat → Sl
  | [] => ρ
  | v :: vs => (wipeL ρ vs).set v none
def stab : Vl → List D → Reg → Prop
  | .ptr n, ds, η => η[n]? = some (some (.lst ds))
  | _, _, _ => True
def wFor (tg : Tg) (body : LTS) (ok : Reg → Prop) : List D → LTS
  | [], P, ρ, η => P.nx ρ η
  | d :: r, P, ρ, η => wTg tg d ρ fun ρ' => body { P with nx := fun ρ η => ok η ∧ wFor tg body ok r P ρ η, ct := fun ρ η => ok η ∧ wFor tg body ok r P ρ η, bk := P.nx } ρ' η
def wLc (tg : Tg) (own : List Nat) (ct : LTT) (elt : LTE) (ok : Reg → Prop) (ρ : Sl) : List D → Reg → (List D → Reg → Prop) → Prop
  | [], η, Q => Q [] η
  | d :: r, η, Q => wTg tg d (wipeL ρ own) fun ρ' => ct ρ' η fun b η1 =>
    if b = true then elt ρ' η1 fun v η2 => v.fz.onD fun e => ok η2 ∧ wLc tg own ct elt ok ρ r η2 fun es η3 => Q (e :: es) η3
    else ok η1 ∧ wLc tg own ct elt ok ρ r η1 Q
def asT (t : LTE) : LTT := fun ρ η Q => t ρ η fun v η1 => match v with
  | .dat (.bool b) => Q b η1
  | _ => False

/-! sorted(set(x)), len(set(x)) -/
def ssetD (x : D) (Q : List Int → Prop) : Prop := match x with
  | .tuple xs => ∃ ns : List Int, xs = ns.map PyData.int ∧ ns.length < 64 ∧ ∀ ms : List Int, ms.Pairwise (· < ·) → (∀ k, k ∈ ms ↔ k ∈ ns) → Q ms
  | _ => False
def nsetD (x : D) (Q : Nat → Prop) : Prop := match x with
  | .tuple xs => ∃ ns : List Int, xs = ns.map PyData.int ∧ ns.length < 64 ∧ ∀ c : Nat, (∀ ms : List Int, ms.Nodup → (∀ k, k ∈ ms ↔ k ∈ ns) → ms.length = c) → Q c
  | _ => False
mutual
def wE (Γ : Env) : E → LTE
  | .var i => fun ρ η Q => match ρ[i]? with
    | some (some v) => Q v η
    | _ => False
  | .lit d => fun _ η Q => Q (.dat d) η
  | .con _ d => fun _ η Q => Q (.dat d) η
  | .bop o a b => fun ρ η Q => wE Γ a ρ η fun v η1 => wE Γ b ρ η1 fun w η2 => onView v.fz η2 fun x => onView w.fz η2 fun y => bopD o x y fun r => Q r η2
  | .neg a => fun ρ η Q => wE Γ a ρ η fun v η1 => match v.fz with
    | .dat (.int i) => Q (.dat (.int (-i))) η1
    | _ => False
  | .cmp o a b => fun ρ η Q => wE Γ a ρ η fun v η1 => wE Γ b ρ η1 fun w η2 => onView v.fz η2 fun x => onView w.fz η2 fun y => cmpD o x y fun r => Q (.dat (.bool r)) η2
  | .chn o p a b c => fun ρ η Q => wE Γ a ρ η fun v η1 => wE Γ b ρ η1 fun w η2 => onView v.fz η2 fun x => onView w.fz η2 fun y => cmpD o x y fun r =>
    if r = true then wE Γ c ρ η2 fun u η3 => onView w.fz η3 fun y => onView u.fz η3 fun z => cmpD p y z fun q => Q (.dat (.bool q)) η3 else Q (.dat (.bool false)) η2
  | .chn3 o p q a b c d => fun ρ η Q => wE Γ a ρ η fun v η1 => wE Γ b ρ η1 fun w η2 => onView v.fz η2 fun x => onView w.fz η2 fun y => cmpD o x y fun r =>
    if r = true then wE Γ c ρ η2 fun u η3 => onView w.fz η3 fun y => onView u.fz η3 fun z => cmpD p y z fun r =>
      if r = true then wE Γ d ρ η3 fun t η4 => onView u.fz η4 fun z => onView t.fz η4 fun z' => cmpD q z z' fun r => Q (.dat (.bool r)) η4 else Q (.dat (.bool false)) η3
    else Q (.dat (.bool false)) η2
  | .rev a => fun ρ η Q => wE Γ a ρ η fun v η1 => onView v.fz η1 fun
    | .list xs => Q (.fr (.lst xs.reverse)) η1
    | _ => False
  | .own n a => fun ρ η Q => wE Γ a ρ η fun v η1 => match v with
    | .fr o => η1[n]? = some none ∧ Q (.ptr n) (η1.set n (some o))
    | _ => False
  | .sset a => fun ρ η Q => wE Γ a ρ η fun v η1 => onView v.fz η1 fun x => ssetD x fun ms => Q (.fr (.lst (ms.map PyData.int))) η1
  | .nset a => fun ρ η Q => wE Γ a ρ η fun v η1 => onView v.fz η1 fun x => nsetD x fun c => Q (.dat (.int (c : Nat))) η1
  | .and a es => fun ρ η Q => wE Γ a ρ η fun v η1 => match v with
    | .dat (.bool b) => if b = true then wAnd Γ es ρ η1 Q else Q (.dat (.bool false)) η1
    | _ => False
  | .or a es => fun ρ η Q => wE Γ a ρ η fun v η1 => match v with
    | .dat (.bool b) => if b = true then Q (.dat (.bool true)) η1 else wOr Γ es ρ η1 Q
    | _ => False
  | .not a => fun ρ η Q => wE Γ a ρ η fun v η1 => match v with
    | .dat (.bool b) => Q (.dat (.bool (!b))) η1
    | _ => False
  | .ite c a b => fun ρ η Q => wE Γ c ρ η fun v η1 => match v with
    | .dat (.bool k) => if k = true then wE Γ a ρ η1 Q else wE Γ b ρ η1 Q
    | _ => False
  | .tup es => fun ρ η Q => wEs Γ es ρ η fun vs η1 => vs.length ≤ sizeLine ∧ ∃ ds, vs = ds.map Vl.dat ∧ Q (.dat (.tuple ds)) η1
  | .lst es => fun ρ η Q => wEs Γ es ρ η fun vs η1 => vs.length ≤ sizeLine ∧ ∃ ds, vs = ds.map Vl.dat ∧ Q (.fr (.lst ds)) η1
  | .idx a b => fun ρ η Q => wE Γ a ρ η fun v η1 => wE Γ b ρ η1 fun w η2 => onView v.fz η2 fun x => onView w.fz η2 fun y => idxD x y fun r => Q (.dat r) η2
  | .sli a lo hi => fun ρ η Q => wE Γ a ρ η fun v η1 => wEo Γ lo ρ η1 fun l η2 => wEo Γ hi ρ η2 fun h η3 => onView v.fz η3 fun x => sliD x l h fun r => Q r η3
  | .call f es => fun ρ η Q => wEs Γ es ρ η fun vs η1 => callN Γ f vs η1 Q
  | .bi b es => fun ρ η Q => wEs Γ es ρ η fun vs η1 => biW b vs η1 fun r => Q r η1
  | .met m a es => fun ρ η Q => wE Γ a ρ η fun v η1 => mtTy m (tyV' v.fz η1) = true ∧ wEs Γ es ρ η1 fun vs η2 => metW m v.fz vs η2 Q
  | .lc tg own s c e => fun ρ η Q => wSrc Γ s ρ η fun ds ok _ η1 => wLc tg own (wCond Γ c) (wE Γ e) ok ρ ds η1 fun es η2 => Q (.fr (.lst es)) η2
def wAnd (Γ : Env) : Es → LTE
  | .nil => fun _ η Q => Q (.dat (.bool true)) η
  | .cons a es => fun ρ η Q => wE Γ a ρ η fun v η1 => match v with
    | .dat (.bool b) => if b = true then wAnd Γ es ρ η1 Q else Q (.dat (.bool false)) η1
    | _ => False
def wOr (Γ : Env) : Es → LTE
  | .nil => fun _ η Q => Q (.dat (.bool false)) η
  | .cons a es => fun ρ η Q => wE Γ a ρ η fun v η1 => match v with
    | .dat (.bool b) => if b = true then Q (.dat (.bool true)) η1 else wOr Γ es ρ η1 Q
    | _ => False
def wEs (Γ : Env) : Es → LTA
  | .nil => fun _ η Q => Q [] η
  | .cons a es => fun ρ η Q => wE Γ a ρ η fun v η1 => v.fz.settled ∧ wEs Γ es ρ η1 fun vs η2 => Q (v.fz :: vs) η2
def wEo (Γ : Env) : Eo → Sl → Reg → (Option Int → Reg → Prop) → Prop
  | .no => fun _ η Q => Q none η
  | .so a => fun ρ η Q => wE Γ a ρ η fun v η1 => match v with
    | .dat (.int i) => Q (some i) η1
    | _ => False
def wCond (Γ : Env) : Eo → LTT
  | .no => fun _ η Q => Q true η
  | .so a => asT (wE Γ a)
def wSrc (Γ : Env) : Src → Sl → Reg → (List D → (Reg → Prop) → List Nat → Reg → Prop) → Prop
  | .seq a => fun ρ η R => wE Γ a ρ η fun v η1 => onView v.fz η1 fun
    | .list ds => R ds (stab v.fz ds) (regsOf [v.fz]) η1
    | .tuple ds => R ds (fun _ => True) [] η1
    | .str s => s.length ≤ sizeLine ∧ R (chars s) (fun _ => True) [] η1
    | _ => False
  | .rng1 a => fun ρ η R => wE Γ a ρ η fun v η1 => match v with
    | .dat (.int j) => j ≤ sizeLine ∧ -(2 ^ 62) ≤ j ∧ R (rangeD 0 j.toNat) (fun _ => True) [] η1
    | _ => False
  | .rng2 a b => fun ρ η R => wE Γ a ρ η fun v η1 => wE Γ b ρ η1 fun w η2 => match v, w with
    | .dat (.int i), .dat (.int j) => (j - i ≤ sizeLine ∧ (-(2 ^ 62) ≤ i ∧ i < 2 ^ 62 ∧ -(2 ^ 62) ≤ j ∧ j < 2 ^ 62)) ∧ R (rangeD i (j - i).toNat) (fun _ => True) [] η2
    | _, _ => False
  | .zip a b => fun ρ η R => wE Γ a ρ η fun v η1 => wE Γ b ρ η1 fun w η2 => onView v.fz η2 fun
    | .list xs => onView w.fz η2 fun
      | .list ys => R (List.zipWith (fun x y => PyData.tuple [x, y]) xs ys) (fun η => stab v.fz xs η ∧ stab w.fz ys η) (regsOf [v.fz, w.fz]) η2
      | _ => False
    | .tuple xs => onView w.fz η2 fun
      | .tuple ys => R (List.zipWith (fun x y => PyData.tuple [x, y]) xs ys) (fun _ => True) [] η2
      | _ => False
    | _ => False
  | .enum a => fun ρ η R => wE Γ a ρ η fun v η1 => onView v.fz η1 fun
    | .list xs => R (xs.zipIdx.map fun p => PyData.tuple [.int p.2, p.1]) (stab v.fz xs) (regsOf [v.fz]) η1
    | .tuple xs => R (xs.zipIdx.map fun p => PyData.tuple [.int p.2, p.1]) (fun _ => True) [] η1
    | _ => False
end

/-! ## statements -/
mutual
inductive S
  | asg (i : Nat) (r : Option Nat) (e : E)
  | asgT (is : List Nat) (e : E)
  | sto (a b e : E)
  | augN (i : Nat) (e : E)
  | augS (a b e : E)
  | exp (e : E)
  | ret (e : E)
  | retP (i n : Nat)
  | iff (c : E) (t f : Ss)
  | for (gs : List Nat) (tg : Tg) (s : Src) (b : Ss)
  | whl (c : E) (b : Ss)
  | brk | cnt | pas
  | frz (i n : Nat)
inductive Ss
  | nil | cons (s : S) (ss : Ss)
end
def clr1 (r : Nat) : Option Vl → Option Vl
  | some (.ptr n) => if n = r then none else some (.ptr n)
  | v => v
def clr (r : Nat) (ρ : Sl) : Sl := ρ.map (clr1 r)
def frz1 (r : Nat) (d : D) : Option Vl → Option Vl
  | some (.ptr n) => if n = r then some (.dat d) else some (.ptr n)
  | v => v
def asgW (i : Nat) (r : Option Nat) (v : Vl) (ρ : Sl) (η : Reg) (Q : Sl → Reg → Prop) : Prop := match v with
  | .dat d => Q (ρ.set i (some (.dat d))) η
  | .ptr n => Q (ρ.set i (some (.ptr n))) η
  | .fr o => match r with
    | some n => n < η.length ∧ Q ((clr n ρ).set i (some (.ptr n))) (η.set n (some o))
    | none => match o with
      | .lst ds => Q (ρ.set i (some (.dat (.list ds)))) η
      | _ => False
def stoW (v i w : Vl) (η : Reg) (Q : Reg → Prop) : Prop := match v with
  | .ptr n => match η[n]? with
    | some (some (.lst xs)) => match i with
      | .dat (.int k) => w.onD fun d => ∃ j, ixN xs.length k = some j ∧ Q (η.set n (some (.lst (xs.set j d))))
      | _ => False
    | _ => False
  | _ => False
/-- x += y -/
def augD : D → D → (D → Prop) → Prop
  | .int i, .int j, Q => Q (.int (i + j))
  | .str x, .str y, Q => x.length + y.length ≤ sizeLine ∧ Q (.str (x ++ y))
  | _, _, _ => False
def augGet (v i : Vl) (η : Reg) (Q : D → Prop) : Prop := match v with
  | .ptr n => match η[n]? with
    | some (some (.lst xs)) => match i with
      | .dat (.int k) => ∃ d, atI xs k = some d ∧ Q d
      | _ => False
    | _ => False
  | _ => False
def wWhile (c : LTE) (body : LTS) : LTS := fun P ρ η => ∃ I : Nat → Sl → Reg → Prop, (∃ m, I m ρ η) ∧ ∀ m ρ η, I m ρ η →
  asT c ρ η fun b η1 => if b = true then body { P with nx := fun ρ η => ∃ m', m' < m ∧ I m' ρ η, ct := fun ρ η => ∃ m', m' < m ∧ I m' ρ η, bk := P.nx } ρ η1 else P.nx ρ η1
mutual
def wS (Γ : Env) : S → LTS
  | .asg i r e => fun P ρ η => wE Γ e ρ η fun v η1 => asgW i r v ρ η1 P.nx
  | .asgT is e => fun P ρ η => wE Γ e ρ η fun v η1 => v.fz.onD fun d => wTg (.many is) d ρ fun ρ' => P.nx ρ' η1
  | .sto a b e => fun P ρ η => wE Γ e ρ η fun w η1 => wE Γ a ρ η1 fun v η2 => wE Γ b ρ η2 fun i η3 => stoW v i w.fz η3 fun η4 => P.nx ρ η4
  | .augN i e => fun P ρ η => match ρ[i]? with
    | some (some (.dat x)) => wE Γ e ρ η fun w η1 => w.fz.onD fun y => augD x y fun z => P.nx (ρ.set i (some (.dat z))) η1
    | _ => False
  | .augS a b e => fun P ρ η => wE Γ a ρ η fun v η1 => wE Γ b ρ η1 fun i η2 => augGet v i η2 fun x =>
    wE Γ e ρ η2 fun w η3 => w.fz.onD fun u => augD x u fun z => stoW v i (.dat z) η3 fun η4 => P.nx ρ η4
  | .exp e => fun P ρ η => wE Γ e ρ η fun _ η1 => P.nx ρ η1
  | .ret e => fun P ρ η => wE Γ e ρ η P.rt
  | .retP i n => fun P ρ η => ρ[i]? = some (some (.ptr n)) ∧ match η[n]? with
      | some (some o) => P.rt (.fr o) (η.set n none)
      | _ => False
  | .iff c t f => fun P ρ η => asT (wE Γ c) ρ η fun b η1 => if b = true then wSs Γ t P ρ η1 else wSs Γ f P ρ η1
  | .for gs tg s b => fun P ρ η => wSrc Γ s ρ η fun ds ok rs η1 => (∀ r ∈ rs, r ∈ gs) ∧ wFor tg (wSs Γ b) ok ds P ρ η1
  | .whl c b => wWhile (wE Γ c) (wSs Γ b)
  | .brk => fun P ρ η => P.bk ρ η
  | .cnt => fun P ρ η => P.ct ρ η
  | .pas => fun P ρ η => P.nx ρ η
  | .frz i n => fun P ρ η => ρ[i]? = some (some (.ptr n)) ∧ match η[n]? with
      | some (some (.lst ds)) => P.nx (ρ.map (frz1 n (.list ds))) (η.set n none)
      | _ => False
def wSs (Γ : Env) : Ss → LTS
  | .nil => fun P ρ η => P.nx ρ η
  | .cons s ss => fun P ρ η => wS Γ s { P with nx := fun ρ η => wSs Γ ss P ρ η } ρ η
end
def outs : Nat → Reg → Option (List Ob)
  | 0, _ => some []
  | n + 1, some o :: r => match outs n r with
    | some os => some (o :: os)
    | none => none
  | _ + 1, _ => none
/-- a def's body: n registers of its own, m names -/
def wFn (Γ : Env) (body : Ss) (m n : Nat) (vs : List Vl) (obs : List Ob) (Q : Vl → List Ob → Prop) : Prop :=
  wSs Γ body ⟨fun _ η => (match outs obs.length η with
      | some os => Q (.dat .none) os
      | none => False),
    fun v η => (match outs obs.length η with
      | some os => v.noPtr ∧ Q v os
      | none => False), fun _ _ => False, fun _ _ => False⟩ (vs.map some ++ List.replicate (m - vs.length) none) (obs.map some ++ List.replicate n none)
end Pl

namespace Pl
open PySem PySem.Spec PyProof.Rows L2

/-! ## what follows an expression -/
def Cont (G : Gh) (L : Loc) (Z : Hp) (Qp : Vl → Reg → Prop) (Q : VK) : Prop :=
  ∀ x v L' Z' η' H', SI G L' Z' η' H' → Ext L Z L' Z' → RepV G L' Z' H' x v → Qp v η' → Q x H'
section
variable {G : Gh} {L L' : Loc} {Z Z' : Hp} {η η' : Reg} {H H' : Hp} {Qp : Vl → Reg → Prop} {Q : VK} {σ : SV} {ρ : Sl}
theorem Cont.shift (k : Cont G L Z Qp Q) (e : Ext L Z L' Z') : Cont G L' Z' Qp Q := fun x v L2 Z2 η2 H2 S E r q => k x v L2 Z2 η2 H2 S (e.trans E) r q
theorem Cont.dat (k : Cont G L Z Qp Q) (S : SI G L Z η H) {x : V} {d : D} (r : Rp Z x d) (q : Qp (.dat d) η) : Q x H := k x (.dat d) L Z η H S Ext.refl r q
theorem Cont.tup (k : Cont G L Z Qp Q) (S : SI G L Z η H) {xs : List V} {ds : List D} (r : RpAll Z xs ds) (q : Qp (.dat (.tuple ds)) η) :
    ∀ p o, H p = none → o.dict = none → Q (.ref p) (upd H p (.frz o (.tup xs))) := fun p o hp hd => by
  obtain ⟨_, hz, _⟩ := S.fresh hp
  have s : Sub Z (upd Z p (.frz o (.tup xs))) := Sub.upd hz
  exact k _ (.dat (.tuple ds)) L _ η _ (S.newZ hp) ⟨s, fun n a ks h => ⟨ks, h⟩⟩ (.tup upd_same hd (RpAll.mono s _ _ r)) q
theorem Cont.lst (k : Cont G L Z Qp Q) (S : SI G L Z η H) {xs : List V} {ds : List D} (r : RpAll Z xs ds) (q : Qp (.fr (.lst ds)) η) :
    ∀ p, H p = none → Q (.ref p) (upd H p (.lst xs)) := fun p hp => by
  obtain ⟨h1, h2, h3⟩ := S.fresh hp
  refine k _ (.fr (.lst ds)) L Z η _ (S.other h1 h2 h3) Ext.refl ⟨p, [], rfl, ⟨rfl, xs, upd_same, r⟩, fun b hb => ?_⟩ q
  rw [List.mem_singleton] at hb
  subst hb
  exact ⟨h2, h3, h1⟩
theorem lift_of {t : LTE} (S : SI G L Z η H) (s : SS L Z σ ρ) (h : t ρ η Qp) (k : Cont G L Z Qp Q) : liftE G t σ H Q := ⟨ρ, L, Z, η, Qp, S, s, h, k⟩
theorem onView_some {v : Vl} {η : Reg} {P : D → Prop} (h : onView v η P) : ∃ d, v.view η = some d ∧ P d := by
  unfold onView at h
  cases e : v.view η with
  | none => rw [e] at h; exact False.elim h
  | some d => rw [e] at h; exact ⟨d, rfl, h⟩
theorem onD_some {v : Vl} {P : D → Prop} (h : v.onD P) : ∃ d, v = .dat d ∧ P d := by
  cases v with
  | dat d => exact ⟨d, rfl, h⟩
  | ptr n => exact False.elim h
  | fr o => exact False.elim h
theorem view_nofr {v : Vl} {η : Reg} {d : D} (h : v.view η = some d) : ∀ o, v ≠ .fr o := fun o e => by subst e; cases h
/-- both parts of a binary operation -/
theorem step2 {ta tb : LTE} {R : V → V → Hp → Prop} {P : D → D → Reg → Prop} (S : SI G L Z η H) (s : SS L Z σ ρ)
    (t : ta ρ η fun v η1 => tb ρ η1 fun w η2 => onView v.fz η2 fun x => onView w.fz η2 fun y => P x y η2)
    (k : ∀ xv yv x y L2 Z2 η2 H2, SI G L2 Z2 η2 H2 → SS L2 Z2 σ ρ → Ext L Z L2 Z2 → Vw Z2 H2 xv x → Vw Z2 H2 yv y → P x y η2 → R xv yv H2) :
    liftE G ta σ H fun xv H1 => liftE G tb σ H1 fun yv H2 => R xv yv H2 := by
  refine step (P := fun v η1 => tb ρ η1 fun w η2 => onView v η2 fun x => onView w.fz η2 fun y => P x y η2) S s t fun xv v L1 Z1 η1 H1 S1 s1 E1 r1 t1 => ?_
  refine step (P := fun w η2 => onView v η2 fun x => onView w η2 fun y => P x y η2) S1 s1 t1 fun yv w L2 Z2 η2 H2 S2 s2 E2 r2 q => ?_
  obtain ⟨x, ex, q⟩ := onView_some q
  obtain ⟨y, ey, q⟩ := onView_some q
  exact k xv yv x y L2 Z2 η2 H2 S2 s2 (E1.trans E2) ((r1.ext E2 (view_nofr ex)).view S2 ex) (r2.view S2 ey) q
end

/-! ## operators -/
def opOf : Bop → Operator
  | .add => .Add | .sub => .Sub | .mul => .Mult | .fdiv => .FloorDiv | .mod => .Mod | .pow => .Pow
  | .band => .BitAnd | .bor => .BitOr | .bxor => .BitXor | .shl => .LShift | .shr => .RShift
theorem rd_lst {X : Cx} {pins : List (Addr × Obj)} {σ : SV} {H : Hp} {s : Shared} {l : Addr} {xs : List V} (I : Inv X pins σ H s) (h : Rd H l (.lst xs)) :
    xs.length ≤ sizeLine ∧ ∃ (vs : List Value) (n : Nat), Vals xs vs ∧ s.heap.get? l = some { cls := .type "list", data := .seq vs.toArray n } := by
  obtain ⟨z, its, n, r, e⟩ := h.ok I.hok
  exact ⟨z, its, n, r, e⟩
section
variable {X : Cx}
def rCatR : R2 := fun x y H Q => ∃ l b xs ys, x = .ref l ∧ y = .ref b ∧ Rd H l (.lst xs) ∧ Rd H b (.lst ys) ∧ xs.length + ys.length ≤ sizeLine ∧ ∀ p, H p = none → Q (.ref p) (upd H p (.lst (xs ++ ys)))
theorem op_catR : OpR X (binaryOp .Add) rCatR := by
  rintro pins s σ H x y v u Q I rx ry ⟨l, b, xs, ys, rfl, rfl, hl, hb, hz, q⟩
  cases rx; cases ry
  obtain ⟨_, vs, n, r, e⟩ := rd_lst I hl
  obtain ⟨_, ws, m, r', e'⟩ := rd_lst I hb
  have h1 := r.length
  have h2 := r'.length
  refine PySem.P.add_list e e' ?_ (by simp; omega)
  rw [show vs.toArray ++ ws.toArray = (vs ++ ws).toArray from by simp]
  exact ⟨.ref _, _, I.lnew (t' := s.toks) (r.append r') (by rw [List.length_append]; omega), rfl, q _ I.fresh⟩
def rRepR : R2 := fun x y H Q => ∃ l k xs, x = .ref l ∧ y = .int k ∧ Rd H l (.lst xs) ∧ (-(2 ^ 63) ≤ k ∧ k < 2 ^ 63 ∧ xs.length * k.toNat ≤ sizeLine) ∧
  ∀ p, H p = none → Q (.ref p) (upd H p (.lst (List.replicate k.toNat xs).flatten))
theorem rep_fold (vs : List Value) (m : Nat) : (List.replicate m vs.toArray).foldl (fun a b => a ++ b) #[] = (List.replicate m vs).flatten.toArray := by
  have g := foldl_rep vs m []
  simpa using g
theorem op_repR : OpR X (binaryOp .Mult) rRepR := by
  rintro pins s σ H x y v u Q I rx ry ⟨l, k, xs, rfl, rfl, hl, ⟨k1, k2, k3⟩, q⟩
  cases rx
  obtain ⟨t, rfl⟩ := ry
  obtain ⟨_, vs, n, r, e⟩ := rd_lst I hl
  have hn : vs.length = xs.length := r.length.symm
  have big : (sizeLine : Nat) ≤ (2 ^ 63 - 1) / 8 := by decide
  have g1 : ¬ (!Builtin.List.listFitsIndex k) = true := by rw [fitsIndex_both k1 k2]; simp
  have g2 : ¬ vs.toArray.size * k.toNat > (2 ^ 63 - 1) / 8 := by simp only [List.size_toArray, hn]; omega
  have g3 : ¬ Builtin.List.listTooLong (vs.toArray.size * k.toNat) = true := by
    rw [notLongL (by simp only [List.size_toArray, hn]; exact k3)]; simp
  have made : List.foldl (fun a b => a ++ b) #[] (List.replicate (if vs.toArray.isEmpty = true then 0 else k.toNat) vs.toArray) = (List.replicate k.toNat vs).flatten.toArray := by
    rw [rep_fold]
    cases vs with
    | nil => simp
    | cons a b => simp
  refine wpAny_binaryOp_repeat_ref (T := "list") (U := "int") (by decide) ⟨_, e, rfl⟩ (fun s' => typeIs_int s' k t) noFill_list_mul F.fills_int_mul F.slot_int_rmul repeat_list F.slot_int_index.lookup ?_
  refine call_meets F.slot_int_rmul (typeIs_int s k t) F.entry_int_rmul (F.args_int_rmul_2 _ _) (int___rmul___int_list k t l vs.toArray n) ⟨e, rfl, ⟨_, e, rfl⟩, ?_⟩
  refine call_meets F.slot_list_mul ⟨_, e, rfl⟩ F.entry_list_mul (F.args_list_mul_2 _ _) (AutoListH.list___mul___list_int_3 l vs.toArray n k t g1 g2 g3) ⟨e, ?_⟩
  rw [made]
  refine ⟨.ref _, _, I.lnew (t' := s.toks) (r.rep k.toNat) ?_, rfl, q _ I.fresh⟩
  rw [PyProof.Rows.lm_len_rep_flat, Nat.mul_comm]
  exact k3
/-! ### tuples: they are tracked with their objects (which have no dict of their own) -/
abbrev tupObj (us : List Value) : Obj := { cls := .type "tuple", data := .seq us.toArray }
theorem tup_laid {pins : List (Addr × Obj)} {σ : SV} {H : Hp} {s : Shared} {h' : Heap} {tk : Nat} {us : List Value} {xs : List V} {Q : VK} (I : Inv X pins σ H s) (k : ∀ b o, s.heap.get? b = some o → h'.get? b = some o) (r : Vals xs us) (hz : xs.length ≤ sizeLine)
    (q : ∀ p o, H p = none → o.dict = none → Q (.ref p) (upd H p (.frz o (.tup xs)))) : EP X pins σ Q (.ref h'.objs.size) { s with heap := h'.push (tupObj us), toks := tk } := by
  have I1 : Inv X pins σ H { s with heap := h' } := I.kept (t' := s.toks) k
  have hn : H h'.objs.size = none := I1.hok.fresh (Nat.le_refl _)
  refine ⟨.ref h'.objs.size, upd H h'.objs.size (.frz (tupObj us) (.tup xs)), ?_, rfl, q _ (tupObj us) hn rfl⟩
  exact I1.laid (t' := tk) (fun b o e => Heap.get?_push_of_some _ e) (Nat.le_refl _) ⟨Heap.get?_push_size _ rfl, hz, us, r, ⟨_, Heap.get?_push_size _ rfl, rfl, _, rfl⟩⟩
theorem rd_tup {pins : List (Addr × Obj)} {σ : SV} {H : Hp} {s : Shared} {l : Addr} {xs : List V} (I : Inv X pins σ H s) (h : Rd H l (.tup xs)) :
    xs.length ≤ sizeLine ∧ ∃ vs : List Value, Vals xs vs ∧ IsTup s.heap l vs.toArray := by
  obtain ⟨z, its, r, e⟩ := h.ok I.hok
  exact ⟨z, its, r, e⟩
def rCatF : R2 := fun x y H Q => ∃ a b xs ys, x = .ref a ∧ y = .ref b ∧ Rd H a (.tup xs) ∧ Rd H b (.tup ys) ∧ xs.length + ys.length ≤ sizeLine ∧
  (xs = [] → Q (.ref b) H) ∧ (xs ≠ [] → ys = [] → Q (.ref a) H) ∧ (xs ≠ [] → ys ≠ [] → ∀ p o, H p = none → o.dict = none → Q (.ref p) (upd H p (.frz o (.tup (xs ++ ys)))))
theorem op_catF : OpR X (binaryOp .Add) rCatF := by
  rintro pins s σ H x y v u Q I rx ry ⟨a, b, xs, ys, rfl, rfl, ha, hb, hz, q0, q1, q2⟩
  cases rx; cases ry
  obtain ⟨_, vs, r, pa⟩ := rd_tup I ha
  obtain ⟨_, ws, r', pb⟩ := rd_tup I hb
  have h1 := r.length
  have h2 := r'.length
  cases xs with
  | nil =>
    cases r
    exact cat_tup0 pa pb ⟨.ref b, _, I, rfl, q0 rfl⟩
  | cons c xs =>
    have nv : vs ≠ [] := fun e => by subst e; simp at h1
    refine HT.cat_tup pa pb nv (fun e => ?_) (fun e => ?_) (by omega)
    · subst e
      cases r'
      exact ⟨.ref a, _, I, rfl, q1 (by simp) rfl⟩
    · have ny : ys ≠ [] := fun z => e (by subst z; cases r'; rfl)
      exact tup_laid (tk := s.toks) I (fun _ _ e => e) (r.append r') (by rw [List.length_append]; exact hz) (q2 (by simp) ny)
def rSlF : V → Option Int → Option Int → Hp → VK → Prop := fun x lo hi H Q => ∃ a xs, x = .ref a ∧ Rd H a (.tup xs) ∧
  (HT.sIx xs.length 0 lo = 0 ∧ HT.sIx xs.length xs.length hi = xs.length → Q (.ref a) H) ∧ (¬ (HT.sIx xs.length 0 lo = 0 ∧ HT.sIx xs.length xs.length hi = xs.length) → ∀ p o, H p = none → o.dict = none → Q (.ref p) (upd H p (.frz o (.tup (cutV xs lo hi)))))
theorem sl_tupF : SlR X rSlF := by
  rintro pins s σ H x v vl vu lo hi sl Q I rx hs pl pu ⟨a, xs, rfl, hx, q1, q2⟩
  cases rx
  obtain ⟨hz, vs, r, ht⟩ := rd_tup I hx
  have hlen : vs.toArray.size = xs.length := by rw [List.size_toArray]; exact r.length.symm
  refine ⟨"tuple", _, PyProof.Rows.slot_tuple_getitem.lookup, ht.typeIs, ?_⟩
  by_cases hw : HT.sIx xs.length 0 lo = 0 ∧ HT.sIx xs.length xs.length hi = xs.length
  · exact getItem_tuple_whole ht hs pl pu (by rw [hlen]; exact hw) ⟨.ref a, _, I, rfl, q1 hw⟩
  · refine HT.getItem_tuple_cut ht hs pl pu (by rw [hlen]; exact hw) ?_ (by rw [hlen]; exact hz)
    rw [hlen]
    exact tup_laid (tk := s.toks) I (fun _ _ e => e) ((r.drop _).take _) (Nat.le_trans (cutV_length xs lo hi) hz) (q2 hw)
theorem call_tupF : CallR X (.type "tuple") (fun xs H Q => ∃ p ys, xs = [.ref p] ∧ ((Rd H p (.lst ys) ∧ ∀ l o, H l = none → o.dict = none → Q (.ref l) (upd H l (.frz o (.tup ys)))) ∨ (Rd H p (.tup ys) ∧ Q (.ref p) H))) := by
  rintro pins s σ H xs us Q I r ⟨p, ys, rfl, h⟩
  obtain ⟨u, rfl, rx⟩ := vals1 r
  cases rx
  rcases h with ⟨hq, q⟩ | ⟨hq, q⟩
  · obtain ⟨hz, vs, n, r', e⟩ := rd_lst I hq
    have hlen := r'.length
    refine call_tuple_list ⟨_, e, rfl, _, rfl⟩ (fun h' kp => ?_) (by simp only [List.size_toArray]; omega)
    exact tup_laid (tk := s.toks) I kp r' hz q
  · obtain ⟨hz, vs, r', pl⟩ := rd_tup I hq
    exact call_tuple_same pl ⟨.ref p, _, I, rfl, q⟩
def tTupF (t : TA) : TE := fun σ H Q => t σ H fun xs H1 => xs.length ≤ sizeLine ∧ ∀ p o, H1 p = none → o.dict = none → Q (.ref p) (upd H1 p (.frz o (.tup xs)))
theorem pe_tupF {es : List Expr} {t : TA} {k1 : Nat} {pos : Pos} (h : PA X es t) : PE X (.Tuple es k1 pos) (tTupF t) := by
  refine ⟨fun pins s σ H Q I hq => wpAny_Tuple_spliced (thn (h.run pos pins s σ H _ I hq) ?_)⟩
  rintro us s1 ⟨xs, H1, I1, r, z, q⟩
  exact ⟨by rw [← r.length]; exact z, tup_laid (tk := s1.toks) I1 (fun _ _ e => e) r z q⟩
def tTupRgF (te : SV → Hp → (Int → Int → Hp → Prop) → Prop) : TE := fun σ H Q => te σ H fun a b H1 => RgOk a b ∧ ∀ p o, H1 p = none → o.dict = none → Q (.ref p) (upd H1 p (.frz o (.tup (rgV a b))))
theorem pe_tupRgF {e : Expr} {te : SV → Hp → (Int → Int → Hp → Prop) → Prop} {p pos : Pos} (hc : X.calm = true) (hg : Gl X "tuple") (hm : X.mg "tuple" = none) (he : PRg X e te) (na : starEach [e] X.env = (false, eval e X.env) :: starEach [] X.env) :
    PE X (.Call (.Name "tuple" p) [e] [] pos) (tTupRgF te) := by
  refine ⟨fun pins s σ H Q I h => ?_⟩
  refine Call_ (ld_blt I hg hm boot_tuple (PyProof.Rows.callWith_type1 (args_cons (thn (he pins s σ H _ I h) ?_) na) na))
  rintro x s1 ⟨r, a, b, t, u, v, H1, rfl, hr, I1, ⟨b1, b2, b3, b4, b5⟩, q⟩
  refine args_nil (call_tuple_range (n := (b - a).toNat) (I1.ok.hd hc) hr (small_one b1 b2 b3 b4) (rangeSize_nat a b) b5 fun h' tk acc hk hi => ?_)
  have g := tup_laid (tk := tk) (us := acc.toList) I1 hk (vals_rg hi) (by rw [rgV_length, sizeLine_eq]; omega) q
  simpa only [Array.toArray_toList] using g
theorem tupMulOne (l : Addr) (items : Array Value) (n : Nat) (dd : Option Addr) (sl : Array (Option Value)) (u : Tok) :
    Meets (Builtin.«tuple.__mul__» ⟨[.ref l, .int 1 u], []⟩) (fun _ R s => s.heap.get? l = some { cls := .type "tuple", dict := dd, data := .seq items n, slots := sl } ∧ R (.ok (.ret (Value.ref l))) s) :=
  .of_wp fun prog w A R s h => by
    obtain ⟨hp, g, d, tk, os⟩ := s
    obtain ⟨hl, h⟩ := h
    have f1 := AutoSeq1.idx_int
    wp_walk using wpAny_loadPart' hl
    exact ⟨_, rfl, h⟩
theorem tupMulZero (l : Addr) (items : Array Value) (n : Nat) (dd : Option Addr) (sl : Array (Option Value)) (u : Tok) (hi : (items.isEmpty || (0 : Int) == 1) = false) :
    Meets (Builtin.«tuple.__mul__» ⟨[.ref l, .int 0 u], []⟩) (fun _ R s => s.heap.get? l = some { cls := .type "tuple", dict := dd, data := .seq items n, slots := sl } ∧
      R (.ok (.ret (Value.ref s.heap.objs.size))) { s with heap := s.heap.push { cls := Value.type "tuple", data := Data.seq #[] }, toks := s.toks }) :=
  .of_wp fun prog w A R s h => by
    obtain ⟨hp, g, d, tk, os⟩ := s
    obtain ⟨hl, h⟩ := h
    have f1 := AutoSeq1.idx_int
    wp_walk using wpAny_loadPart' hl
    repeat (first
      | (refine wpAny_ite_false (decide_eq_false (by rw [hi]; exact Bool.false_ne_true)) ?_; wp_walk using wpAny_loadPart' hl))
    exact ⟨_, rfl, h⟩
/-- a tuple some times -/
def rRepF : R2 := fun x y H Q => ∃ l k xs, x = .ref l ∧ y = .int k ∧ Rd H l (.tup xs) ∧ (xs ≠ [] ∧ 0 ≤ k ∧ k ≤ 1000 ∧ xs.length ≤ 1000) ∧
  (k = 1 → Q (.ref l) H) ∧ (k ≠ 1 → ∀ p o, H p = none → o.dict = none → Q (.ref p) (upd H p (.frz o (.tup (List.replicate k.toNat xs).flatten))))
theorem op_repF : OpR X (binaryOp .Mult) rRepF := by
  rintro pins s σ H x y v u Q I rx ry ⟨l, k, xs, rfl, rfl, hT, ⟨hne, h1, h2, hz⟩, q1, q2⟩
  cases rx
  obtain ⟨t, rfl⟩ := ry
  obtain ⟨_, vs, r, pa⟩ := rd_tup I hT
  obtain ⟨⟨cls, dd, data, sl⟩, ho, hc, n, hd⟩ := pa
  simp only at hc hd
  subst hc hd
  have hle : vs.length = xs.length := r.length.symm
  have hn : vs ≠ [] := fun e => hne (by
    rw [e] at hle
    exact List.eq_nil_of_length_eq_zero hle.symm)
  have hi : vs.toArray.isEmpty = false := by
    cases vs with
    | nil => exact absurd rfl hn
    | cons a b => rfl
  have hsz0 : vs.toArray.size = xs.length := by rw [List.size_toArray, hle]
  refine wpAny_binaryOp_repeat_ref (T := "tuple") (U := "int") (by decide) ⟨_, ho, rfl⟩ (fun s' => typeIs_int s' k t) noFill_tuple_mul F.fills_int_mul F.slot_int_rmul repeat_tuple F.slot_int_index.lookup
    (call_meets F.slot_int_rmul (typeIs_int s k t) F.entry_int_rmul (F.args_int_rmul_2 _ _) (int_rmul_tuple k t l vs.toArray n dd sl) ⟨ho, rfl, ⟨_, ho, rfl⟩, ?_⟩)
  by_cases hk : k = 1
  · subst hk
    exact call_meets F.slot_tuple_mul ⟨_, ho, rfl⟩ F.entry_tuple_mul (F.args_tuple_mul_2 _ _) (tupMulOne l vs.toArray n dd sl t) ⟨ho, ⟨.ref l, _, I, rfl, q1 rfl⟩⟩
  by_cases hk0 : k = 0
  · subst hk0
    have c1 : (vs.toArray.isEmpty || (0 : Int) == 1) = false := by rw [hi]; rfl
    refine call_meets F.slot_tuple_mul ⟨_, ho, rfl⟩ F.entry_tuple_mul (F.args_tuple_mul_2 _ _) (tupMulZero l vs.toArray n dd sl t c1) ⟨ho, ?_⟩
    exact tup_laid (tk := s.toks) (xs := []) (us := []) I (fun _ _ e => e) .nil (Nat.zero_le _) (q2 hk)
  · have hm : ((vs.toArray.size : Nat) : Int) * k ≤ 1000000 := by
      rw [hsz0]
      have a1 : ((xs.length : Nat) : Int) * k ≤ 1000 * k := Int.mul_le_mul_of_nonneg_right (by omega) (by omega)
      omega
    have flen : (List.replicate k.toNat vs).flatten.length ≤ sizeLine := by
      rw [PyProof.Rows.lm_len_rep_flat, hle, sizeLine_eq]
      have a1 : k.toNat * xs.length ≤ 1000 * 1000 := Nat.mul_le_mul (by omega) hz
      omega
    have c0 : (decide (k < -(2 ^ 63)) || decide (k ≥ 2 ^ 63)) = false := by
      rw [decide_eq_false (by omega), decide_eq_false (by omega)] <;> rfl
    have c1 : (vs.toArray.isEmpty || k == 1) = false := by
      rw [hi, Bool.false_or]
      exact beq_eq_false_iff_ne.mpr (by omega)
    have c2 : (decide (k ≤ 0) || vs.toArray.isEmpty) = false := by
      rw [hi, Bool.or_false]
      exact decide_eq_false (by omega)
    have c4 : Builtin.Tuple.tupleTooMany (((vs.toArray.size : Nat) : Int) * k) = false := by
      unfold Builtin.Tuple.tupleTooMany
      rw [sizeLine_eq]
      exact decide_eq_false (by omega)
    refine call_meets F.slot_tuple_mul ⟨_, ho, rfl⟩ F.entry_tuple_mul (F.args_tuple_mul_2 _ _) (tuple_mulW l vs.toArray n dd sl k t c0 c1 c2 (by omega) c4 (by rw [size_rep, List.size_toArray]; exact flen)) ⟨ho, ?_⟩
    rw [size_rep]
    exact tup_laid (tk := s.toks) I (fun _ _ e => e) (r.rep k.toNat) (by rw [← (r.rep k.toNat).length] at flen; exact flen) (q2 hk)
theorem op_mulI : OpR X (binaryOp .Mult) (rI IntMulOk fun i j => .int (i * j)) := opI fun _ _ _ _ _ _ _ hc q => mul_int q hc
theorem iop_mulI : OpR X (inplaceOp .Mult) (rI IntMulOk fun i j => .int (i * j)) := opI fun _ _ _ _ _ _ _ hc q => imul_int q hc
theorem MulOk.fits {i j : Int} (h : MulOk i j) : IntMulOk i j := by
  rcases h with h | h | h
  · exact CMul.ok (.inl h)
  · exact CMul.ok (.inr h)
  · exact h
theorem op_divI : OpR X (binaryOp .FloorDiv) (rI (fun i j => 0 < j ∧ DivOk i j) fun i j => .int (i / j)) := opI fun i j _ _ _ _ _ hc q => by
  have h1 : (0 : Int) < j := hc.1
  refine floordiv_int (by omega) (by rw [Int.fdiv_eq_ediv_of_nonneg i (by omega)]; exact q) (.inl ?_)
  rcases hc.2 with h2 | h2
  · exact PyProof.noPylong_small (by omega)
  · exact h2
theorem iop_divI : OpR X (inplaceOp .FloorDiv) (rI (fun i j => 0 < j ∧ DivOk i j) fun i j => .int (i / j)) := opI fun i j _ _ _ _ _ hc q => by
  have h1 : (0 : Int) < j := hc.1
  refine ifloordiv_int (by omega) (by rw [Int.fdiv_eq_ediv_of_nonneg i (by omega)]; exact q) (.inl ?_)
  rcases hc.2 with h2 | h2
  · exact PyProof.noPylong_small (by omega)
  · exact h2
def rBop (K : PySem.W.Frag) : Bop → R2
  | .add => fun x y H Q => rI0 (fun i j => .int (i + j)) x y H Q ∨ (∃ i j, x = .str i ∧ y = .str j ∧ i.length + j.length ≤ sizeLine ∧ Q (.str (i ++ j)) H) ∨ rCatF x y H Q ∨ rCatR x y H Q
  | .sub => rI0 fun i j => .int (i - j)
  | .mul => fun x y H Q => rI IntMulOk (fun i j => .int (i * j)) x y H Q ∨ rRepR x y H Q ∨ rRepF x y H Q
  | .fdiv => rI (fun i j => 0 < j ∧ DivOk i j) fun i j => .int (i / j)
  | .mod => rI (fun _ j => 0 < j) fun i j => .int (i % j)
  | .pow => rI CPow fun i j => .int (i ^ j.toNat)
  | .band => rI0 fun i j => .int (Builtin.bitAnd i j)
  | .bor => rI0 fun i j => .int (Builtin.bitOr i j)
  | .bxor => rI0 fun i j => .int (Builtin.bitXor i j)
  | .shl => fun x y H Q => rI CPow (fun i j => .int (i * 2 ^ j.toNat)) x y H Q ∨ rI CShl (fun i j => .int (i * 2 ^ j.toNat)) x y H Q
  | .shr => rI (fun _ j => 0 ≤ j) fun i j => .int (i / 2 ^ j.toNat)
theorem ok_bop : ∀ o : Bop, OpR X (binaryOp (opOf o)) (rBop X.K o)
  | .add => OpR.or op_add (OpR.or op_add_str (OpR.or op_catF op_catR))
  | .sub => op_sub
  | .mul => OpR.or op_mulI (OpR.or op_repR op_repF)
  | .fdiv => op_divI
  | .mod => op_mod
  | .pow => op_pow
  | .band => op_and
  | .bor => op_or
  | .bxor => op_xor
  | .shl => OpR.or op_shl op_shlW
  | .shr => op_shr
end
theorem Vw.flat {Z H : Hp} {x : V} {d : D} (h : Vw Z H x d) : (∀ i, d = .int i → x = .int i) ∧ (∀ i, d = .str i → x = .str i) ∧ (∀ i, d = .bool i → x = .bl i) ∧ (d = .none → x = .non) := by
  refine ⟨fun i e => ?_, fun i e => ?_, fun i e => ?_, fun e => ?_⟩
  · subst e; exact Rp.int_inv h
  · subst e; exact Rp.str_inv h
  · subst e; exact Rp.bl_inv h
  · subst e; exact Rp.non_inv h
theorem Vw.int {Z H : Hp} {x : V} {i : Int} (h : Vw Z H x (.int i)) : x = .int i := Rp.int_inv h
theorem Vw.str {Z H : Hp} {x : V} {i : Str} (h : Vw Z H x (.str i)) : x = .str i := Rp.str_inv h
theorem Vw.bl {Z H : Hp} {x : V} {i : Bool} (h : Vw Z H x (.bool i)) : x = .bl i := Rp.bl_inv h
theorem Vw.tup {Z H : Hp} {x : V} {ds : List D} (h : Vw Z H x (.tuple ds)) : ∃ a o xs, x = .ref a ∧ Z a = some (.frz o (.tup xs)) ∧ o.dict = none ∧ RpAll Z xs ds := by
  cases h with
  | tup h1 hd h2 => exact ⟨_, _, _, rfl, h1, hd, h2⟩

/-- what follows an operation that leaves the registers alone -/
def LC (G : Gh) (L : Loc) (Z : Hp) (η : Reg) (Qd : Vl → Prop) (Q : VK) : Prop := Cont G L Z (fun v η' => η' = η ∧ Qd v) Q
section
variable {X : Cx} {G : Gh} {L : Loc} {Z : Hp} {η : Reg} {H : Hp} {x y : V} {Qd : Vl → Prop} {Q : VK}
theorem LC.flat (k : LC G L Z η Qd Q) (S : SI G L Z η H) {d : D} (r : Rp Z x d) (q : Qd (.dat d)) : Q x H := Cont.dat k S r ⟨rfl, q⟩
theorem bop_ok {K : PySem.W.Frag} (S : SI G L Z η H) : ∀ (o : Bop) (a b : D), Vw Z H x a → Vw Z H y b → bopD o a b Qd → LC G L Z η Qd Q → rBop K o x y H Q := by
  intro o a b rx ry h k
  cases o with
  | add =>
    cases a <;> cases b <;> first | exact False.elim h | skip
    · cases rx.int; cases ry.int
      exact .inl ⟨_, _, rfl, rfl, k.flat S (.int _) h⟩
    · cases rx.str; cases ry.str
      exact .inr (.inl ⟨_, _, rfl, rfl, h.1, k.flat S (.str _) h.2⟩)
    · obtain ⟨hz, h⟩ := h
      obtain ⟨p, xs, rfl, hp, r1⟩ := rx
      obtain ⟨q, ys, rfl, hq, r2⟩ := ry
      refine .inr (.inr (.inr ⟨p, q, xs, ys, rfl, rfl, hp, hq, by rw [r1.length, r2.length]; exact hz, ?_⟩))
      exact Cont.lst k S (r1.append r2) ⟨rfl, h⟩
    · obtain ⟨hz, h⟩ := h
      obtain ⟨p, o1, xs, rfl, hp, d1, r1⟩ := rx.tup
      obtain ⟨q, o2, ys, rfl, hq, d2, r2⟩ := ry.tup
      refine .inr (.inr (.inl ⟨p, q, xs, ys, rfl, rfl, .inr ⟨_, S.zh _ _ hp⟩, .inr ⟨_, S.zh _ _ hq⟩, by rw [r1.length, r2.length]; exact hz, fun e => ?_, fun _ e => ?_, fun _ _ => ?_⟩))
      · subst e
        cases r1
        exact k.flat S (.tup hq d2 r2) h
      · subst e
        cases r2
        rw [List.append_nil] at h
        exact k.flat S (.tup hp d1 r1) h
      · exact Cont.tup k S (r1.append r2) ⟨rfl, h⟩
  | sub =>
    cases a <;> cases b <;> first | exact False.elim h | skip
    cases rx.int; cases ry.int
    exact ⟨_, _, rfl, rfl, k.flat S (.int _) h⟩
  | mul =>
    cases a <;> cases b <;> first | exact False.elim h | skip
    · cases rx.int; cases ry.int
      exact .inl ⟨_, _, rfl, rfl, h.1.fits, k.flat S (.int _) h.2⟩
    · cases ry.int
      obtain ⟨⟨k1, k2, k3⟩, h⟩ := h
      obtain ⟨p, xs, rfl, hp, r1⟩ := rx
      refine .inr (.inl ⟨p, _, xs, rfl, rfl, hp, ⟨k1, k2, by rw [r1.length]; exact k3⟩, ?_⟩)
      exact Cont.lst k S (r1.rep _) ⟨rfl, h⟩
    · cases ry.int
      obtain ⟨⟨k1, k2, k3, k4⟩, h⟩ := h
      obtain ⟨p, o1, xs, rfl, hp, d1, r1⟩ := rx.tup
      refine .inr (.inr ⟨p, _, xs, rfl, rfl, .inr ⟨_, S.zh _ _ hp⟩, ⟨fun e => k1 ?_, k2, k3, by rw [r1.length]; exact k4⟩, fun e => ?_, fun _ => ?_⟩)
      · subst e
        cases r1
        rfl
      · subst e
        refine k.flat S (.tup hp d1 ?_) h
        simpa using r1
      · exact Cont.tup k S (r1.rep _) ⟨rfl, h⟩
  | fdiv =>
    cases a <;> cases b <;> first | exact False.elim h | skip
    cases rx.int; cases ry.int
    exact ⟨_, _, rfl, rfl, h.1, k.flat S (.int _) h.2⟩
  | mod =>
    cases a <;> cases b <;> first | exact False.elim h | skip
    cases rx.int; cases ry.int
    exact ⟨_, _, rfl, rfl, h.1, k.flat S (.int _) h.2⟩
  | pow =>
    cases a <;> cases b <;> first | exact False.elim h | skip
    cases rx.int; cases ry.int
    exact ⟨_, _, rfl, rfl, h.1, k.flat S (.int _) h.2⟩
  | band =>
    cases a <;> cases b <;> first | exact False.elim h | skip
    cases rx.int; cases ry.int
    exact ⟨_, _, rfl, rfl, k.flat S (.int _) h⟩
  | bor =>
    cases a <;> cases b <;> first | exact False.elim h | skip
    cases rx.int; cases ry.int
    exact ⟨_, _, rfl, rfl, k.flat S (.int _) h⟩
  | bxor =>
    cases a <;> cases b <;> first | exact False.elim h | skip
    cases rx.int; cases ry.int
    exact ⟨_, _, rfl, rfl, k.flat S (.int _) h⟩
  | shl =>
    cases a <;> cases b <;> first | exact False.elim h | skip
    cases rx.int; cases ry.int
    obtain ⟨⟨h0, h1⟩, h⟩ := h
    rcases h1 with ⟨h1, h2⟩ | h1
    · exact .inl ⟨_, _, rfl, rfl, ⟨h0, h1, h2⟩, k.flat S (.int _) h⟩
    · exact .inr ⟨_, _, rfl, rfl, ⟨h0, h1⟩, k.flat S (.int _) h⟩
  | shr =>
    cases a <;> cases b <;> first | exact False.elim h | skip
    cases rx.int; cases ry.int
    exact ⟨_, _, rfl, rfl, h.1, k.flat S (.int _) h.2⟩
theorem le_bop {ta tb : LTE} {a b : Expr} {pos : Pos} (o : Bop) (ha : LE X G a ta) (hb : LE X G b tb) :
    LE X G (.BinOp a (opOf o) b pos) (fun ρ η Q => ta ρ η fun v η1 => tb ρ η1 fun w η2 => onView v.fz η2 fun x => onView w.fz η2 fun y => bopD o x y fun r => Q r η2) := by
  refine (pe_op (ok_bop o) ha hb).weak ?_
  rintro σ H Q ⟨ρ, L, Z, η, Qp, S, s, t, k⟩
  refine step2 (P := fun x y η2 => bopD o x y fun r => Qp r η2) S s t fun xv yv x y L2 Z2 η2 H2 S2 s2 E rx ry q => ?_
  refine bop_ok S2 o x y rx ry q fun x v L' Z' η' H' S' E' r q => ?_
  obtain ⟨rfl, q⟩ := q
  exact k x v L' Z' _ H' S' (E.trans E') r q
end
end Pl

namespace Pl
open PySem PySem.Spec PyProof.Rows L2

section
variable {X : Cx} {G : Gh} {L : Loc} {Z : Hp} {η : Reg} {H : Hp} {x y : V} {Qd : Vl → Prop} {Q : VK}
/-! ## names and constants -/
theorem le_var {Γ : Env} {i : Nat} {n : Str} {pos : Pos} (hN : X.N[i]? = some n) (hv : Vis X.env.scope n) (hd : (n == ("__debug__" : Str)) = false) (hc : (n == ("__classdict__" : Str)) = false) :
    LE X G (.Name n pos) (wE Γ (.var i)) := by
  refine (pe_var hN hv hd hc).weak ?_
  rintro σ H Q ⟨ρ, L, Z, η, Qp, S, s, t, k⟩
  simp only [wE] at t
  cases e : ρ[i]? with
  | none => rw [e] at t; exact False.elim t
  | some o =>
    rw [e] at t
    obtain ⟨u, hu, r⟩ := s.get e
    cases o with
    | none => exact False.elim t
    | some v =>
      cases v with
      | dat d =>
        obtain ⟨w, rfl, r⟩ := r
        exact ⟨w, hu, k w (.dat d) L Z η H S Ext.refl r t⟩
      | ptr n =>
        obtain ⟨a, ks, h1, rfl⟩ := r
        exact ⟨_, hu, k _ (.ptr n) L Z η H S Ext.refl ⟨a, ks, h1, rfl⟩ t⟩
      | fr o => exact False.elim r
theorem le_const {Γ : Env} {e : Expr} {v : V} {d : D} (h : PE X e (tC v)) (r : ∀ H : Hp, Rp H v d) {w : LTE} (hw : w = fun _ η Q => Q (.dat d) η) : LE X G e w := by
  subst hw
  refine h.weak ?_
  rintro σ H Q ⟨ρ, L, Z, η, Qp, S, s, t, k⟩
  exact k v (.dat d) L Z η H S Ext.refl (r Z) t

/-! ## comparisons -/
def copOf : Cop → CmpOp
  | .eq => .Eq | .ne => .NotEq | .lt => .Lt | .le => .LtE | .gt => .Gt | .ge => .GtE | .isin => .In | .notin => .NotIn | .isnone => .Is | .notnone => .IsNot
def rEqP : R2 := fun x y H Q => ∃ d e, Rp H x d ∧ Rp H y e ∧ (d.depth ≤ 60 ∨ e.depth ≤ 60) ∧ Q (.bl (PyData.eqv d e)) H
def rNeP : R2 := fun x y H Q => ∃ d e, Rp H x d ∧ Rp H y e ∧ (d.depth ≤ 60 ∨ e.depth ≤ 60) ∧ Q (.bl (!PyData.eqv d e)) H
theorem op_eqP (hu : X.A.units + 64 < cLine) : OpR X (compareOp .Eq) rEqP := by
  rintro pins s σ H x y v u Q I rx ry ⟨d, e, hd, he, sz, q⟩
  obtain ⟨as, r1⟩ := Dp.reads I d x v (Rp.dp _ _ hd) rx
  obtain ⟨bs, r2⟩ := Dp.reads I e y u (Rp.dp _ _ he) ry
  exact SeqAt.eq_plain r1 r2 (Rp.plain _ _ hd) (Rp.plain _ _ he) (by omega) ⟨.bl _, H, I, rfl, q⟩
theorem op_neP (hu : X.A.units + 64 < cLine) : OpR X (compareOp .NotEq) rNeP := by
  rintro pins s σ H x y v u Q I rx ry ⟨d, e, hd, he, sz, q⟩
  obtain ⟨as, r1⟩ := Dp.reads I d x v (Rp.dp _ _ hd) rx
  obtain ⟨bs, r2⟩ := Dp.reads I e y u (Rp.dp _ _ he) ry
  exact SeqAt.ne_plain r1 r2 (Rp.plain _ _ hd) (Rp.plain _ _ he) (by omega) ⟨.bl _, H, I, rfl, q⟩
def rInP (neg : Bool) : R2 := fun x y H Q => ∃ d ys, Rp H x d ∧ (Rp H y (.list ys) ∨ Rp H y (.tuple ys)) ∧ (PyData.depthAll ys ≤ 60 ∨ d.depth ≤ 60) ∧
  Q (.bl (if neg then !(ys.any fun y => PyData.eqv y d) else ys.any fun y => PyData.eqv y d)) H
theorem op_inP (hu : X.A.units + 64 < cLine) : OpR X (compareOp .In) (rInP false) := by
  rintro pins s σ H x y v u Q I rx ry ⟨d, ys, hd, hy, sz, q⟩
  obtain ⟨as, r1⟩ := Dp.reads I d x v (Rp.dp _ _ hd) rx
  rcases hy with hy | hy
  · obtain ⟨bs, r2⟩ := Dp.reads I _ y u (Rp.dp _ _ hy) ry
    have pl := Rp.plain _ _ hy
    rw [PyData.plain] at pl
    exact SeqAt.in_list_data r2 r1 pl (Rp.plain _ _ hd) (by omega) ⟨.bl _, H, I, rfl, q⟩
  · obtain ⟨bs, r2⟩ := Dp.reads I _ y u (Rp.dp _ _ hy) ry
    have pl := Rp.plain _ _ hy
    rw [PyData.plain] at pl
    exact SeqAt.in_tuple_data r2 r1 pl (Rp.plain _ _ hd) (by omega) ⟨.bl _, H, I, rfl, q⟩
theorem op_notinP (hu : X.A.units + 64 < cLine) : OpR X (compareOp .NotIn) (rInP true) := by
  rintro pins s σ H x y v u Q I rx ry ⟨d, ys, hd, hy, sz, q⟩
  obtain ⟨as, r1⟩ := Dp.reads I d x v (Rp.dp _ _ hd) rx
  rcases hy with hy | hy
  · obtain ⟨bs, r2⟩ := Dp.reads I _ y u (Rp.dp _ _ hy) ry
    have pl := Rp.plain _ _ hy
    rw [PyData.plain] at pl
    exact SeqAt.notIn_list_data r2 r1 pl (Rp.plain _ _ hd) (by omega) ⟨.bl _, H, I, rfl, q⟩
  · obtain ⟨bs, r2⟩ := Dp.reads I _ y u (Rp.dp _ _ hy) ry
    have pl := Rp.plain _ _ hy
    rw [PyData.plain] at pl
    exact SeqAt.notIn_tuple_data r2 r1 pl (Rp.plain _ _ hd) (by omega) ⟨.bl _, H, I, rfl, q⟩
def rCop : Cop → R2
  | .eq => rEqP
  | .ne => rNeP
  | .lt => fun x y H Q => rI0 (fun i j => .bl (decide (i < j))) x y H Q ∨ ∃ i j, x = .str i ∧ y = .str j ∧ Q (.bl (decide (i.cps.toList < j.cps.toList))) H
  | .le => rI0 fun i j => .bl (decide (i ≤ j))
  | .gt => rI0 fun i j => .bl (decide (j < i))
  | .ge => rI0 fun i j => .bl (decide (j ≤ i))
  | .isin => fun x y H Q => (∃ (c : Nat) (z : Str), x = .str ⟨#[c]⟩ ∧ y = .str z ∧ Q (.bl (decide (c ∈ z.cps.toList))) H) ∨ rInP false x y H Q
  | .notin => fun x y H Q => (∃ (c : Nat) (z : Str), x = .str ⟨#[c]⟩ ∧ y = .str z ∧ Q (.bl (!decide (c ∈ z.cps.toList))) H) ∨ rInP true x y H Q
  | .isnone => fun x y H Q => (y = .non ∧ Q (.bl (decide (x = .non))) H) ∨ ∃ a b, x = .bl a ∧ y = .bl b ∧ Q (.bl (a == b)) H
  | .notnone => fun x y H Q => (y = .non ∧ Q (.bl (!decide (x = .non))) H) ∨ ∃ a b, x = .bl a ∧ y = .bl b ∧ Q (.bl (a != b)) H
theorem op_isB : OpR X (compareOp .Is) fun x y H Q => ∃ a b, x = .bl a ∧ y = .bl b ∧ Q (.bl (a == b)) H := by
  rintro pins s σ H x y v u Q I rx ry ⟨a, b, rfl, rfl, q⟩
  cases rx
  cases ry
  exact PyProof.Rows.is_bool ⟨.bl _, H, I, rfl, q⟩
theorem op_isNB : OpR X (compareOp .IsNot) fun x y H Q => ∃ a b, x = .bl a ∧ y = .bl b ∧ Q (.bl (a != b)) H := by
  rintro pins s σ H x y v u Q I rx ry ⟨a, b, rfl, rfl, q⟩
  cases rx
  cases ry
  exact PyProof.Rows.isnot_bool ⟨.bl _, H, I, rfl, q⟩
theorem ok_cop (hu : X.A.units + 64 < cLine) : ∀ o : Cop, OpR X (compareOp (copOf o)) (rCop o)
  | .eq => op_eqP hu
  | .ne => op_neP hu
  | .lt => OpR.or op_lt op_lt_str
  | .le => op_le
  | .gt => op_gt
  | .ge => op_ge
  | .isin => OpR.or op_in_sign (op_inP hu)
  | .notin => OpR.or op_notIn_sign (op_notinP hu)
  | .isnone => OpR.or op_isN op_isB
  | .notnone => OpR.or op_notN op_isNB
theorem isNone_of {Z : Hp} {x : V} {d : D} (h : Rp Z x d) : decide (x = .non) = isNone d := by
  cases h <;> rfl
theorem cop_ok (S : SI G L Z η H) : ∀ (o : Cop) (a b : D), Vw Z H x a → Vw Z H y b → cmpD o a b (fun r => Qd (.dat (.bool r))) → LC G L Z η Qd Q → rCop o x y H Q := by
  intro o a b rx ry h k
  have hin : ∀ (neg : Bool) (ys : List D), (Rp H y (.list ys) ∨ Rp H y (.tuple ys)) → ((PyData.depthAll ys ≤ 60 ∨ a.depth ≤ 60) ∧ Qd (.dat (.bool (if neg then !(ys.any fun y => PyData.eqv y a) else ys.any fun y => PyData.eqv y a)))) → rInP neg x y H Q :=
    fun neg ys hy ⟨h1, h2⟩ => ⟨a, ys, rx.rp S.zh, hy, h1, k.flat S (.bl _) h2⟩
  have rb := ry.rp S.zh
  cases o with
  | eq => exact ⟨a, b, rx.rp S.zh, rb, h.1, k.flat S (.bl _) h.2⟩
  | ne => exact ⟨a, b, rx.rp S.zh, rb, h.1, k.flat S (.bl _) h.2⟩
  | lt =>
    cases a <;> cases b <;> first | exact False.elim h | skip
    · cases rx.int; cases ry.int
      exact .inl ⟨_, _, rfl, rfl, k.flat S (.bl _) h⟩
    · cases rx.str; cases ry.str
      exact .inr ⟨_, _, rfl, rfl, k.flat S (.bl _) h⟩
  | le =>
    cases a <;> cases b <;> first | exact False.elim h | skip
    cases rx.int; cases ry.int
    exact ⟨_, _, rfl, rfl, k.flat S (.bl _) h⟩
  | gt =>
    cases a <;> cases b <;> first | exact False.elim h | skip
    cases rx.int; cases ry.int
    exact ⟨_, _, rfl, rfl, k.flat S (.bl _) h⟩
  | ge =>
    cases a <;> cases b <;> first | exact False.elim h | skip
    cases rx.int; cases ry.int
    exact ⟨_, _, rfl, rfl, k.flat S (.bl _) h⟩
  | isin =>
    cases b with
    | list ys => exact .inr (hin false ys (.inl rb) (by cases a <;> exact h))
    | tuple ys => exact .inr (hin false ys (.inr rb) (by cases a <;> exact h))
    | str z =>
      cases a <;> first | exact False.elim h | skip
      obtain ⟨c, rfl, h⟩ := h
      cases rx.str; cases ry.str
      exact .inl ⟨c, z, rfl, rfl, k.flat S (.bl _) h⟩
    | _ => cases a <;> exact False.elim h
  | notin =>
    cases b with
    | list ys => exact .inr (hin true ys (.inl rb) (by cases a <;> exact h))
    | tuple ys => exact .inr (hin true ys (.inr rb) (by cases a <;> exact h))
    | str z =>
      cases a <;> first | exact False.elim h | skip
      obtain ⟨c, rfl, h⟩ := h
      cases rx.str; cases ry.str
      exact .inl ⟨c, z, rfl, rfl, k.flat S (.bl _) h⟩
    | _ => cases a <;> exact False.elim h
  | isnone =>
    cases b with
    | none =>
      refine .inl ⟨Rp.non_inv rb, ?_⟩
      rw [isNone_of (rx.rp S.zh)]
      exact k.flat S (.bl _) (by cases a <;> exact h)
    | bool b =>
      cases a <;> first | exact False.elim h | skip
      exact .inr ⟨_, _, Rp.bl_inv (rx.rp S.zh), Rp.bl_inv rb, k.flat S (.bl _) h⟩
    | _ => cases a <;> exact False.elim h
  | notnone =>
    cases b with
    | none =>
      refine .inl ⟨Rp.non_inv rb, ?_⟩
      rw [isNone_of (rx.rp S.zh)]
      exact k.flat S (.bl _) (by cases a <;> exact h)
    | bool b =>
      cases a <;> first | exact False.elim h | skip
      exact .inr ⟨_, _, Rp.bl_inv (rx.rp S.zh), Rp.bl_inv rb, k.flat S (.bl _) h⟩
    | _ => cases a <;> exact False.elim h

/-! ## values that are tests -/
theorem liftT_as {ta : LTE} {σ : SV} {H : Hp} {Q : Bool → Hp → Prop} (h : liftT G (asT ta) σ H Q) : liftE G ta σ H fun x H' => ∃ k, x = .bl k ∧ Q k H' := by
  obtain ⟨ρ, L, Z, η, Qp, S, s, t, k⟩ := h
  refine step' S s t fun x v L1 Z1 η1 H1 S1 s1 E1 r1 q => ?_
  cases v with
  | dat d =>
    cases d <;> first | exact False.elim q | skip
    exact ⟨_, Rp.bl_inv r1, k _ L1 Z1 η1 H1 S1 E1 q⟩
  | ptr n => exact False.elim q
  | fr o => exact False.elim q
/-- an expression's lifted reading serves as a test's -/
theorem lt_of {e : Expr} {w : LTE} {t : TE} (h : PT X e (tB t)) (hw : ∀ σ H Q, liftE G w σ H Q → t σ H Q) : LT X G e (asT w) := h.weak fun σ H Q q => hw σ H _ (liftT_as q)
theorem lt_val {e : Expr} {w : LTE} (h : LE X G e w) (he : ∀ whole, isTrue e X.env whole = (do let v ← whole; standAt e.pos; holding [v] (truthy v))) : LT X G e (asT w) := lt_of (pt_val h he) fun _ _ _ q => q
def cmpW (o : Cop) (ta tb : LTE) : LTE := fun ρ η Q => ta ρ η fun v η1 => tb ρ η1 fun w η2 => onView v.fz η2 fun x => onView w.fz η2 fun y => cmpD o x y fun r => Q (.dat (.bool r)) η2
theorem cmpW_low {ta tb : LTE} (o : Cop) : ∀ σ H Q, liftE G (cmpW o ta tb) σ H Q → tOp (rCop o) (liftE G ta) (liftE G tb) σ H Q := by
  rintro σ H Q ⟨ρ, L, Z, η, Qp, S, s, t, k⟩
  refine step2 (P := fun x y η2 => cmpD o x y fun r => Qp (.dat (.bool r)) η2) S s t fun xv yv x y L2 Z2 η2 H2 S2 s2 E rx ry q => ?_
  refine cop_ok (Qd := fun v => Qp v η2) S2 o x y rx ry q fun x v L' Z' η' H' S' E' r q => ?_
  obtain ⟨rfl, q⟩ := q
  exact k x v L' Z' _ H' S' (E.trans E') r q
theorem le_cmp {ta tb : LTE} {a b : Expr} {pos : Pos} (hu : X.A.units + 64 < cLine) (o : Cop) (ha : LE X G a ta) (hb : LE X G b tb) (hm : behindInMarks (copOf o) b = false) :
    LE X G (.Compare a [copOf o] [b] pos) (cmpW o ta tb) ∧ LT X G (.Compare a [copOf o] [b] pos) (asT (cmpW o ta tb)) :=
  ⟨(pe_cmpR (ok_cop hu o) ha hb hm).weak (cmpW_low o), lt_of (pt_cmpR (ok_cop hu o) ha hb hm) (cmpW_low o)⟩
def chnW (o p : Cop) (ta tb tc : LTE) : LTE := fun ρ η Q => ta ρ η fun v η1 => tb ρ η1 fun w η2 => onView v.fz η2 fun x => onView w.fz η2 fun y => cmpD o x y fun r =>
    if r = true then tc ρ η2 fun u η3 => onView w.fz η3 fun y => onView u.fz η3 fun z => cmpD p y z fun q => Q (.dat (.bool q)) η3 else Q (.dat (.bool false)) η2
theorem chnW_low {ta tb tc : LTE} (o p : Cop) : ∀ σ H Q, liftE G (chnW o p ta tb tc) σ H Q → tChain (rCop o) (rCop p) (liftE G ta) (liftE G tb) (liftE G tc) σ H Q := by
  rintro σ H Q ⟨ρ, L, Z, η, Qp, S, s, t, k⟩
  unfold chnW at t
  refine step (P := fun v η1 => tb ρ η1 fun w η2 => onView v η2 fun x => onView w.fz η2 fun y => cmpD o x y fun r =>
    if r = true then tc ρ η2 fun u η3 => onView w.fz η3 fun y => onView u.fz η3 fun z => cmpD p y z fun q => Qp (.dat (.bool q)) η3 else Qp (.dat (.bool false)) η2) S s t fun xv v L1 Z1 η1 H1 S1 s1 E1 r1 t1 => ?_
  refine step (P := fun w η2 => onView v η2 fun x => onView w η2 fun y => cmpD o x y fun r =>
    if r = true then tc ρ η2 fun u η3 => onView w η3 fun y => onView u.fz η3 fun z => cmpD p y z fun q => Qp (.dat (.bool q)) η3 else Qp (.dat (.bool false)) η2) S1 s1 t1 fun yv w L2 Z2 η2 H2 S2 s2 E2 r2 q => ?_
  obtain ⟨x, ex, q⟩ := onView_some q
  obtain ⟨y, ey, q⟩ := onView_some q
  refine cop_ok (Qd := fun v => match v with
    | .dat (.bool r) => if r = true then tc ρ η2 fun u η3 => onView w η3 fun y => onView u.fz η3 fun z => cmpD p y z fun q => Qp (.dat (.bool q)) η3 else Qp (.dat (.bool false)) η2
    | _ => False) S2 o x y ((r1.ext E2 (view_nofr ex)).view S2 ex) (r2.view S2 ey) q fun z v' L' Z' η' H' S' E' r q => ?_
  obtain ⟨rfl, q⟩ := q
  cases v' with
  | dat d =>
    cases d <;> first | exact False.elim q | skip
    rename_i b
    refine ⟨b, Rp.bl_inv r, ?_⟩
    have E3 : Ext L Z L' Z' := (E1.trans E2).trans E'
    cases b with
    | false => exact k _ (.dat (.bool false)) L' Z' _ _ S' E3 (.bl _) q
    | true =>
      refine step (P := fun u η3 => onView w η3 fun y => onView u η3 fun z => cmpD p y z fun q => Qp (.dat (.bool q)) η3) S' (s2.ext E') q fun zv u L4 Z4 η4 H4 S4 s4 E4 r4 q => ?_
      obtain ⟨y', ey', q⟩ := onView_some q
      obtain ⟨z', ez', q⟩ := onView_some q
      refine cop_ok (Qd := fun v => Qp v η4) S4 p y' z' ((r2.ext (E'.trans E4) (view_nofr ey')).view S4 ey') (r4.view S4 ez') q fun x v L5 Z5 η5 H5 S5 E5 r q => ?_
      obtain ⟨rfl, q⟩ := q
      exact k x v L5 Z5 _ _ S5 ((E3.trans E4).trans E5) r q
  | ptr n => exact False.elim q
  | fr o => exact False.elim q
theorem le_chn {ta tb tc : LTE} {a b c : Expr} {pos : Pos} (hu : X.A.units + 64 < cLine) (o p : Cop) (ha : LE X G a ta) (hb : LE X G b tb) (hc : LE X G c tc) (hm : lastMarks [copOf o, copOf p] [b, c] = false) :
    LE X G (.Compare a [copOf o, copOf p] [b, c] pos) (chnW o p ta tb tc) ∧ LT X G (.Compare a [copOf o, copOf p] [b, c] pos) (asT (chnW o p ta tb tc)) :=
  ⟨(pe_chain (ok_cop hu o) (ok_cop hu p) ha hb hc hm).weak (chnW_low o p), lt_of (pt_chain (ok_cop hu o) (ok_cop hu p) ha hb hc hm) (chnW_low o p)⟩

/-! three comparisons in a row -/
def tChain3 (r r' r2 : R2) (ta tb tc td : TE) : TE := fun σ H Q => ta σ H fun x H1 => tb σ H1 fun y H2 => r x y H2 fun z H3 => ∃ k, z = .bl k ∧
  (if k = true then tc σ H3 fun w' H4 => r' y w' H4 fun z' H5 => ∃ k', z' = .bl k' ∧ (if k' = true then td σ H5 fun u' H6 => r2 w' u' H6 Q else Q (.bl false) H5) else Q (.bl false) H3)
theorem pe_chain3 {op op' op2 : CmpOp} {r r' r2 : R2} {a b c d : Expr} {ta tb tc td : TE} {pos : Pos} (ho : OpR X (compareOp op) r) (ho' : OpR X (compareOp op') r') (ho2 : OpR X (compareOp op2) r2) (ha : PE X a ta) (hb : PE X b tb) (hc : PE X c tc) (hd : PE X d td)
    (hm : lastMarks [op, op', op2] [b, c, d] = false) : PE X (.Compare a [op, op', op2] [b, c, d] pos) (tChain3 r r' r2 ta tb tc td) := by
  refine ⟨fun pins s σ H Q I h => ?_⟩
  refine PyProof.Rows.Compare_chain (thn (ha.run pins s σ H _ I h) fun v s1 ⟨x, H1, I1, r1, q1⟩ => PyProof.Rows.chain_link (thn (hb.run pins s1 σ H1 _ I1 q1) fun u s2 ⟨y, H2, I2, r2', q2⟩ =>
    thn (ho pins s2 σ H2 x y v u _ I2 r1 r2' q2) fun d' s3 ⟨z, H3, I3, r3, k, e, q3⟩ => ?_)) hm
  subst e
  cases r3
  refine wpAny_truthy_bool ?_
  cases k with
  | false => exact ite_ff ⟨.bl false, H3, I3, rfl, q3⟩
  | true =>
    refine ite_tt (PyProof.Rows.chain_link (thn (hc.run pins s3 σ H3 _ I3 q3) fun w' s4 ⟨z', H4, I4, r4, q4⟩ => thn (ho' pins s4 σ H4 y z' u w' _ I4 r2' r4 q4) fun d2 s5 ⟨z2, H5, I5, r5, k2, e2, q5⟩ => ?_))
    subst e2
    cases r5
    refine wpAny_truthy_bool ?_
    cases k2 with
    | false => exact ite_ff ⟨.bl false, H5, I5, rfl, q5⟩
    | true => exact ite_tt (PyProof.Rows.chain_last (thn (hd.run pins s5 σ H5 _ I5 q5) fun w2 s6 ⟨z3, H6, I6, r6, q6⟩ => ho2 pins s6 σ H6 z' z3 w' w2 Q I6 r4 r6 q6))
theorem pt_chain3 {op op' op2 : CmpOp} {r r' r2 : R2} {a b c d : Expr} {ta tb tc td : TE} {pos : Pos} (ho : OpR X (compareOp op) r) (ho' : OpR X (compareOp op') r') (ho2 : OpR X (compareOp op2) r2) (ha : PE X a ta) (hb : PE X b tb) (hc : PE X c tc) (hd : PE X d td)
    (hm : lastMarks [op, op', op2] [b, c, d] = false) : PT X (.Compare a [op, op', op2] [b, c, d] pos) (tTest (tChain3 r r' r2 ta tb tc td)) := by
  refine ⟨fun pins s σ H Q I h => ?_⟩
  refine PyProof.Rows.isTrue_chain (thn (ha.run pins s σ H _ I h) fun v s1 ⟨x, H1, I1, r1, q1⟩ => PyProof.Rows.test_link (thn (hb.run pins s1 σ H1 _ I1 q1) fun u s2 ⟨y, H2, I2, r2', q2⟩ =>
    thn (ho pins s2 σ H2 x y v u _ I2 r1 r2' q2) fun d' s3 ⟨z, H3, I3, r3, k, e, q3⟩ => ?_)) hm
  subst e
  cases r3
  refine wpAny_truthy_bool ?_
  cases k with
  | false =>
    obtain ⟨k', e', q'⟩ := q3
    cases e'
    exact ite_ff ⟨H3, I3, q'⟩
  | true =>
    refine ite_tt (PyProof.Rows.test_link (thn (hc.run pins s3 σ H3 _ I3 q3) fun w' s4 ⟨z', H4, I4, r4, q4⟩ => thn (ho' pins s4 σ H4 y z' u w' _ I4 r2' r4 q4) fun d2 s5 ⟨z2, H5, I5, r5, k2, e2, q5⟩ => ?_))
    subst e2
    cases r5
    refine wpAny_truthy_bool ?_
    cases k2 with
    | false =>
      obtain ⟨k', e', q'⟩ := q5
      cases e'
      exact ite_ff ⟨H5, I5, q'⟩
    | true =>
      refine ite_tt (PyProof.Rows.test_last (thn (hd.run pins s5 σ H5 _ I5 q5) fun w2 s6 ⟨z3, H6, I6, r6, q6⟩ => thn (ho2 pins s6 σ H6 z' z3 w' w2 _ I6 r4 r6 q6) fun d3 s7 ⟨z4, H7, I7, r7, k3, e3, q7⟩ => ?_))
      subst e3
      cases r7
      exact wpAny_truthy_bool ⟨H7, I7, q7⟩
def chnW3 (o p q : Cop) (ta tb tc td : LTE) : LTE := fun ρ η Q => ta ρ η fun v η1 => tb ρ η1 fun w η2 => onView v.fz η2 fun x => onView w.fz η2 fun y => cmpD o x y fun r =>
    if r = true then tc ρ η2 fun u η3 => onView w.fz η3 fun y => onView u.fz η3 fun z => cmpD p y z fun r =>
      if r = true then td ρ η3 fun t η4 => onView u.fz η4 fun z => onView t.fz η4 fun z' => cmpD q z z' fun r => Q (.dat (.bool r)) η4 else Q (.dat (.bool false)) η3
    else Q (.dat (.bool false)) η2
theorem chnW3_low {ta tb tc td : LTE} (o p q : Cop) : ∀ σ H Q, liftE G (chnW3 o p q ta tb tc td) σ H Q → tChain3 (rCop o) (rCop p) (rCop q) (liftE G ta) (liftE G tb) (liftE G tc) (liftE G td) σ H Q := by
  rintro σ H Q ⟨ρ, L, Z, η, Qp, S, s, t, k⟩
  unfold chnW3 at t
  refine step (P := fun v η1 => tb ρ η1 fun w η2 => onView v η2 fun x => onView w.fz η2 fun y => cmpD o x y fun r =>
    if r = true then tc ρ η2 fun u η3 => onView w.fz η3 fun y => onView u.fz η3 fun z => cmpD p y z fun r =>
      if r = true then td ρ η3 fun t η4 => onView u.fz η4 fun z => onView t.fz η4 fun z' => cmpD q z z' fun r => Qp (.dat (.bool r)) η4 else Qp (.dat (.bool false)) η3
    else Qp (.dat (.bool false)) η2) S s t fun xv v L1 Z1 η1 H1 S1 s1 E1 r1 t1 => ?_
  refine step (P := fun w η2 => onView v η2 fun x => onView w η2 fun y => cmpD o x y fun r =>
    if r = true then tc ρ η2 fun u η3 => onView w η3 fun y => onView u.fz η3 fun z => cmpD p y z fun r =>
      if r = true then td ρ η3 fun t η4 => onView u.fz η4 fun z => onView t.fz η4 fun z' => cmpD q z z' fun r => Qp (.dat (.bool r)) η4 else Qp (.dat (.bool false)) η3
    else Qp (.dat (.bool false)) η2) S1 s1 t1 fun yv w L2 Z2 η2 H2 S2 s2 E2 r2 q0 => ?_
  obtain ⟨x, ex, q0⟩ := onView_some q0
  obtain ⟨y, ey, q0⟩ := onView_some q0
  refine cop_ok (Qd := fun v => match v with
    | .dat (.bool r) => if r = true then tc ρ η2 fun u η3 => onView w η3 fun y => onView u.fz η3 fun z => cmpD p y z fun r =>
      if r = true then td ρ η3 fun t η4 => onView u.fz η4 fun z => onView t.fz η4 fun z' => cmpD q z z' fun r => Qp (.dat (.bool r)) η4 else Qp (.dat (.bool false)) η3
    else Qp (.dat (.bool false)) η2
    | _ => False) S2 o x y ((r1.ext E2 (view_nofr ex)).view S2 ex) (r2.view S2 ey) q0 fun z v' L' Z' η' H' S' E' r q0 => ?_
  obtain ⟨rfl, q0⟩ := q0
  cases v' with
  | dat d =>
    cases d <;> first | exact False.elim q0 | skip
    rename_i b
    refine ⟨b, Rp.bl_inv r, ?_⟩
    have E3 : Ext L Z L' Z' := (E1.trans E2).trans E'
    cases b with
    | false => exact k _ (.dat (.bool false)) L' Z' _ _ S' E3 (.bl _) q0
    | true =>
      refine step (P := fun u η3 => onView w η3 fun y => onView u η3 fun z => cmpD p y z fun r =>
        if r = true then td ρ η3 fun t η4 => onView u η4 fun z => onView t.fz η4 fun z' => cmpD q z z' fun r => Qp (.dat (.bool r)) η4 else Qp (.dat (.bool false)) η3) S' (s2.ext E') q0 fun zv u L4 Z4 η4 H4 S4 s4 E4 r4 q0 => ?_
      obtain ⟨y', ey', q0⟩ := onView_some q0
      obtain ⟨z', ez', q0⟩ := onView_some q0
      refine cop_ok (Qd := fun v => match v with
        | .dat (.bool r) => if r = true then td ρ η4 fun t η4 => onView u η4 fun z => onView t.fz η4 fun z' => cmpD q z z' fun r => Qp (.dat (.bool r)) η4 else Qp (.dat (.bool false)) η4
        | _ => False) S4 p y' z' ((r2.ext (E'.trans E4) (view_nofr ey')).view S4 ey') (r4.view S4 ez') q0 fun x v L5 Z5 η5 H5 S5 E5 r q0 => ?_
      obtain ⟨rfl, q0⟩ := q0
      cases v with
      | dat d =>
        cases d <;> first | exact False.elim q0 | skip
        rename_i b
        refine ⟨b, Rp.bl_inv r, ?_⟩
        have E6 : Ext L Z L5 Z5 := (E3.trans E4).trans E5
        cases b with
        | false => exact k _ (.dat (.bool false)) L5 Z5 _ _ S5 E6 (.bl _) q0
        | true =>
          refine step (P := fun t η4 => onView u η4 fun z => onView t η4 fun z' => cmpD q z z' fun r => Qp (.dat (.bool r)) η4) S5 (s4.ext E5) q0 fun tv t L7 Z7 η7 H7 S7 s7 E7 r7 q0 => ?_
          obtain ⟨z2, ez2, q0⟩ := onView_some q0
          obtain ⟨t2, et2, q0⟩ := onView_some q0
          refine cop_ok (Qd := fun v => Qp v η7) S7 q z2 t2 ((r4.ext (E5.trans E7) (view_nofr ez2)).view S7 ez2) (r7.view S7 et2) q0 fun x v L8 Z8 η8 H8 S8 E8 r q0 => ?_
          obtain ⟨rfl, q0⟩ := q0
          exact k x v L8 Z8 _ _ S8 ((E6.trans E7).trans E8) r q0
      | ptr n => exact False.elim q0
      | fr o => exact False.elim q0
  | ptr n => exact False.elim q0
  | fr o => exact False.elim q0
theorem le_chn3 {ta tb tc td : LTE} {a b c d : Expr} {pos : Pos} (hu : X.A.units + 64 < cLine) (o p q : Cop) (ha : LE X G a ta) (hb : LE X G b tb) (hc : LE X G c tc) (hd : LE X G d td) (hm : lastMarks [copOf o, copOf p, copOf q] [b, c, d] = false) :
    LE X G (.Compare a [copOf o, copOf p, copOf q] [b, c, d] pos) (chnW3 o p q ta tb tc td) ∧ LT X G (.Compare a [copOf o, copOf p, copOf q] [b, c, d] pos) (asT (chnW3 o p q ta tb tc td)) :=
  ⟨(pe_chain3 (ok_cop hu o) (ok_cop hu p) (ok_cop hu q) ha hb hc hd hm).weak (chnW3_low o p q), lt_of (pt_chain3 (ok_cop hu o) (ok_cop hu p) (ok_cop hu q) ha hb hc hd hm) (chnW3_low o p q)⟩

/-! ## and, or, not, if -/
theorem stepB {ta : LTE} {R : V → Hp → Prop} {P : Bool → Reg → Prop} {σ : SV} {ρ : Sl} (S : SI G L Z η H) (s : SS L Z σ ρ) (t : ta ρ η fun v η1 => match v with
    | .dat (.bool b) => P b η1
    | _ => False)
    (k : ∀ b L1 Z1 η1 H1, SI G L1 Z1 η1 H1 → SS L1 Z1 σ ρ → Ext L Z L1 Z1 → P b η1 → R (.bl b) H1) : liftE G ta σ H R := by
  refine step' S s t fun x v L1 Z1 η1 H1 S1 s1 E1 r1 q => ?_
  cases v with
  | dat d =>
    cases d <;> first | exact False.elim q | skip
    cases Rp.bl_inv r1
    exact k _ L1 Z1 η1 H1 S1 s1 E1 q
  | ptr n => exact False.elim q
  | fr o => exact False.elim q
def andW (ta tb : LTE) : LTE := fun ρ η Q => ta ρ η fun v η1 => match v with
    | .dat (.bool b) => if b = true then tb ρ η1 Q else Q (.dat (.bool false)) η1
    | _ => False
def orW (ta tb : LTE) : LTE := fun ρ η Q => ta ρ η fun v η1 => match v with
    | .dat (.bool b) => if b = true then Q (.dat (.bool true)) η1 else tb ρ η1 Q
    | _ => False
def notW (ta : LTE) : LTE := fun ρ η Q => ta ρ η fun v η1 => match v with
    | .dat (.bool b) => Q (.dat (.bool (!b))) η1
    | _ => False
def iteW (tc ta tb : LTE) : LTE := fun ρ η Q => tc ρ η fun v η1 => match v with
    | .dat (.bool b) => if b = true then ta ρ η1 Q else tb ρ η1 Q
    | _ => False
section
variable {a b c : Expr} {rest : List Expr} {ta tb tc : LTE} {pos : Pos}
theorem le_and (ha : LE X G a ta) (hb : LE X G (.BoolOp .And (b :: rest) pos) tb) : LE X G (.BoolOp .And (a :: b :: rest) pos) (andW ta tb) := by
  refine (pe_and ha hb).weak ?_
  rintro σ H Q ⟨ρ, L, Z, η, Qp, S, s, t, k⟩
  refine stepB (P := fun b η1 => if b = true then tb ρ η1 Qp else Qp (.dat (.bool false)) η1) S s t fun d L1 Z1 η1 H1 S1 s1 E1 q => ⟨d, rfl, ?_⟩
  cases d with
  | true => rw [if_pos rfl]; exact lift_of S1 s1 q (Cont.shift k E1)
  | false => exact Cont.dat (Cont.shift k E1) S1 (.bl _) q
theorem le_or (ha : LE X G a ta) (hb : LE X G (.BoolOp .Or (b :: rest) pos) tb) : LE X G (.BoolOp .Or (a :: b :: rest) pos) (orW ta tb) := by
  refine (pe_or ha hb).weak ?_
  rintro σ H Q ⟨ρ, L, Z, η, Qp, S, s, t, k⟩
  refine stepB (P := fun b η1 => if b = true then Qp (.dat (.bool true)) η1 else tb ρ η1 Qp) S s t fun d L1 Z1 η1 H1 S1 s1 E1 q => ⟨d, rfl, ?_⟩
  cases d with
  | true => rw [if_pos rfl]; exact Cont.dat (Cont.shift k E1) S1 (.bl _) q
  | false => exact lift_of S1 s1 q (Cont.shift k E1)
theorem le_one {op : BoolOp} (ha : LE X G a ta) : LE X G (.BoolOp op [a] pos) ta := pe_one ha
/-- the last part of an and (or): a truth value -/
theorem boolOnly (ha : LE X G a ta) {w : LTE} (hw : ∀ ρ η Q, w ρ η Q → ta ρ η fun v η1 => match v with
    | .dat (.bool b) => Q (.dat (.bool b)) η1
    | _ => False) : LE X G a w := by
  refine ha.weak ?_
  rintro σ H Q ⟨ρ, L, Z, η, Qp, S, s, t, k⟩
  exact stepB (P := fun b η1 => Qp (.dat (.bool b)) η1) S s (hw _ _ _ t) fun d L1 Z1 η1 H1 S1 s1 E1 q => Cont.dat (Cont.shift k E1) S1 (.bl _) q
theorem le_not (ha : LE X G a ta) : LE X G (.UnaryOp .Not a pos) (notW ta) := by
  refine (pe_not ha).weak ?_
  rintro σ H Q ⟨ρ, L, Z, η, Qp, S, s, t, k⟩
  exact stepB (P := fun b η1 => Qp (.dat (.bool (!b))) η1) S s t fun d L1 Z1 η1 H1 S1 s1 E1 q => ⟨d, rfl, Cont.dat (Cont.shift k E1) S1 (.bl _) q⟩
theorem le_ite (hc : LT X G c (asT tc)) (ha : LE X G a ta) (hb : LE X G b tb) : LE X G (.IfExp c a b pos) (iteW tc ta tb) := by
  refine (pe_ifExp hc ha hb).weak ?_
  rintro σ H Q ⟨ρ, L, Z, η, Qp, S, s, t, k⟩
  refine stepT (P := fun b η1 => if b = true then ta ρ η1 Qp else tb ρ η1 Qp) S s t fun d L1 Z1 η1 H1 S1 s1 E1 q => ?_
  cases d with
  | true => rw [if_pos rfl]; exact lift_of S1 s1 q (Cont.shift k E1)
  | false => exact lift_of S1 s1 q (Cont.shift k E1)
/-! .. as tests -/
theorem asT_and {ρ : Sl} {Q : Bool → Reg → Prop} (h : asT (andW ta tb) ρ η Q) : asT ta ρ η fun d η1 => if d = true then asT tb ρ η1 Q else Q false η1 := h
theorem lw_and (ha : LT X G a (asT ta)) (hb : PW X (.BoolOp .And (b :: rest) pos) (liftT G (asT tb))) : PW X (.BoolOp .And (a :: b :: rest) pos) (liftT G (asT (andW ta tb))) := by
  refine (pw_and ha hb).weak ?_
  rintro σ H Q ⟨ρ, L, Z, η, Qp, S, s, t, k⟩
  refine stepT (P := fun d η1 => if d = true then asT tb ρ η1 Qp else Qp false η1) S s t fun d L1 Z1 η1 H1 S1 s1 E1 q => ?_
  cases d with
  | true => rw [if_pos rfl]; exact ⟨ρ, L1, Z1, η1, Qp, S1, s1, q, fun b L' Z' η' H' S' E' q => k b L' Z' η' H' S' (E1.trans E') q⟩
  | false => exact k false L1 Z1 η1 H1 S1 E1 q
theorem lw_or (ha : LT X G a (asT ta)) (hb : PW X (.BoolOp .Or (b :: rest) pos) (liftT G (asT tb))) : PW X (.BoolOp .Or (a :: b :: rest) pos) (liftT G (asT (orW ta tb))) := by
  refine (pw_or ha hb).weak ?_
  rintro σ H Q ⟨ρ, L, Z, η, Qp, S, s, t, k⟩
  refine stepT (P := fun d η1 => if d = true then Qp true η1 else asT tb ρ η1 Qp) S s t fun d L1 Z1 η1 H1 S1 s1 E1 q => ?_
  cases d with
  | true => rw [if_pos rfl]; exact k true L1 Z1 η1 H1 S1 E1 q
  | false => exact ⟨ρ, L1, Z1, η1, Qp, S1, s1, q, fun b L' Z' η' H' S' E' q => k b L' Z' η' H' S' (E1.trans E') q⟩
theorem lt_weak {e : Expr} {w w' : LTE} (h : LT X G e (asT w)) (hw : ∀ ρ η Q, asT w' ρ η Q → asT w ρ η Q) : LT X G e (asT w') := by
  refine h.weak ?_
  rintro σ H Q ⟨ρ, L, Z, η, Qp, S, s, t, k⟩
  exact ⟨ρ, L, Z, η, Qp, S, s, hw _ _ _ t, k⟩
theorem lt_not (ha : LT X G a (asT ta)) : LT X G (.UnaryOp .Not a pos) (asT (notW ta)) := by
  refine (pt_not ha).weak ?_
  rintro σ H Q ⟨ρ, L, Z, η, Qp, S, s, t, k⟩
  exact stepT (P := fun d η1 => Qp (!d) η1) S s t fun d L1 Z1 η1 H1 S1 s1 E1 q => k _ L1 Z1 η1 H1 S1 E1 q
/-! ## minus -/
theorem le_neg (ha : LE X G a ta) : LE X G (.UnaryOp .USub a pos) (fun ρ η Q => ta ρ η fun v η1 => match v.fz with
    | .dat (.int i) => Q (.dat (.int (-i))) η1
    | _ => False) := by
  refine (pe_un un_neg ha).weak ?_
  rintro σ H Q ⟨ρ, L, Z, η, Qp, S, s, t, k⟩
  refine step (P := fun v η1 => match v with
    | .dat (.int i) => Qp (.dat (.int (-i))) η1
    | _ => False) S s t fun x v L1 Z1 η1 H1 S1 s1 E1 r1 q => ?_
  cases v with
  | dat d =>
    cases d <;> first | exact False.elim q | skip
    exact ⟨_, Rp.int_inv r1, Cont.dat (Cont.shift k E1) S1 (.int _) q⟩
  | ptr n => exact False.elim q
  | fr o => exact False.elim q
end
end
end Pl

namespace Pl
open PySem PySem.Spec PyProof.Rows L2

section
variable {X : Cx} {G : Gh} {L : Loc} {Z : Hp} {η : Reg} {H : Hp} {Q : VK}
/-! ## arguments, displays -/
theorem RepVs.ext {L' : Loc} {Z' H' : Hp} {xs : List V} {vs : List Vl} (e : Ext L Z L' Z') (h : RepVs G L Z H xs vs) : RepVs G L' Z' H' xs vs := Paired.mapP h fun _ _ q => ⟨RepV.ext e q.1 q.2, q.2⟩
theorem RepVs.datas : ∀ {xs : List V} {ds : List D}, RepVs G L Z H xs (ds.map Vl.dat) → RpAll Z xs ds
  | _, [], h => by cases h; exact .nil
  | _, d :: ds, h => by
    cases h with
    | cons r t => exact .cons r.1 (RepVs.datas t)
theorem la_nil : LA X G [] (fun _ η Q => Q [] η) := by
  refine pa_nil.weak ?_
  rintro σ H Q ⟨ρ, L, Z, η, Qp, S, s, t, k⟩
  exact k [] [] L Z η H S Ext.refl .nil t
theorem la_cons {e : Expr} {es : List Expr} {te : LTE} {t : LTA} (he : LE X G e te) (hr : LA X G es t) (hs : starEach (e :: es) X.env = (false, eval e X.env) :: starEach es X.env) :
    LA X G (e :: es) (fun ρ η Q => te ρ η fun v η1 => v.fz.settled ∧ t ρ η1 fun vs η2 => Q (v.fz :: vs) η2) := by
  refine (pa_cons he hr hs).weak ?_
  rintro σ H Q ⟨ρ, L, Z, η, Qp, S, s, tt, k⟩
  refine step (P := fun v η1 => v.settled ∧ t ρ η1 fun vs η2 => Qp (v :: vs) η2) S s tt fun x v L1 Z1 η1 H1 S1 s1 E1 r1 q => ?_
  obtain ⟨hv, q⟩ := q
  refine stepA (P := fun vs η2 => Qp (v :: vs) η2) S1 s1 q fun xs vs L2 Z2 η2 H2 S2 s2 E2 r2 q => ?_
  have nf : ∀ o, v ≠ .fr o := fun o e => by subst e; exact hv
  exact k _ _ L2 Z2 η2 H2 S2 (E1.trans E2) (.cons ⟨r1.ext E2 nf, nf⟩ r2) q
theorem le_tup {es : List Expr} {t : LTA} {k1 : Nat} {pos : Pos} (h : LA X G es t) : LE X G (.Tuple es k1 pos) (fun ρ η Q => t ρ η fun vs η1 => vs.length ≤ sizeLine ∧ ∃ ds, vs = ds.map Vl.dat ∧ Q (.dat (.tuple ds)) η1) := by
  refine (pe_tupF h).weak ?_
  rintro σ H Q ⟨ρ, L, Z, η, Qp, S, s, tt, k⟩
  refine stepA (P := fun vs η1 => vs.length ≤ sizeLine ∧ ∃ ds, vs = ds.map Vl.dat ∧ Qp (.dat (.tuple ds)) η1) S s tt fun xs vs L1 Z1 η1 H1 S1 s1 E1 r1 q => ?_
  obtain ⟨hz, ds, rfl, q⟩ := q
  exact ⟨by rw [r1.length]; exact hz, Cont.tup (Cont.shift k E1) S1 r1.datas q⟩
theorem le_lst {es : List Expr} {t : LTA} {pos : Pos} (h : LA X G es t) : LE X G (.List es pos) (fun ρ η Q => t ρ η fun vs η1 => vs.length ≤ sizeLine ∧ ∃ ds, vs = ds.map Vl.dat ∧ Q (.fr (.lst ds)) η1) := by
  refine (pe_lst h).weak ?_
  rintro σ H Q ⟨ρ, L, Z, η, Qp, S, s, tt, k⟩
  refine stepA (P := fun vs η1 => vs.length ≤ sizeLine ∧ ∃ ds, vs = ds.map Vl.dat ∧ Qp (.fr (.lst ds)) η1) S s tt fun xs vs L1 Z1 η1 H1 S1 s1 E1 r1 q => ?_
  obtain ⟨hz, ds, rfl, q⟩ := q
  exact ⟨by rw [r1.length]; exact hz, Cont.lst (Cont.shift k E1) S1 r1.datas q⟩

/-! ## items and slices -/
theorem atI_rp {xs : List V} {ds : List D} {i : Int} {d : D} (r : RpAll Z xs ds) (h : atI ds i = some d) : ∃ v, atI xs i = some v ∧ Rp Z v d := by
  unfold atI at h ⊢
  rw [r.length]
  cases e : ixN ds.length i with
  | none => rw [e] at h; cases h
  | some j => rw [e] at h; exact r.get h
theorem le_idx {a b : Expr} {ta tb : LTE} {pos : Pos} (ha : LE X G a ta) (hb : LE X G b tb) (hs : PlainIx b) :
    LE X G (.Subscript a b pos) (fun ρ η Q => ta ρ η fun v η1 => tb ρ η1 fun w η2 => onView v.fz η2 fun x => onView w.fz η2 fun y => idxD x y fun r => Q (.dat r) η2) := by
  refine (pe_ix ix_seq ha hb hs).weak ?_
  rintro σ H Q ⟨ρ, L, Z, η, Qp, S, s, t, k⟩
  refine step2 (P := fun x y η2 => idxD x y fun r => Qp (.dat r) η2) S s t fun xv yv x y L2 Z2 η2 H2 S2 s2 E rx ry q => ?_
  have k2 := Cont.shift k E
  cases x <;> cases y <;> first | exact False.elim q | skip
  · cases rx.str; cases ry.int
    obtain ⟨hz, c, hc, q⟩ := q
    exact .inr (.inr ⟨_, _, c, rfl, rfl, hz, hc, Cont.dat k2 S2 (.str _) q⟩)
  · cases ry.int
    obtain ⟨d, hd, q⟩ := q
    obtain ⟨p, xs, rfl, hp, r⟩ := rx
    obtain ⟨v, hv, rv⟩ := atI_rp r hd
    exact .inl ⟨p, xs, _, v, rfl, rfl, .inl hp, hv, Cont.dat k2 S2 rv q⟩
  · cases ry.int
    obtain ⟨d, hd, q⟩ := q
    obtain ⟨p, o, xs, rfl, hp, _, r⟩ := rx.tup
    obtain ⟨v, hv, rv⟩ := atI_rp r hd
    exact .inr (.inl ⟨p, xs, _, v, rfl, rfl, .inl (.inr ⟨_, S2.zh _ _ hp⟩), hv, Cont.dat k2 S2 rv q⟩)
abbrev LTO := Sl → Reg → (Option Int → Reg → Prop) → Prop
def liftO (G : Gh) (t : LTO) : TO := fun σ H Q => ∃ ρ L Z η Qp, SI G L Z η H ∧ SS L Z σ ρ ∧ t ρ η Qp ∧
  ∀ b L' Z' η' H', SI G L' Z' η' H' → Ext L Z L' Z' → Qp b η' → Q b H'
theorem lo_none : PO X none (liftO G fun _ η Q => Q none η) := by
  refine ⟨fun pins s σ H Q I h => po_none.run pins s σ H Q I ?_⟩
  obtain ⟨ρ, L, Z, η, Qp, S, s, t, k⟩ := h
  exact k none L Z η H S Ext.refl t
theorem lo_some {a : Expr} {ta : LTE} (ha : LE X G a ta) : PO X (some a) (liftO G fun ρ η Q => ta ρ η fun v η1 => match v with
    | .dat (.int i) => Q (some i) η1
    | _ => False) := by
  refine ⟨fun pins s σ H Q I h => (po_some ha).run pins s σ H Q I ?_⟩
  obtain ⟨ρ, L, Z, η, Qp, S, s, t, k⟩ := h
  refine step' (P := fun v η1 => match v with
    | .dat (.int i) => Qp (some i) η1
    | _ => False) S s t fun x v L1 Z1 η1 H1 S1 s1 E1 r1 q => ?_
  cases v with
  | dat d =>
    cases d <;> first | exact False.elim q | skip
    exact ⟨_, Rp.int_inv r1, k _ L1 Z1 η1 H1 S1 E1 q⟩
  | ptr n => exact False.elim q
  | fr o => exact False.elim q
theorem stepO {ta : LTO} {σ : SV} {ρ : Sl} {R : Option Int → Hp → Prop} {P : Option Int → Reg → Prop} (S : SI G L Z η H) (s : SS L Z σ ρ) (t : ta ρ η P)
    (k : ∀ b L1 Z1 η1 H1, SI G L1 Z1 η1 H1 → SS L1 Z1 σ ρ → Ext L Z L1 Z1 → P b η1 → R b H1) : liftO G ta σ H R :=
  ⟨ρ, L, Z, η, _, S, s, t, fun b L' Z' η' H' S' E' q => k b L' Z' η' H' S' (s.ext E') E' q⟩
theorem cut_rp {xs : List V} {ds : List D} (r : RpAll Z xs ds) (lo hi : Option Int) : RpAll Z (cutV xs lo hi) (cutL ds lo hi) := by
  unfold cutV cutL
  rw [r.length]
  exact (r.drop _).take _
theorem cut_all {ds : List D} {lo hi : Option Int} (h : HT.sIx ds.length 0 lo = 0 ∧ HT.sIx ds.length ds.length hi = ds.length) : cutL ds lo hi = ds := by
  unfold cutL
  rw [h.1, h.2]
  simp
def rSli (K : PySem.W.Frag) : V → Option Int → Option Int → Hp → VK → Prop := fun x lo hi H Q => rSlL K x lo hi H Q ∨ rSlF x lo hi H Q ∨ rSlS x lo hi H Q
theorem le_sli {a : Expr} {lo hi : Option Expr} {ta : LTE} {tl th : LTO} {p2 pos : Pos} (ha : LE X G a ta) (hl : PO X lo (liftO G tl)) (hh : PO X hi (liftO G th)) :
    LE X G (.Subscript a (.Slice lo hi none p2) pos) (fun ρ η Q => ta ρ η fun v η1 => tl ρ η1 fun l η2 => th ρ η2 fun h η3 => onView v.fz η3 fun x => sliD x l h fun r => Q r η3) := by
  refine (pe_slice (r := rSli X.K) (SlR.or sl_list (SlR.or sl_tupF sl_str)) ha hl hh).weak ?_
  rintro σ H Q ⟨ρ, L, Z, η, Qp, S, s, t, k⟩
  refine step (P := fun v η1 => tl ρ η1 fun l η2 => th ρ η2 fun h η3 => onView v η3 fun x => sliD x l h fun r => Qp r η3) S s t fun xv v L1 Z1 η1 H1 S1 s1 E1 r1 q => ?_
  refine stepO (P := fun l η2 => th ρ η2 fun h η3 => onView v η3 fun x => sliD x l h fun r => Qp r η3) S1 s1 q fun l L2 Z2 η2 H2 S2 s2 E2 q => ?_
  refine stepO (P := fun h η3 => onView v η3 fun x => sliD x l h fun r => Qp r η3) S2 s2 q fun h L3 Z3 η3 H3 S3 s3 E3 q => ?_
  obtain ⟨x, ex, q⟩ := onView_some q
  have E := E1.trans (E2.trans E3)
  have k2 := Cont.shift k E
  have rx := (r1.ext (E2.trans E3) (view_nofr ex)).view S3 ex
  cases x <;> first | exact False.elim q | skip
  · cases rx.str
    exact .inr (.inr ⟨_, rfl, q.1, Cont.dat k2 S3 (.str _) q.2⟩)
  · obtain ⟨p, xs, rfl, hp, r⟩ := rx
    exact .inl ⟨p, xs, rfl, .inl hp, Cont.lst k2 S3 (cut_rp r l h) q⟩
  · obtain ⟨p, o, xs, rfl, hp, hd, r⟩ := rx.tup
    refine .inr (.inl ⟨p, xs, rfl, .inr ⟨_, S3.zh _ _ hp⟩, fun e => ?_, fun _ => Cont.tup k2 S3 (cut_rp r l h) q⟩)
    rw [r.length] at e
    rw [show sliD = sliD from rfl] at q
    have q : Qp (.dat (.tuple (cutL _ l h))) η3 := q
    rw [cut_all e] at q
    exact Cont.dat k2 S3 (.tup hp hd r) q
/-! ## the other way round; a new list in a place of its own -/
theorem le_rev {a : Expr} {ta : LTE} {k : Nat} {p1 p2 p3 pos : Pos} (ha : LE X G a ta) :
    LE X G (.Subscript a (.Slice none none (some (.UnaryOp .USub (.Constant (.int 1) k p1) p2)) p3) pos) (fun ρ η Q => ta ρ η fun v η1 => onView v.fz η1 fun
      | .list xs => Q (.fr (.lst xs.reverse)) η1
      | _ => False) := by
  refine (pe_revL ha).weak ?_
  rintro σ H Q ⟨ρ, L, Z, η, Qp, S, s, t, k⟩
  refine step (P := fun v η1 => onView v η1 fun
    | .list xs => Qp (.fr (.lst xs.reverse)) η1
    | _ => False) S s t fun xv v L1 Z1 η1 H1 S1 s1 E1 r1 q => ?_
  obtain ⟨x, ex, q⟩ := onView_some q
  have rx := r1.view S1 ex
  cases x <;> first | exact False.elim q | skip
  obtain ⟨p, xs, rfl, hp, r⟩ := rx
  exact ⟨p, xs, rfl, .inl hp, Cont.lst (Cont.shift k E1) S1 r.rev q⟩
theorem le_own {a : Expr} {ta : LTE} {n : Nat} (ha : LE X G a ta) : LE X G a (fun ρ η Q => ta ρ η fun v η1 => match v with
    | .fr o => η1[n]? = some none ∧ Q (.ptr n) (η1.set n (some o))
    | _ => False) := by
  refine ha.weak ?_
  rintro σ H Q ⟨ρ, L, Z, η, Qp, S, s, t, k⟩
  refine step' (P := fun v η1 => match v with
    | .fr o => η1[n]? = some none ∧ Qp (.ptr n) (η1.set n (some o))
    | _ => False) S s t fun x v L1 Z1 η1 H1 S1 s1 E1 r1 q => ?_
  cases v with
  | dat d => exact False.elim q
  | ptr m => exact False.elim q
  | fr o =>
    obtain ⟨e0, q⟩ := q
    obtain ⟨p, ks, rfl, ro, hf⟩ := r1
    have hl : n < L1.length := by rw [S1.ln]; exact (List.getElem?_eq_some_iff.mp e0).1
    have hz : ∀ a ks, L1[n]? ≠ some (some (a, ks)) := fun a ks e => by
      obtain ⟨_, o2, h2, _⟩ := S1.ow n _ e
      rw [e0] at h2
      cases h2
    have hn : G.A0 n = none := by
      cases e : G.A0 n with
      | none => rfl
      | some a =>
        obtain ⟨ks', h'⟩ := S1.a0 n a e
        exact absurd h' (hz _ _)
    refine k (.ref p) (.ptr n) _ _ _ _ (S1.put hl hn ro hf) (E1.trans ⟨Sub.refl _, fun m b kb h => ?_⟩) ⟨p, ks, by rw [List.getElem?_set_self hl], rfl⟩ q
    have : n ≠ m := fun z => by subst z; exact hz _ _ h
    exact ⟨kb, by rw [List.getElem?_set_ne this]; exact h⟩
end
end Pl

namespace Pl
open PySem PySem.Spec PyProof.Rows L2

/-! ## calls of the text's own defs -/
/-- a def's promise, on pure data, as the layer below has it -/
def liftSp (sp : PSpec) : Sp := fun xs H Q _ => ∃ (G : Gh) (L : Loc) (Z : Hp) (obs : List Ob) (vs : List Vl) (Qp : Vl → List Ob → Prop),
  (∀ n, obs.length ≤ n → G.A0 n = none) ∧ L.length = obs.length ∧ SI G L Z (obs.map some) H ∧ RepVs G L Z H xs vs ∧ sp vs obs Qp ∧
  ∀ x v L' Z' obs' H', SI G L' Z' (obs'.map some) H' → obs'.length = obs.length → RepV G L' Z' H' x v → v.noPtr → Qp v obs' → Q x H'
structure FnIn (X : Cx) (n : Str) (sp : PSpec) : Prop where
  ex : (∃ (f : Addr) (k : Nat) (fd : FuncData) (ps : List Str), X.mg n = some (.ref f) ∧ PySem.W.keepIn X.K (.ref f) = true ∧
    FnOk X.prog X.w X.K X.mg X.base CX0 k f fd ps (liftSp sp) ∧ Binds X.K fd ps [] ∧ Room k X.A) ∨
    ∃ id : String, X.mg n = some (.builtin id) ∧ (∀ Y : Cx, CallR Y (.builtin id) fun xs H Q => liftSp sp xs H Q E0) ∧ ∀ obs Q, ¬ sp [] obs Q

def putL : List Nat → Loc → Loc → Loc
  | n :: ns, p :: ps, L => putL ns ps (L.set n p)
  | _, _, L => L
theorem putL_length : ∀ (ix : List Nat) (P L : Loc), (putL ix P L).length = L.length
  | [], _, _ => rfl
  | _ :: _, [], _ => rfl
  | n :: ns, p :: ps, L => by rw [putL, putL_length, List.length_set]
theorem putAll_length : ∀ (ix : List Nat) (P : List Ob) (η : Reg), (putAll ix P η).length = η.length
  | [], _, _ => rfl
  | _ :: _, [], _ => rfl
  | n :: ns, p :: ps, L => by rw [putAll, putAll_length, List.length_set]
theorem putL_out {m : Nat} : ∀ {ix : List Nat} {P L : Loc}, m ∉ ix → (putL ix P L)[m]? = L[m]?
  | [], _, _, _ => rfl
  | _ :: _, [], _, _ => rfl
  | n :: ns, p :: ps, L, h => by
    rw [putL, putL_out fun q => h (List.mem_cons_of_mem _ q), List.getElem?_set_ne fun e => h (by rw [e]; exact List.mem_cons_self)]
theorem putAll_out {m : Nat} : ∀ {ix : List Nat} {P : List Ob} {L : Reg}, m ∉ ix → (putAll ix P L)[m]? = L[m]?
  | [], _, _, _ => rfl
  | _ :: _, [], _, _ => rfl
  | n :: ns, p :: ps, L, h => by
    rw [putAll, putAll_out fun q => h (List.mem_cons_of_mem _ q), List.getElem?_set_ne fun e => h (by rw [e]; exact List.mem_cons_self)]
theorem putL_in {i m : Nat} : ∀ {ix : List Nat} {P L : Loc} {i : Nat}, ix.Nodup → P.length = ix.length → ix[i]? = some m → m < L.length → (putL ix P L)[m]? = P[i]?
  | [], _, _, _, _, _, h, _ => by simp at h
  | n :: ns, [], _, _, _, hl, _, _ => by simp at hl
  | n :: ns, p :: ps, L, 0, nd, hl, h, hm => by
    simp at h
    subst h
    rw [putL, putL_out (List.nodup_cons.mp nd).1, List.getElem?_set_self hm]
    rfl
  | n :: ns, p :: ps, L, i + 1, nd, hl, h, hm => by
    rw [putL, putL_in (i := i) (List.nodup_cons.mp nd).2 (by simpa using hl) (by simpa using h) (by rw [List.length_set]; exact hm)]
    rfl
theorem putAll_in {m : Nat} : ∀ {ix : List Nat} {P : List Ob} {L : Reg} {i : Nat}, ix.Nodup → P.length = ix.length → ix[i]? = some m → m < L.length → (putAll ix P L)[m]? = (P[i]?).map some
  | [], _, _, _, _, _, h, _ => by simp at h
  | n :: ns, [], _, _, _, hl, _, _ => by simp at hl
  | n :: ns, p :: ps, L, 0, nd, hl, h, hm => by
    simp at h
    subst h
    rw [putAll, putAll_out (List.nodup_cons.mp nd).1, List.getElem?_set_self hm]
    rfl
  | n :: ns, p :: ps, L, i + 1, nd, hl, h, hm => by
    rw [putAll, putAll_in (i := i) (List.nodup_cons.mp nd).2 (by simpa using hl) (by simpa using h) (by rw [List.length_set]; exact hm)]
    rfl
/-- the registers that are handed on -/
structure Picked (ix : List Nat) (L : Loc) (η : Reg) (P : List (Addr × List Addr)) (obs : List Ob) : Prop where
  nd : ix.Nodup
  lp : P.length = ix.length
  lo : obs.length = ix.length
  at_ : ∀ (i n : Nat), ix[i]? = some n → ∃ p o, P[i]? = some p ∧ obs[i]? = some o ∧ L[n]? = some (some p) ∧ η[n]? = some (some o)
theorem picked {G : Gh} {L : Loc} {Z : Hp} {η : Reg} {H : Hp} (S : SI G L Z η H) : ∀ {ix : List Nat} {obs : List Ob}, ix.Nodup → obsAt ix η = some obs → ∃ P, Picked ix L η P obs
  | [], obs, _, h => by
    cases h
    exact ⟨[], List.nodup_nil, rfl, rfl, fun i n e => by simp at e⟩
  | n :: ns, obs, nd, h => by
    unfold obsAt at h
    cases e : η[n]? with
    | none => rw [e] at h; cases h
    | some o =>
      cases o with
      | none => rw [e] at h; cases h
      | some o =>
        cases e2 : obsAt ns η with
        | none => rw [e, e2] at h; cases h
        | some os =>
          rw [e, e2] at h
          cases h
          obtain ⟨P, I⟩ := picked S (List.nodup_cons.mp nd).2 e2
          obtain ⟨p, hp⟩ := S.lv n o e
          refine ⟨p :: P, nd, by simp [I.lp], by simp [I.lo], fun i m em => ?_⟩
          cases i with
          | zero =>
            simp at em
            subst em
            exact ⟨p, o, rfl, rfl, hp, e⟩
          | succ i =>
            obtain ⟨q, o2, a, b, c, d⟩ := I.at_ i m (by simpa using em)
            exact ⟨q, o2, by simpa using a, by simpa using b, c, d⟩
def flatP (P : List (Addr × List Addr)) : List Addr := P.flatMap fun p => p.1 :: p.2
theorem flatP_all (P : List (Addr × List Addr)) : flatP P = Loc.all (P.map some) := by
  unfold flatP Loc.all
  rw [List.flatMap_map]
  rfl
open Classical in
/-- the ghost of a callee -/
noncomputable def Gh.sub (Z H : Hp) (P : List (Addr × List Addr)) : Gh where
  F0 := fun a => if (Z a).isSome = true ∨ a ∈ flatP P then none else H a
  Z0 := Z
  A0 := fun n => (P.map (·.1))[n]?
theorem sub_some {Z H : Hp} {P : List (Addr × List Addr)} {a : Addr} (h1 : Z a = none) (h2 : a ∉ flatP P) : (Gh.sub Z H P).F0 a = H a := by
  show (if _ then _ else _) = _
  rw [if_neg]
  rintro (q | q)
  · rw [h1] at q; cases q
  · exact h2 q
theorem sub_none {Z H : Hp} {P : List (Addr × List Addr)} {a : Addr} {o : HO} (h : (Gh.sub Z H P).F0 a = some o) : Z a = none ∧ a ∉ flatP P ∧ H a = some o := by
  have h' : (if (Z a).isSome = true ∨ a ∈ flatP P then none else H a) = some o := h
  by_cases q : (Z a).isSome = true ∨ a ∈ flatP P
  · rw [if_pos q] at h'; cases h'
  · rw [if_neg q] at h'
    refine ⟨?_, fun z => q (.inr z), h'⟩
    cases e : Z a with
    | none => rfl
    | some u => exact absurd (.inl (by rw [e]; rfl)) q
section
variable {G : Gh} {L : Loc} {Z : Hp} {η : Reg} {H : Hp} {ix : List Nat} {P : List (Addr × List Addr)} {obs : List Ob}
theorem Picked.mem (K : Picked ix L η P obs) {b : Addr} (h : b ∈ flatP P) : ∃ (i n : Nat) (p : Addr × List Addr), ix[i]? = some n ∧ P[i]? = some p ∧ L[n]? = some (some p) ∧ b ∈ p.1 :: p.2 := by
  unfold flatP at h
  obtain ⟨p, hp, hb⟩ := List.mem_flatMap.mp h
  obtain ⟨i, hi⟩ := List.getElem?_of_mem hp
  have hlt : i < ix.length := by rw [← K.lp]; exact (List.getElem?_eq_some_iff.mp hi).1
  obtain ⟨q, o, h1, h2, h3, h4⟩ := K.at_ i ix[i] (List.getElem?_eq_getElem hlt)
  rw [hi] at h1
  cases h1
  exact ⟨i, ix[i], p, List.getElem?_eq_getElem hlt, hi, h3, hb⟩
theorem SI.apart (S : SI G L Z η H) {m n : Nat} {p q : Addr × List Addr} {b : Addr} (h : m ≠ n) (em : L[m]? = some (some p)) (en : L[n]? = some (some q)) (hb : b ∈ p.1 :: p.2) : b ∉ q.1 :: q.2 := fun hb2 => by
  have pw := (all_nodup.mp S.nd).2
  rw [List.pairwise_iff_getElem] at pw
  obtain ⟨lm, em'⟩ := List.getElem?_eq_some_iff.mp em
  obtain ⟨ln, en'⟩ := List.getElem?_eq_some_iff.mp en
  rcases Nat.lt_or_gt_of_ne h with z | z
  · have := pw m n lm ln z
    rw [em', en'] at this
    exact this b hb hb2
  · have := pw n m ln lm z
    rw [em', en'] at this
    exact this b hb2 hb
theorem SI.enter (S : SI G L Z η H) (K : Picked ix L η P obs) : SI (Gh.sub Z H P) (P.map some) Z (obs.map some) H := by
  have getP : ∀ (i : Nat) (p : Addr × List Addr), (P.map some)[i]? = some (some p) → P[i]? = some p := fun i p e => by
    rw [List.getElem?_map] at e
    cases q : P[i]? with
    | none => rw [q] at e; cases e
    | some u => rw [q] at e; cases e; rfl
  have whole : ∀ (i : Nat) (p : Addr × List Addr), P[i]? = some p → ∃ n o, ix[i]? = some n ∧ obs[i]? = some o ∧ L[n]? = some (some p) ∧ η[n]? = some (some o) := fun i p e => by
    have hlt : i < ix.length := by rw [← K.lp]; exact (List.getElem?_eq_some_iff.mp e).1
    obtain ⟨q, o, h1, h2, h3, h4⟩ := K.at_ i ix[i] (List.getElem?_eq_getElem hlt)
    rw [e] at h1
    cases h1
    exact ⟨_, o, List.getElem?_eq_getElem hlt, h2, h3, h4⟩
  refine ⟨fun n a e => ?_, Sub.refl _, S.zh, fun a o e => (sub_none e).2.2, fun a o e => ?_, ?_, by rw [List.length_map, List.length_map, K.lp, K.lo], fun n p e => ?_, fun n o e => ?_⟩
  · have e' : (P.map (·.1))[n]? = some a := e
    rw [List.getElem?_map] at e'
    cases q : P[n]? with
    | none => rw [q] at e'; cases e'
    | some u =>
      rw [q] at e'
      cases e'
      exact ⟨u.2, by rw [List.getElem?_map, q]; rfl⟩
  · cases q : (Gh.sub Z H P).F0 a with
    | none => rfl
    | some u =>
      have := (sub_none q).1
      rw [e] at this; cases this
  · refine all_nodup.mpr ⟨fun x hx => ?_, ?_⟩
    · obtain ⟨p, hp, rfl⟩ := List.mem_map.mp hx
      obtain ⟨i, hi⟩ := List.getElem?_of_mem hp
      obtain ⟨n, o, h1, h2, h3, h4⟩ := whole i p hi
      exact (all_nodup.mp S.nd).1 _ (List.mem_of_getElem? h3)
    · rw [List.pairwise_map, List.pairwise_iff_getElem]
      intro i j hi hj hij b hb1 hb2
      obtain ⟨n, o, h1, h2, h3, h4⟩ := whole i _ (List.getElem?_eq_getElem hi)
      obtain ⟨m, o', k1, k2, k3, k4⟩ := whole j _ (List.getElem?_eq_getElem hj)
      refine S.apart (fun e => ?_) h3 k3 hb1 hb2
      subst e
      have a1 := (List.getElem?_eq_some_iff.mp h1)
      have a2 := (List.getElem?_eq_some_iff.mp k1)
      have := (List.nodup_iff_pairwise_ne.mp K.nd)
      rw [List.pairwise_iff_getElem] at this
      exact this i j a1.1 a2.1 hij (a1.2.trans a2.2.symm)
  · have hp := getP n p e
    obtain ⟨m, o, h1, h2, h3, h4⟩ := whole n p hp
    obtain ⟨ow, o', h5, h6⟩ := S.ow m p h3
    rw [h4] at h5
    cases h5
    refine ⟨fun b hb => ⟨(ow b hb).1, ?_⟩, o, by rw [List.getElem?_map, h2]; rfl, h6⟩
    cases q : (Gh.sub Z H P).F0 b with
    | none => rfl
    | some u => exact absurd (List.mem_flatMap.mpr ⟨p, List.mem_of_getElem? hp, hb⟩) (sub_none q).2.1
  · rw [List.getElem?_map] at e
    cases q : obs[n]? with
    | none => rw [q] at e; cases e
    | some u =>
      have hlt : n < P.length := by rw [K.lp, ← K.lo]; exact (List.getElem?_eq_some_iff.mp q).1
      exact ⟨P[n], by rw [List.getElem?_map, List.getElem?_eq_getElem hlt]; rfl⟩
/-- behind the call -/
theorem SI.back {L' : Loc} {Z' H' : Hp} {obs' : List Ob} (S : SI G L Z η H) (K : Picked ix L η P obs) (S' : SI (Gh.sub Z H P) L' Z' (obs'.map some) H') (hl : obs'.length = obs.length) :
    SI G (putL ix L' L) Z' (putAll ix obs' η) H' ∧ Ext L Z (putL ix L' L) Z' ∧
      (∀ b, (b ∈ (putL ix L' L).all → b ∈ L'.all ∨ (Gh.sub Z H P).F0 b = H b ∧ (∃ u, H b = some u))) ∧ ∀ b o, G.F0 b = some o → (Gh.sub Z H P).F0 b = some o := by
  have lL' : L'.length = ix.length := by rw [S'.ln, List.length_map, hl, K.lo]
  have lo' : obs'.length = ix.length := by rw [hl, K.lo]
  have inL : ∀ (i n : Nat), ix[i]? = some n → n < L.length ∧ n < η.length := fun i n e => by
    obtain ⟨p, o, _, _, h3, h4⟩ := K.at_ i n e
    exact ⟨(List.getElem?_eq_some_iff.mp h3).1, (List.getElem?_eq_some_iff.mp h4).1⟩
  have old : ∀ (m : Nat) (p : Addr × List Addr), m ∉ ix → L[m]? = some (some p) → ∀ b ∈ p.1 :: p.2, (Gh.sub Z H P).F0 b = H b ∧ ∃ u, H b = some u := fun m p hm em b hb => by
    obtain ⟨ow, o, _, r⟩ := S.ow m p em
    refine ⟨sub_some (ow b hb).1 fun q => ?_, r.some b hb⟩
    obtain ⟨i, n, p', h1, h2, h3, h4⟩ := K.mem q
    exact S.apart (fun e => hm (by rw [e]; exact List.mem_of_getElem? h1)) em h3 hb h4
  have ff : ∀ b o, G.F0 b = some o → (Gh.sub Z H P).F0 b = some o := fun b o e => by
    rw [sub_some ?_ ?_]
    · exact S.fh b o e
    · cases q : Z b with
      | none => rfl
      | some u => have := S.zn b u q; rw [e] at this; cases this
    · intro q
      obtain ⟨i, n, p, h1, h2, h3, h4⟩ := K.mem q
      have := ((S.ow n p h3).1 b h4).2
      rw [e] at this; cases this
  have cas : ∀ (m : Nat) (p : Addr × List Addr), (putL ix L' L)[m]? = some (some p) → (∃ i, ix[i]? = some m ∧ L'[i]? = some (some p)) ∨ (m ∉ ix ∧ L[m]? = some (some p)) := fun m p e => by
    by_cases hm : m ∈ ix
    · obtain ⟨i, hi⟩ := List.getElem?_of_mem hm
      rw [putL_in (i := 0) K.nd lL' hi (inL i m hi).1] at e
      exact .inl ⟨i, hi, e⟩
    · rw [putL_out hm] at e
      exact .inr ⟨hm, e⟩
  have owned : ∀ b, b ∈ L'.all → (Gh.sub Z H P).F0 b = none := fun b hb => (S'.own hb).2.1
  have inall : ∀ (i : Nat) (p : Addr × List Addr), L'[i]? = some (some p) → ∀ b ∈ p.1 :: p.2, b ∈ L'.all := fun i p e b hb => mem_all.mpr ⟨i, p, e, hb⟩
  refine ⟨⟨fun m a e => ?_, fun a o e => S'.z0 a o (S.z0 a o e), S'.zh, fun a o e => S'.fh a o (ff a o e), fun a o e => ?_, ?_, by rw [putL_length, putAll_length]; exact S.ln, fun m p e => ?_, fun m o e => ?_⟩, ⟨S'.z0, fun m a ks e => ?_⟩, fun b hb => ?_, ff⟩
  · obtain ⟨ks, e0⟩ := S.a0 m a e
    by_cases hm : m ∈ ix
    · obtain ⟨i, hi⟩ := List.getElem?_of_mem hm
      obtain ⟨p, o, h1, h2, h3, h4⟩ := K.at_ i m hi
      rw [e0] at h3
      cases h3
      obtain ⟨ks', h5⟩ := S'.a0 i a (by show (P.map (·.1))[i]? = some a; rw [List.getElem?_map, h1]; rfl)
      exact ⟨ks', by rw [putL_in (i := 0) K.nd lL' hi (inL i m hi).1]; exact h5⟩
    · exact ⟨ks, by rw [putL_out hm]; exact e0⟩
  · cases q : G.F0 a with
    | none => rfl
    | some u =>
      have := S'.zn a o e
      rw [ff a u q] at this; cases this
  · refine all_nodup.mpr ⟨fun x hx => ?_, ?_⟩
    · obtain ⟨m, em⟩ := List.getElem?_of_mem hx
      cases x with
      | none => exact List.nodup_nil
      | some p =>
        rcases cas m p em with ⟨i, _, h2⟩ | ⟨_, h2⟩
        · exact (all_nodup.mp S'.nd).1 _ (List.mem_of_getElem? h2)
        · exact (all_nodup.mp S.nd).1 _ (List.mem_of_getElem? h2)
    · rw [List.pairwise_iff_getElem]
      intro i j hi hj hij b hb1 hb2
      cases ei : (putL ix L' L)[i] with
      | none => rw [ei] at hb1; cases hb1
      | some p =>
        cases ej : (putL ix L' L)[j] with
        | none => rw [ej] at hb2; cases hb2
        | some q =>
          rw [ei] at hb1
          rw [ej] at hb2
          have ei' : (putL ix L' L)[i]? = some (some p) := by rw [List.getElem?_eq_getElem hi, ei]
          have ej' : (putL ix L' L)[j]? = some (some q) := by rw [List.getElem?_eq_getElem hj, ej]
          rcases cas i p ei' with ⟨i1, h1, h2⟩ | ⟨h1, h2⟩
          · rcases cas j q ej' with ⟨j1, k1, k2⟩ | ⟨k1, k2⟩
            · refine S'.apart (fun e => ?_) h2 k2 hb1 hb2
              subst e
              rw [h1] at k1
              cases k1
              omega
            · obtain ⟨z1, u, z2⟩ := old j q k1 k2 b hb2
              have := owned b (inall _ _ h2 b hb1)
              rw [z1, z2] at this; cases this
          · obtain ⟨z1, u, z2⟩ := old i p h1 h2 b hb1
            rcases cas j q ej' with ⟨j1, k1, k2⟩ | ⟨k1, k2⟩
            · have := owned b (inall _ _ k2 b hb2)
              rw [z1, z2] at this; cases this
            · exact S.apart (by omega) h2 k2 hb1 hb2
  · rcases cas m p e with ⟨i, h1, h2⟩ | ⟨h1, h2⟩
    · obtain ⟨ow, o, ho, r⟩ := S'.ow i p h2
      refine ⟨fun b hb => ⟨(ow b hb).1, ?_⟩, o, ?_, r⟩
      · cases q : G.F0 b with
        | none => rfl
        | some u =>
          have := (ow b hb).2
          rw [ff b u q] at this; cases this
      · rw [putAll_in K.nd lo' h1 (inL i m h1).2]
        rw [List.getElem?_map] at ho
        cases q : obs'[i]? with
        | none => rw [q] at ho; cases ho
        | some u => rw [q] at ho; cases ho; rfl
    · obtain ⟨ow, o, ho, r⟩ := S.ow m p h2
      have od := old m p h1 h2
      refine ⟨fun b hb => ⟨?_, (ow b hb).2⟩, o, by rw [putAll_out h1]; exact ho, r.mono S'.z0 fun b hb => ?_⟩
      · obtain ⟨z1, u, z2⟩ := od b hb
        cases q : Z' b with
        | none => rfl
        | some v =>
          have := S'.zn b v q
          rw [z1, z2] at this; cases this
      · obtain ⟨z1, u, z2⟩ := od b hb
        rw [z2]
        exact S'.fh b u (by rw [z1, z2])
  · by_cases hm : m ∈ ix
    · obtain ⟨i, hi⟩ := List.getElem?_of_mem hm
      rw [putL_in (i := 0) K.nd lL' hi (inL i m hi).1]
      have hlt : i < obs'.length := by rw [lo']; exact (List.getElem?_eq_some_iff.mp hi).1
      exact S'.lv i obs'[i] (by rw [List.getElem?_map, List.getElem?_eq_getElem hlt]; rfl)
    · rw [putAll_out hm] at e
      rw [putL_out hm]
      exact S.lv m o e
  · by_cases hm : m ∈ ix
    · obtain ⟨i, hi⟩ := List.getElem?_of_mem hm
      obtain ⟨p, o, h1, h2, h3, h4⟩ := K.at_ i m hi
      rw [e] at h3
      cases h3
      obtain ⟨ks', h5⟩ := S'.a0 i a (by show (P.map (·.1))[i]? = some a; rw [List.getElem?_map, h1]; rfl)
      exact ⟨ks', by rw [putL_in (i := 0) K.nd lL' hi (inL i m hi).1]; exact h5⟩
    · exact ⟨ks, by rw [putL_out hm]; exact e⟩
  · obtain ⟨m, p, h1, h2⟩ := mem_all.mp hb
    rcases cas m p h1 with ⟨i, k1, k2⟩ | ⟨k1, k2⟩
    · exact .inl (inall _ _ k2 b h2)
    · exact .inr (old m p k1 k2 b h2)
theorem renum_rep {G' : Gh} {H1 : Hp} (h : ∀ x d, Rp Z x d → Rp Z x d) : ∀ {xs : List V} {vs : List Vl} (k : Nat), RepVs G L Z H xs vs →
    (∀ (i n : Nat), (regsOf vs)[i]? = some n → ∃ p, P[k + i]? = some p ∧ L[n]? = some (some p)) → RepVs G' (P.map some) Z H1 xs (renum k vs)
  | _, [], k, r, _ => by cases r; exact .nil
  | _, .dat d :: vs, k, r, hp => by
    cases r with
    | cons r1 r2 => exact .cons ⟨r1.1, fun o e => by cases e⟩ (renum_rep h k r2 hp)
  | _, .ptr n :: vs, k, r, hp => by
    cases r with
    | cons r1 r2 =>
      obtain ⟨p, e1, e2⟩ := hp 0 n rfl
      obtain ⟨a, ks, e3, rfl⟩ := r1.1
      rw [e2] at e3
      cases e3
      refine .cons ⟨⟨a, ks, by rw [List.getElem?_map, show P[k]? = some (a, ks) from e1]; rfl, rfl⟩, fun o e => by cases e⟩ (renum_rep h (k + 1) r2 fun i m em => ?_)
      obtain ⟨p, e1, e2⟩ := hp (i + 1) m (by simpa [regsOf] using em)
      exact ⟨p, by rw [show k + 1 + i = k + (i + 1) by omega]; exact e1, e2⟩
  | _, .fr o :: vs, k, r, hp => by
    cases r with
    | cons r1 r2 => exact absurd rfl (r1.2 o)
end
section
variable {X : Cx} {G : Gh}
theorem call_low {sp : PSpec} {t : LTA} : ∀ σ H Q, liftE G (fun ρ η Q => t ρ η fun vs η1 => callW sp vs η1 Q) σ H Q → tCall (liftSp sp) [] E0 (liftA G t) σ H Q := by
  rintro σ H Q ⟨ρ, L, Z, η, Qp, S, s, tt, k⟩
  refine stepA (P := fun vs η1 => callW sp vs η1 Qp) S s tt fun xs vs L1 Z1 η1 H1 S1 s1 E1 r1 q => ?_
  obtain ⟨nd, q⟩ := q
  cases ho : obsAt (regsOf vs) η1 with
  | none => rw [ho] at q; exact False.elim q
  | some obs =>
    rw [ho] at q
    obtain ⟨P, K⟩ := picked S1 nd ho
    refine ⟨Gh.sub Z1 H1 P, P.map some, Z1, obs, renum 0 vs, _, ?_, ?_, S1.enter K, ?_, q, fun x v L' Z' obs' H' S' hl rv hv q => ?_⟩
    · intro n hn
      show (P.map (·.1))[n]? = none
      exact List.getElem?_eq_none (by rw [List.length_map, K.lp, ← K.lo]; exact hn)
    · rw [List.length_map, K.lp, K.lo]
    · rw [List.append_nil]
      refine renum_rep (fun _ _ h => h) 0 r1 fun i n e => ?_
      obtain ⟨p, o, h1, _, h3, _⟩ := K.at_ i n e
      exact ⟨p, by rw [Nat.zero_add]; exact h1, h3⟩
    · obtain ⟨B, E2, al, ff⟩ := S1.back K S' hl
      refine k x v _ Z' _ H' B (E1.trans E2) ?_ q.2.2
      cases v with
      | dat d => exact rv
      | ptr n => exact False.elim hv
      | fr o =>
        obtain ⟨a, ks, rfl, r, hf⟩ := rv
        refine ⟨a, ks, rfl, r, fun b hb => ⟨(hf b hb).1, ?_, fun hm => ?_⟩⟩
        · cases q2 : G.F0 b with
          | none => rfl
          | some u =>
            have := (hf b hb).2.1
            rw [ff b u q2] at this; cases this
        · rcases al b hm with z | ⟨z, u, z2⟩
          · exact (hf b hb).2.2 z
          · have := (hf b hb).2.1
            rw [z, z2] at this; cases this
theorem le_call {sp : PSpec} {t : LTA} {n : Str} {p pos : Pos} {e : Expr} {es : List Expr} (F : FnIn X n sp) (hg : Gl X n) (ha : LA X G (e :: es) t) (hdb : (n == ("__debug__" : Str)) = false)
    (he : starEach (e :: es) X.env = (false, eval e X.env) :: starEach es X.env) (hpl : (backTo pos (starEach es X.env)).any (·.1) = false) :
    LE X G (.Call (.Name n p) (e :: es) [] pos) (fun ρ η Q => t ρ η fun vs η1 => callW sp vs η1 Q) := by
  rcases F.ex with ⟨f, k, fd, ps, h1, h2, h3, h4, h5⟩ | ⟨id, h1, h2, _⟩
  · exact (pe_call h3 h5 hg h1 h2 h4 .nil pass0 ha hdb he hpl).weak call_low
  · refine (pe_callBfun (h2 X) hg h1 ha hdb he hpl).weak fun σ H Q q => ?_
    have := call_low σ H Q q
    unfold tCall at this
    simp only [List.append_nil] at this
    exact this
theorem le_call0 {sp : PSpec} {n : Str} {p pos : Pos} (F : FnIn X n sp) (hg : Gl X n) (hdb : (n == ("__debug__" : Str)) = false) :
    LE X G (.Call (.Name n p) [] [] pos) (fun ρ η Q => callW sp [] η Q) := by
  rcases F.ex with ⟨f, k, fd, ps, h1, h2, h3, h4, h5⟩ | ⟨id, h1, h2, h3⟩
  case inr =>
    refine ⟨fun pins s σ H Q I q => ?_⟩
    obtain ⟨ρ, L, Z, η, Qp, S, s, tt, k⟩ := q
    exact absurd tt.2 (h3 _ _)
  refine (pe_call0 h3 h5 hg h1 h2 h4 .nil pass0 hdb).weak fun σ H Q q => ?_
  have := call_low (t := fun _ η Q => Q [] η) σ H Q q
  obtain ⟨ρ, L, Z, η, Qp, S, s, tt, k⟩ := this
  exact k [] [] L Z η H S Ext.refl .nil tt
end
end Pl

namespace Pl
open PySem PySem.Spec PyProof.Rows L2

/-! ## built-ins -/
def biFn : Bi → Value
  | .len => .builtin "len" | .int => .type "int" | .abs => .builtin "abs" | .sum => .builtin "sum" | .min1 => .builtin "min" | .max1 => .builtin "max" | .min2 => .builtin "min" | .max2 => .builtin "max"
  | .all => .builtin "all" | .any => .builtin "any" | .list => .type "list" | .tuple => .type "tuple" | .sorted => .builtin "sorted" | _ => .none
def biName : Bi → Str
  | .len => "len" | .int => "int" | .abs => "abs" | .sum => "sum" | .min1 => "min" | .max1 => "max" | .min2 => "min" | .max2 => "max"
  | .all => "all" | .any => "any" | .list => "list" | .tuple => "tuple" | .sorted => "sorted" | _ => ""
section
variable {X : Cx} {G : Gh} {L : Loc} {Z : Hp} {η : Reg} {H : Hp} {Qd : Vl → Prop} {Q : VK}
def rSumT (K : PySem.W.Frag) : List V → Hp → VK → Prop := fun vs H Q => ∃ (a : Addr) (ns : List Int), vs = [V.ref a] ∧ SqT K H a (ns.map V.int) ∧ Q (.int ns.sum) H
theorem cr_sumT (hc : X.calm = true) : CallR X (.builtin "sum") (rSumT X.K) := by
  intro pins s σ H vs us Q I r h
  obtain ⟨a, ns, rfl, hs, q⟩ := h
  obtain ⟨its, rv, p, _⟩ := I.tuple hs
  have hl : s.heap.IsTuple a its.toArray := p
  rw [Vals.ref1 r]
  have hi := rv.ints
  obtain ⟨xs, hx⟩ := hi.allInts.items
  have hn : numsOf its.toArray.toList = ns := by rw [show its.toArray.toList = its from rfl, hi.numsOf]
  rw [hx] at hl hn
  rw [nums_intItems] at hn
  refine PySem.W.ktm_sumG (I.ok.hd hc) hl fun h' tk t' hk => ⟨.int _, H, I.kept hk, ⟨_, rfl⟩, ?_⟩
  rw [preSum_eq, List.take_of_length_le (by simp), hn]
  exact q
theorem cr_sumB (hc : X.calm = true) : CallR X (.builtin "sum") (fun xs H Q => rSum X.K xs H Q ∨ rSumT X.K xs H Q) := by
  intro pins s σ H vs us Q I r h
  rcases h with h | h
  · exact cr_sum hc pins s σ H vs us Q I r h
  · exact cr_sumT hc pins s σ H vs us Q I r h
theorem reads_all {h : Heap} {vs : List Value} {ns : List Int} (hi : IntsAre vs ns) : ReadsAll h vs (ns.map PyData.int) [] := by
  induction hi with
  | nil => exact .nil
  | cons => rename_i ih; exact ReadsAll.cons (.int _ _) ih
theorem alike_ints (ns : List Int) : PySem.W.AlikeAll (ns.map PyData.int) := by
  refine ⟨fun x hx y hy => ?_, fun x hx => ?_⟩
  · obtain ⟨i, _, rfl⟩ := List.mem_map.mp hx
    obtain ⟨j, _, rfl⟩ := List.mem_map.mp hy
    rfl
  · obtain ⟨i, _, rfl⟩ := List.mem_map.mp hx
    exact fun e => nomatch e
theorem fold_max (n : Int) : ∀ ns : List Int, ns.foldl max n ∈ n :: ns ∧ ∀ y ∈ n :: ns, y ≤ ns.foldl max n := by
  intro ns
  induction ns generalizing n with
  | nil => exact ⟨List.mem_cons_self, fun y hy => by rw [List.mem_singleton.mp hy]; exact Int.le_refl _⟩
  | cons k r ih =>
    rw [List.foldl_cons]
    obtain ⟨h1, h2⟩ := ih (max n k)
    refine ⟨?_, fun y hy => ?_⟩
    · rcases List.mem_cons.mp h1 with e | h
      · rw [e]
        by_cases hk : n ≤ k
        · rw [Int.max_eq_right hk]; simp
        · rw [Int.max_eq_left (by omega)]; simp
      · exact List.mem_cons_of_mem _ (List.mem_cons_of_mem _ h)
    · have hm := h2 (max n k) List.mem_cons_self
      rcases List.mem_cons.mp hy with rfl | hy
      · exact Int.le_trans (Int.le_max_left _ _) hm
      · rcases List.mem_cons.mp hy with rfl | hy
        · exact Int.le_trans (Int.le_max_right _ _) hm
        · exact h2 y (List.mem_cons_of_mem _ hy)
theorem fold_min (n : Int) : ∀ ns : List Int, ns.foldl min n ∈ n :: ns ∧ ∀ y ∈ n :: ns, ns.foldl min n ≤ y := by
  intro ns
  induction ns generalizing n with
  | nil => exact ⟨List.mem_cons_self, fun y hy => by rw [List.mem_singleton.mp hy]; exact Int.le_refl _⟩
  | cons k r ih =>
    rw [List.foldl_cons]
    obtain ⟨h1, h2⟩ := ih (min n k)
    refine ⟨?_, fun y hy => ?_⟩
    · rcases List.mem_cons.mp h1 with e | h
      · rw [e]
        by_cases hk : n ≤ k
        · rw [Int.min_eq_left hk]; simp
        · rw [Int.min_eq_right (by omega)]; simp
      · exact List.mem_cons_of_mem _ (List.mem_cons_of_mem _ h)
    · have hm := h2 (min n k) List.mem_cons_self
      rcases List.mem_cons.mp hy with rfl | hy
      · exact Int.le_trans hm (Int.min_le_left _ _)
      · rcases List.mem_cons.mp hy with rfl | hy
        · exact Int.le_trans hm (Int.min_le_right _ _)
        · exact h2 y (List.mem_cons_of_mem _ hy)
def rMaxT (K : PySem.W.Frag) : List V → Hp → VK → Prop := fun vs H Q => ∃ (a : Addr) (ns : List Int), vs = [V.ref a] ∧ SqT K H a (ns.map V.int) ∧ 0 < ns.length ∧ ∀ m, m ∈ ns → (∀ y, y ∈ ns → y ≤ m) → Q (.int m) H
def rMinT (K : PySem.W.Frag) : List V → Hp → VK → Prop := fun vs H Q => ∃ (a : Addr) (ns : List Int), vs = [V.ref a] ∧ SqT K H a (ns.map V.int) ∧ 0 < ns.length ∧ ∀ m, m ∈ ns → (∀ y, y ∈ ns → m ≤ y) → Q (.int m) H
theorem dep_all (ns : List Int) : PyData.depthAll (ns.map PyData.int) = 0 := by
  induction ns with
  | nil => rw [List.map_nil, PyData.depthAll]
  | cons n ns ih => rw [List.map_cons, PyData.depthAll, ih]; simp [PyData.depth]
theorem cr_maxT (hc : X.calm = true) (hu : X.A.units + 64 < cLine) : CallR X (.builtin "max") (rMaxT X.K) := by
  intro pins s σ H vs us Q I r h
  obtain ⟨a, ns, rfl, hs, hne, q⟩ := h
  obtain ⟨its, rv, p, _⟩ := I.tuple hs
  have hl : s.heap.IsTuple a its.toArray := p
  rw [Vals.ref1 r]
  cases ns with
  | nil => cases hne
  | cons n ns =>
    refine PySem.W.max_tuple_data (x := .int n) (xs := ns.map PyData.int) (I.ok.hd hc) hl (reads_all rv.ints) (alike_ints (n :: ns)) (by rw [show (PyData.int n :: ns.map PyData.int) = (n :: ns).map PyData.int from rfl, dep_all]; omega) fun i v h' tk bs hv hr hk => ?_
    rw [PySem.W.maxD_ints] at hr
    obtain ⟨t, rfl, _⟩ := reads_int_inv hr
    exact ⟨.int _, H, I.kept hk, ⟨_, rfl⟩, q _ (fold_max n ns).1 (fold_max n ns).2⟩
theorem cr_minT (hc : X.calm = true) (hu : X.A.units + 64 < cLine) : CallR X (.builtin "min") (rMinT X.K) := by
  intro pins s σ H vs us Q I r h
  obtain ⟨a, ns, rfl, hs, hne, q⟩ := h
  obtain ⟨its, rv, p, _⟩ := I.tuple hs
  have hl : s.heap.IsTuple a its.toArray := p
  rw [Vals.ref1 r]
  cases ns with
  | nil => cases hne
  | cons n ns =>
    refine PySem.W.min_tuple_data (x := .int n) (xs := ns.map PyData.int) (I.ok.hd hc) hl (reads_all rv.ints) (alike_ints (n :: ns)) (by rw [show (PyData.int n :: ns.map PyData.int) = (n :: ns).map PyData.int from rfl, dep_all]; omega) fun i v h' tk bs hv hr hk => ?_
    rw [PySem.W.minD_ints] at hr
    obtain ⟨t, rfl, _⟩ := reads_int_inv hr
    exact ⟨.int _, H, I.kept hk, ⟨_, rfl⟩, q _ (fold_min n ns).1 (fold_min n ns).2⟩
def rBi (X : Cx) : Bi → List V → Hp → VK → Prop
  | .len => fun xs H Q => ∃ x n, xs = [x] ∧ LenV X.K x H n ∧ Q (.int n) H
  | .int => fun xs H Q => (∃ i, xs = [.int i] ∧ Q (.int i) H) ∨ ∃ k, xs = [.bl k] ∧ Q (.int (if k then 1 else 0)) H
  | .abs => fun xs H Q => ∃ i, xs = [.int i] ∧ Q (.int (if i < 0 then -i else i)) H
  | .sum => fun xs H Q => rSum X.K xs H Q ∨ rSumT X.K xs H Q
  | .min1 => fun xs H Q => rMin X.K xs H Q ∨ rMinT X.K xs H Q
  | .max1 => fun xs H Q => rMax X.K xs H Q ∨ rMaxT X.K xs H Q
  | .min2 => fun xs H Q => ∃ i j, xs = [.int i, .int j] ∧ Q (.int (if j < i then j else i)) H
  | .max2 => fun xs H Q => ∃ i j, xs = [.int i, .int j] ∧ Q (.int (if j > i then j else i)) H
  | .all => rAll X.K
  | .any => rAny X.K
  | .list => fun xs H Q => ∃ p ys, xs = [.ref p] ∧ (SqL X.K H p ys ∨ SqT X.K H p ys) ∧ ∀ l, H l = none → Q (.ref l) (upd H l (.lst ys))
  | .tuple => fun xs H Q => ∃ p ys, xs = [.ref p] ∧ ((Rd H p (.lst ys) ∧ ∀ l o, H l = none → o.dict = none → Q (.ref l) (upd H l (.frz o (.tup ys)))) ∨ (Rd H p (.tup ys) ∧ Q (.ref p) H))
  | _ => fun _ _ _ => False
theorem CallR.or {f : Value} {r r' : List V → Hp → VK → Prop} (h : CallR X f r) (h' : CallR X f r') : CallR X f (fun xs H Q => r xs H Q ∨ r' xs H Q) := by
  intro pins s σ H vs us Q I r0 q
  rcases q with q | q
  · exact h pins s σ H vs us Q I r0 q
  · exact h' pins s σ H vs us Q I r0 q
theorem ok_bi (hc : X.calm = true) (hu : X.A.units + 64 < cLine) : ∀ b : Bi, CallR X (biFn b) (rBi X b)
  | .len => call_len
  | .int => call_int1
  | .abs => call_abs
  | .sum => cr_sumB hc
  | .min1 => CallR.or (cr_min hc) (cr_minT hc hu)
  | .max1 => CallR.or (cr_max hc) (cr_maxT hc hu)
  | .min2 => call_min2 hc
  | .max2 => call_max2 hc
  | .all => cr_all hc
  | .any => cr_any hc
  | .list => call_list_of
  | .tuple => call_tupF
  | .sorted => fun _ _ _ _ _ _ _ _ _ h => False.elim h
  | .rlist1 => fun _ _ _ _ _ _ _ _ _ h => False.elim h
  | .rlist2 => fun _ _ _ _ _ _ _ _ _ h => False.elim h
  | .rtup1 => fun _ _ _ _ _ _ _ _ _ h => False.elim h
  | .rtup2 => fun _ _ _ _ _ _ _ _ _ h => False.elim h
  | .isi _ => fun _ _ _ _ _ _ _ _ _ h => False.elim h
theorem rp_ints : ∀ {xs : List V} {ns : List Int}, RpAll Z xs (ns.map PyData.int) → xs = ns.map V.int
  | _, [], h => by cases h; rfl
  | _, n :: ns, h => by
    cases h with
    | cons r t => cases r; rw [rp_ints t]; rfl
theorem rp_bls : ∀ {xs : List V} {ns : List Bool}, RpAll Z xs (ns.map PyData.bool) → xs = ns.map V.bl
  | _, [], h => by cases h; rfl
  | _, n :: ns, h => by
    cases h with
    | cons r t => cases r; rw [rp_bls t]; rfl
theorem rp_strs : ∀ {xs : List V} {ns : List Str}, RpAll Z xs (ns.map PyData.str) → xs = ns.map V.str
  | _, [], h => by cases h; rfl
  | _, n :: ns, h => by
    cases h with
    | cons r t => cases r; rw [rp_strs t]; rfl
theorem RepVs.one {xs : List V} {v : Vl} (h : RepVs G L Z H xs [v]) : ∃ x, xs = [x] ∧ RepV G L Z H x v := by
  cases h with
  | cons r t => cases t; exact ⟨_, rfl, r.1⟩
theorem RepVs.two {xs : List V} {v w : Vl} (h : RepVs G L Z H xs [v, w]) : ∃ x y, xs = [x, y] ∧ RepV G L Z H x v ∧ RepV G L Z H y w := by
  cases h with
  | cons r t =>
    cases t with
    | cons r' t => cases t; exact ⟨_, _, rfl, r.1, r'.1⟩
theorem vw_list {x : V} {ds : List D} (h : Vw Z H x (.list ds)) : ∃ a xs, x = .ref a ∧ Rd H a (.lst xs) ∧ RpAll Z xs ds := h
theorem bi_ok (S : SI G L Z η H) : ∀ (b : Bi) (vs : List Vl) (xs : List V), (match b with | .sorted | .rlist1 | .rlist2 | .rtup1 | .rtup2 | .isi _ => False | _ => True) → RepVs G L Z H xs vs → biW b vs η Qd → LC G L Z η Qd Q → rBi X b xs H Q := by
  intro b vs xs hb r h k
  have seq : ∀ {v : Vl} {P : List D → Prop}, vs = [v] → onView v η (fun | .list xs => P xs | _ => False) → ∃ a ys ds, xs = [.ref a] ∧ Rd H a (.lst ys) ∧ RpAll Z ys ds ∧ P ds := fun {v} {P} e0 g => by
    subst e0
    obtain ⟨x, rfl, r1⟩ := RepVs.one r
    obtain ⟨d, e, g⟩ := onView_some g
    have w := r1.view S e
    cases d <;> first | exact False.elim g | skip
    obtain ⟨a, ys, rfl, h1, h2⟩ := w
    exact ⟨a, ys, _, rfl, h1, h2, g⟩
  cases b with
  | len =>
    rcases vs with _ | ⟨v, _ | ⟨w, rest⟩⟩ <;> first | exact False.elim h | skip
    obtain ⟨x, rfl, r1⟩ := RepVs.one r
    obtain ⟨d, e, h⟩ := onView_some h
    have w := r1.view S e
    cases d <;> first | exact False.elim h | skip
    · cases w.str
      exact ⟨_, _, rfl, ⟨h.1, rfl⟩, k.flat S (.int _) h.2⟩
    · obtain ⟨a, ys, rfl, h1, h2⟩ := w
      exact ⟨_, _, rfl, .inl ⟨ys, .inl h1, h2.length.symm⟩, k.flat S (.int _) h⟩
    · obtain ⟨a, o, ys, rfl, h1, hd, h2⟩ := w.tup
      exact ⟨_, _, rfl, .inr ⟨ys, .inl (.inr ⟨_, S.zh _ _ h1⟩), h2.length.symm⟩, k.flat S (.int _) h⟩
  | int =>
    rcases vs with _ | ⟨v, _ | ⟨w, rest⟩⟩
    · exact False.elim h
    · obtain ⟨x, rfl, r1⟩ := RepVs.one r
      rcases v with d | n | o
      · cases d <;> first | exact False.elim h | skip
        · cases Rp.bl_inv r1; exact .inr ⟨_, rfl, k.flat S (.int _) h⟩
        · cases Rp.int_inv r1; exact .inl ⟨_, rfl, k.flat S (.int _) h⟩
      · exact False.elim h
      · exact False.elim h
    · rcases v with d | n | o <;> first | exact False.elim h | (cases d <;> exact False.elim h)
  | abs =>
    rcases vs with _ | ⟨v, _ | ⟨w, rest⟩⟩
    · exact False.elim h
    · obtain ⟨x, rfl, r1⟩ := RepVs.one r
      rcases v with d | n | o
      · cases d <;> first | exact False.elim h | skip
        cases Rp.int_inv r1; exact ⟨_, rfl, k.flat S (.int _) h⟩
      · exact False.elim h
      · exact False.elim h
    · rcases v with d | n | o <;> first | exact False.elim h | (cases d <;> exact False.elim h)
  | min2 =>
    rcases vs with _ | ⟨v, _ | ⟨w, _ | ⟨u, rest⟩⟩⟩
    · exact False.elim h
    · rcases v with d | n | o <;> first | exact False.elim h | (cases d <;> exact False.elim h)
    · obtain ⟨x, y, rfl, r1, r2⟩ := RepVs.two r
      rcases v with d | n | o <;> rcases w with d' | n' | o' <;> first | exact False.elim h | skip
      · cases d <;> cases d' <;> first | exact False.elim h | skip
        cases Rp.int_inv r1; cases Rp.int_inv r2; exact ⟨_, _, rfl, k.flat S (.int _) h⟩
      · cases d <;> exact False.elim h
      · cases d <;> exact False.elim h
    · rcases v with d | n | o <;> rcases w with d' | n' | o' <;> first | exact False.elim h | (cases d <;> first | exact False.elim h | (cases d' <;> exact False.elim h))
  | max2 =>
    rcases vs with _ | ⟨v, _ | ⟨w, _ | ⟨u, rest⟩⟩⟩
    · exact False.elim h
    · rcases v with d | n | o <;> first | exact False.elim h | (cases d <;> exact False.elim h)
    · obtain ⟨x, y, rfl, r1, r2⟩ := RepVs.two r
      rcases v with d | n | o <;> rcases w with d' | n' | o' <;> first | exact False.elim h | skip
      · cases d <;> cases d' <;> first | exact False.elim h | skip
        cases Rp.int_inv r1; cases Rp.int_inv r2; exact ⟨_, _, rfl, k.flat S (.int _) h⟩
      · cases d <;> exact False.elim h
      · cases d <;> exact False.elim h
    · rcases v with d | n | o <;> rcases w with d' | n' | o' <;> first | exact False.elim h | (cases d <;> first | exact False.elim h | (cases d' <;> exact False.elim h))
  | sum =>
    rcases vs with _ | ⟨v, _ | ⟨w, rest⟩⟩ <;> first | exact False.elim h | skip
    obtain ⟨x, rfl, r1⟩ := RepVs.one r
    obtain ⟨d, e, h⟩ := onView_some h
    have w := r1.view S e
    cases d <;> first | exact False.elim h | skip
    · obtain ⟨a, ys, rfl, h1, h2⟩ := w
      obtain ⟨ns, rfl, h⟩ := h
      cases rp_ints h2
      exact .inl ⟨a, ns, rfl, .inl h1, k.flat S (.int _) h⟩
    · obtain ⟨a, o, ys, rfl, h1, hd, h2⟩ := w.tup
      obtain ⟨ns, rfl, h⟩ := h
      cases rp_ints h2
      exact .inr ⟨a, ns, rfl, .inl (.inr ⟨_, S.zh _ _ h1⟩), k.flat S (.int _) h⟩
  | min1 =>
    rcases vs with _ | ⟨v, _ | ⟨w, rest⟩⟩ <;> first | exact False.elim h | skip
    obtain ⟨x, rfl, r1⟩ := RepVs.one r
    obtain ⟨d, e, h⟩ := onView_some h
    have w := r1.view S e
    cases d <;> first | exact False.elim h | skip
    · obtain ⟨a, ys, rfl, h1, h2⟩ := w
      obtain ⟨ns, rfl, h0, h⟩ := h
      cases rp_ints h2
      exact .inl ⟨a, ns, rfl, .inl h1, h0, fun m hm hy => k.flat S (.int _) (h m hm hy)⟩
    · obtain ⟨a, o, ys, rfl, h1, hd, h2⟩ := w.tup
      obtain ⟨ns, rfl, h0, h⟩ := h
      cases rp_ints h2
      exact .inr ⟨a, ns, rfl, .inl (.inr ⟨_, S.zh _ _ h1⟩), h0, fun m hm hy => k.flat S (.int _) (h m hm hy)⟩
  | max1 =>
    rcases vs with _ | ⟨v, _ | ⟨w, rest⟩⟩ <;> first | exact False.elim h | skip
    obtain ⟨x, rfl, r1⟩ := RepVs.one r
    obtain ⟨d, e, h⟩ := onView_some h
    have w := r1.view S e
    cases d <;> first | exact False.elim h | skip
    · obtain ⟨a, ys, rfl, h1, h2⟩ := w
      obtain ⟨ns, rfl, h0, h⟩ := h
      cases rp_ints h2
      exact .inl ⟨a, ns, rfl, .inl h1, h0, fun m hm hy => k.flat S (.int _) (h m hm hy)⟩
    · obtain ⟨a, o, ys, rfl, h1, hd, h2⟩ := w.tup
      obtain ⟨ns, rfl, h0, h⟩ := h
      cases rp_ints h2
      exact .inr ⟨a, ns, rfl, .inl (.inr ⟨_, S.zh _ _ h1⟩), h0, fun m hm hy => k.flat S (.int _) (h m hm hy)⟩
  | all =>
    rcases vs with _ | ⟨v, _ | ⟨w, rest⟩⟩ <;> first | exact False.elim h | skip
    obtain ⟨a, ys, ds, rfl, h1, h2, ns, rfl, h⟩ := seq (P := fun xs => ∃ bs : List Bool, xs = bs.map PyData.bool ∧ Qd (.dat (.bool (bs.all id)))) rfl h
    cases rp_bls h2
    exact ⟨a, ns, rfl, .inl h1, k.flat S (.bl _) h⟩
  | any =>
    rcases vs with _ | ⟨v, _ | ⟨w, rest⟩⟩ <;> first | exact False.elim h | skip
    obtain ⟨a, ys, ds, rfl, h1, h2, ns, rfl, h⟩ := seq (P := fun xs => ∃ bs : List Bool, xs = bs.map PyData.bool ∧ Qd (.dat (.bool (bs.any id)))) rfl h
    cases rp_bls h2
    exact ⟨a, ns, rfl, .inl h1, k.flat S (.bl _) h⟩
  | list =>
    rcases vs with _ | ⟨v, _ | ⟨w, rest⟩⟩ <;> first | exact False.elim h | skip
    obtain ⟨x, rfl, r1⟩ := RepVs.one r
    obtain ⟨d, e, h⟩ := onView_some h
    have w := r1.view S e
    cases d <;> first | exact False.elim h | skip
    · obtain ⟨a, ys, rfl, h1, h2⟩ := w
      exact ⟨a, ys, rfl, .inl (.inl h1), Cont.lst k S h2 ⟨rfl, h⟩⟩
    · obtain ⟨a, o, ys, rfl, h1, hd, h2⟩ := w.tup
      exact ⟨a, ys, rfl, .inr (.inl (.inr ⟨_, S.zh _ _ h1⟩)), Cont.lst k S h2 ⟨rfl, h⟩⟩
  | tuple =>
    rcases vs with _ | ⟨v, _ | ⟨w, rest⟩⟩ <;> first | exact False.elim h | skip
    obtain ⟨x, rfl, r1⟩ := RepVs.one r
    obtain ⟨d, e, h⟩ := onView_some h
    have w := r1.view S e
    cases d <;> first | exact False.elim h | skip
    · obtain ⟨a, ys, rfl, h1, h2⟩ := w
      exact ⟨a, ys, rfl, .inl ⟨h1, Cont.tup k S h2 ⟨rfl, h⟩⟩⟩
    · obtain ⟨a, o, ys, rfl, h1, hd, h2⟩ := w.tup
      exact ⟨a, ys, rfl, .inr ⟨.inr ⟨_, S.zh _ _ h1⟩, k.flat S (.tup h1 hd h2) h⟩⟩
  | _ => exact False.elim hb
theorem bi_low {b : Bi} {t : LTA} (hb : match b with | .sorted | .rlist1 | .rlist2 | .rtup1 | .rtup2 | .isi _ => False | _ => True) :
    ∀ σ H Q, liftE G (fun ρ η Q => t ρ η fun vs η1 => biW b vs η1 fun r => Q r η1) σ H Q → tCB (rBi X b) (liftA G t) σ H Q := by
  rintro σ H Q ⟨ρ, L, Z, η, Qp, S, s, tt, k⟩
  refine stepA (P := fun vs η1 => biW b vs η1 fun r => Qp r η1) S s tt fun xs vs L1 Z1 η1 H1 S1 s1 E1 r1 q => ?_
  refine bi_ok S1 b vs xs hb r1 q fun x v L' Z' η' H' S' E' r q => ?_
  obtain ⟨rfl, q⟩ := q
  exact k x v L' Z' _ H' S' (E1.trans E') r q
end

end Pl

namespace Pl
open PySem PySem.Spec PyProof.Rows L2

section
variable {X : Cx} {G : Gh} {L : Loc} {Z : Hp} {η : Reg} {H : Hp} {Q : VK}
/-! ## isinstance -/
theorem ty_of {K : PySem.W.Frag} {x : V} {v : Vl} {t : String} (S : SI G L Z η H) (r : RepV G L Z H x v) (h : tyV' v η = some t) : TyX K H x (.type t) := by
  cases v with
  | dat d =>
    cases h
    have q := Rp.mono S.zh _ _ r
    cases d with
    | none => cases q; exact .base .non
    | bool b => cases q; exact .base (.bl _)
    | int b => cases q; exact .base (.int _)
    | str b => cases q; exact .base (.str _)
    | list ds =>
      cases q with
      | lst h1 h2 =>
        rcases h1 with h1 | ⟨o, h1⟩
        · exact .base (.lst h1)
        · exact .base (.frz h1)
    | tuple ds =>
      cases q with
      | tup h1 hd h2 => exact .fTuple h1
    | dict ds => cases q
  | ptr n =>
    obtain ⟨a, ks, h1, rfl⟩ := r
    obtain ⟨_, o, h2, h3⟩ := S.ow n _ h1
    unfold tyV' at h
    simp only [h2] at h
    cases o with
    | lst ds => cases h; obtain ⟨_, xs, q, _⟩ := h3; exact .base (.lst q)
    | dK ds => cases h; obtain ⟨_, xs, q, _⟩ := h3; exact .base (.dK q)
    | dT ds => cases h; obtain ⟨_, xs, q, _⟩ := h3; exact .base (.dT q)
  | fr o => cases h
theorem le_isi {e : Expr} {te : LTE} {p pT pos : Pos} {T : String} {x : Str} (he : LE X G e te) (hg : Gl X "isinstance") (hm : X.mg "isinstance" = none) (hgT : Gl X x) (hmT : X.mg x = none) (hbT : bootBuiltins x = some (.type T))
    (hnT : x ≠ "__name__") (hdT : (x == ("__debug__" : Str)) = false) (hs : starEach [e, .Name x pT] X.env = (false, eval e X.env) :: starEach [.Name x pT] X.env) :
    LE X G (.Call (.Name "isinstance" p) [e, .Name x pT] [] pos) (fun ρ η Q => te ρ η fun v η1 => v.fz.settled ∧ biW (.isi T) [v.fz] η1 fun r => Q r η1) := by
  refine (pe_callB call_isi hg hm boot_isinstance (pa_cons he (pa_cons (pe_bltn hgT hmT hbT (show RelV (.ty T) (.type T) from rfl) hnT hdT) pa_nil) hs) (he := hs)).weak ?_
  rintro σ H Q ⟨ρ, L, Z, η, Qp, S, s, t, k⟩
  refine step (P := fun v η1 => v.settled ∧ biW (.isi T) [v] η1 fun r => Qp r η1) S s t fun xv v L1 Z1 η1 H1 S1 s1 E1 r1 q => ?_
  obtain ⟨_, t, b, ht, hb, q⟩ := q
  exact ⟨xv, .ty T, .type t, .type T, b, rfl, .ty T, ty_of S1 r1 ht, kit_ty hb, Cont.dat (Cont.shift k E1) S1 (.bl _) q⟩

/-! ## list(range(..)), tuple(range(..)) -/
theorem rg_rp (i j : Int) : RpAll Z (rgV i j) (rangeD i (j - i).toNat) := by
  unfold rgV rangeD
  generalize (j - i).toNat = n
  have go : ∀ (l : List Nat), RpAll Z (l.map fun k => V.int (i + (k : Nat))) (l.map fun k => PyData.int (i + (k : Nat))) := fun l => by
    induction l with
    | nil => exact .nil
    | cons a l ih => exact .cons (.int _) ih
  exact go _
theorem rg1_rp (j : Int) : RpAll Z (rgV 0 j) (rangeD 0 j.toNat) := by
  have h := rg_rp (Z := Z) 0 j
  rw [Int.sub_zero] at h
  exact h
section
variable {a b : Expr} {ta tb : LTE} {p p2 pos pos2 : Pos}
theorem stepI {ta : LTE} {σ : SV} {ρ : Sl} {R : V → Hp → Prop} {P : Int → Reg → Prop} (S : SI G L Z η H) (s : SS L Z σ ρ) (t : ta ρ η fun v η1 => match v.fz with
    | .dat (.int i) => P i η1
    | _ => False)
    (k : ∀ i L1 Z1 η1 H1, SI G L1 Z1 η1 H1 → SS L1 Z1 σ ρ → Ext L Z L1 Z1 → P i η1 → R (.int i) H1) : liftE G ta σ H R := by
  refine step (P := fun v η1 => match v with
    | .dat (.int i) => P i η1
    | _ => False) S s t fun x v L1 Z1 η1 H1 S1 s1 E1 r1 q => ?_
  cases v with
  | dat d =>
    cases d <;> first | exact False.elim q | skip
    cases Rp.int_inv r1
    exact k _ L1 Z1 η1 H1 S1 s1 E1 q
  | ptr n => exact False.elim q
  | fr o => exact False.elim q
theorem le_rlist1 (hc : X.calm = true) (hg : Gl X "list") (hm : X.mg "list" = none) (hg2 : Gl X "range") (hm2 : X.mg "range" = none) (ha : LE X G a ta) (na : starEach [a] X.env = (false, eval a X.env) :: starEach [] X.env) :
    LE X G (.Call (.Name "list" p) [.Call (.Name "range" p2) [a] [] pos2] [] pos) (fun ρ η Q => ta ρ η fun v η1 => v.fz.settled ∧ biW .rlist1 [v.fz] η1 fun r => Q r η1) := by
  refine (pe_listRg hc hg hm (prg_1 hg2 hm2 ha na) rfl).weak ?_
  rintro σ H Q ⟨ρ, L, Z, η, Qp, S, s, t, k⟩
  refine step (P := fun v η1 => v.settled ∧ biW .rlist1 [v] η1 fun r => Qp r η1) S s t fun xv v L1 Z1 η1 H1 S1 s1 E1 r1 q => ?_
  obtain ⟨_, q⟩ := q
  rcases v with d | n | o <;> first | exact False.elim q | skip
  cases d <;> first | exact False.elim q | skip
  refine ⟨_, Rp.int_inv r1, q.1, ?_⟩
  exact Cont.lst (Cont.shift k E1) S1 (rg1_rp _) q.2
theorem le_rlist2 (hc : X.calm = true) (hg : Gl X "list") (hm : X.mg "list" = none) (hg2 : Gl X "range") (hm2 : X.mg "range" = none) (ha : LE X G a ta) (hb : LE X G b tb) (na : starEach [a, b] X.env = (false, eval a X.env) :: starEach [b] X.env) (nb : starEach [b] X.env = (false, eval b X.env) :: starEach [] X.env) :
    LE X G (.Call (.Name "list" p) [.Call (.Name "range" p2) [a, b] [] pos2] [] pos) (fun ρ η Q => ta ρ η fun v η1 => v.fz.settled ∧ tb ρ η1 fun w η2 => w.fz.settled ∧ biW .rlist2 [v.fz, w.fz] η2 fun r => Q r η2) := by
  refine (pe_listRg hc hg hm (prg_2 hg2 hm2 ha hb na nb (hp := by rw [nb]; rfl)) rfl).weak ?_
  rintro σ H Q ⟨ρ, L, Z, η, Qp, S, s, t, k⟩
  refine step (P := fun v η1 => v.settled ∧ tb ρ η1 fun w η2 => w.fz.settled ∧ biW .rlist2 [v, w.fz] η2 fun r => Qp r η2) S s t fun xv v L1 Z1 η1 H1 S1 s1 E1 r1 q => ?_
  obtain ⟨_, q⟩ := q
  refine step (P := fun w η2 => w.settled ∧ biW .rlist2 [v, w] η2 fun r => Qp r η2) S1 s1 q fun yv w L2 Z2 η2 H2 S2 s2 E2 r2 q => ?_
  obtain ⟨_, q⟩ := q
  rcases v with d | n | o
  · rcases w with d' | n' | o'
    · cases d <;> cases d' <;> first | exact False.elim q | skip
      refine ⟨_, _, Rp.int_inv r1, Rp.int_inv r2, q.1, ?_⟩
      exact Cont.lst (Cont.shift k (E1.trans E2)) S2 (rg_rp _ _) q.2
    · cases d <;> exact False.elim q
    · cases d <;> exact False.elim q
  · exact False.elim q
  · exact False.elim q
theorem le_rtup1 (hc : X.calm = true) (hg : Gl X "tuple") (hm : X.mg "tuple" = none) (hg2 : Gl X "range") (hm2 : X.mg "range" = none) (ha : LE X G a ta) (na : starEach [a] X.env = (false, eval a X.env) :: starEach [] X.env) :
    LE X G (.Call (.Name "tuple" p) [.Call (.Name "range" p2) [a] [] pos2] [] pos) (fun ρ η Q => ta ρ η fun v η1 => v.fz.settled ∧ biW .rtup1 [v.fz] η1 fun r => Q r η1) := by
  refine (pe_tupRgF hc hg hm (prg_1 hg2 hm2 ha na) rfl).weak ?_
  rintro σ H Q ⟨ρ, L, Z, η, Qp, S, s, t, k⟩
  refine step (P := fun v η1 => v.settled ∧ biW .rtup1 [v] η1 fun r => Qp r η1) S s t fun xv v L1 Z1 η1 H1 S1 s1 E1 r1 q => ?_
  obtain ⟨_, q⟩ := q
  rcases v with d | n | o <;> first | exact False.elim q | skip
  cases d <;> first | exact False.elim q | skip
  refine ⟨_, Rp.int_inv r1, q.1, ?_⟩
  exact Cont.tup (Cont.shift k E1) S1 (rg1_rp _) q.2
theorem le_rtup2 (hc : X.calm = true) (hg : Gl X "tuple") (hm : X.mg "tuple" = none) (hg2 : Gl X "range") (hm2 : X.mg "range" = none) (ha : LE X G a ta) (hb : LE X G b tb) (na : starEach [a, b] X.env = (false, eval a X.env) :: starEach [b] X.env) (nb : starEach [b] X.env = (false, eval b X.env) :: starEach [] X.env) :
    LE X G (.Call (.Name "tuple" p) [.Call (.Name "range" p2) [a, b] [] pos2] [] pos) (fun ρ η Q => ta ρ η fun v η1 => v.fz.settled ∧ tb ρ η1 fun w η2 => w.fz.settled ∧ biW .rtup2 [v.fz, w.fz] η2 fun r => Q r η2) := by
  refine (pe_tupRgF hc hg hm (prg_2 hg2 hm2 ha hb na nb (hp := by rw [nb]; rfl)) rfl).weak ?_
  rintro σ H Q ⟨ρ, L, Z, η, Qp, S, s, t, k⟩
  refine step (P := fun v η1 => v.settled ∧ tb ρ η1 fun w η2 => w.fz.settled ∧ biW .rtup2 [v, w.fz] η2 fun r => Qp r η2) S s t fun xv v L1 Z1 η1 H1 S1 s1 E1 r1 q => ?_
  obtain ⟨_, q⟩ := q
  refine step (P := fun w η2 => w.settled ∧ biW .rtup2 [v, w] η2 fun r => Qp r η2) S1 s1 q fun yv w L2 Z2 η2 H2 S2 s2 E2 r2 q => ?_
  obtain ⟨_, q⟩ := q
  rcases v with d | n | o
  · rcases w with d' | n' | o'
    · cases d <;> cases d' <;> first | exact False.elim q | skip
      refine ⟨_, _, Rp.int_inv r1, Rp.int_inv r2, q.1, ?_⟩
      exact Cont.tup (Cont.shift k (E1.trans E2)) S2 (rg_rp _ _) q.2
    · cases d <;> exact False.elim q
    · cases d <;> exact False.elim q
  · exact False.elim q
  · exact False.elim q
end

/-! ## sorted -/
end
section
open PySem.Builtin
theorem collect_tup {prog : Program} {w : World} {A : Around} {E : Value → Shared → Prop} {s : Shared} {l : Addr} {vs : List Value} {Q : List Value → Shared → Prop} {o : Obj} {n : Nat} (ho : s.heap.get? l = some o) (hc : o.cls = .type "tuple") (hd : o.data = .seq vs.toArray n)
    (hsz : vs.length ≤ sizeLine) (h : Q vs { s with heap := (s.heap.push (seqObj "list" #[] 0)).update s.heap.objs.size (Obj.mapSeq (· ++ vs.toArray)) }) : wpAny (model prog w) A (collect (.ref l)) Q E s := by
  unfold collect
  refine wpAny_bind (wpAny_runValue (codeAny_builtin entry_proto_collect' ?_)); show wpAny _ _ (do again (.builtin "list.__iadd__" ⟨[← newList [], .ref l], []⟩)) _ _ s
  refine wpAny_bind (wpAny_newList (wpAny_pure ⟨Code.quiet_builtin _ (by decide +kernel), codeAny_builtin entry_list_iadd' ?_⟩)); show wpAny _ _ (Builtin.List.listExtendWith (.ref s.heap.objs.size) (.ref l) (.ref s.heap.objs.size)) _ _ { s with heap := s.heap.push (seqObj "list" #[] 0) }
  unfold Builtin.List.listExtendWith
  have ho' : (s.heap.push (seqObj "list" #[] 0)).get? l = some o := Heap.get?_push_of_some _ ho
  refine wpAny_bind (wpAny_typeOf (T := "tuple") ⟨o, ho', hc⟩ ?_)
  have ht : (Value.type "tuple" == Value.type "tuple") = true := by rfl
  rw [if_pos (by rw [ht]; simp)]
  refine wpAny_bind (listItems_at ho' hd (wpAny_bind (listItems_at (xs := #[]) (n := 0) (Heap.get?_push_size _ rfl) rfl ?_)))
  rw [if_neg (by simp)]
  refine wpAny_bind (listUpdate_at (xs := #[]) (n := 0) (Heap.get?_push_size _ rfl) rfl (wpAny_pure ?_) (Nat.zero_le _) (by show (#[] ++ vs.toArray).size ≤ sizeLine + 1; rw [Array.size_append, List.size_toArray]; simp only [List.size_toArray, List.length_nil]; omega))
  show wpAny (model prog w) A (load s.heap.objs.size >>= fun o => match o.data with
      | .seq xs _ => pure xs.toList
      | _ => unsupported "internal:collect") Q E { s with heap := (s.heap.push (seqObj "list" #[] 0)).update s.heap.objs.size (Obj.mapSeq (· ++ vs.toArray)) }
  refine wpAny_bind (wpAny_load (get?_update_seq (Heap.get?_push_size _ rfl) _) ?_)
  show wpAny _ _ (pure ((#[] : Array Value) ++ vs.toArray).toList) Q E _
  have e : ((#[] : Array Value) ++ vs.toArray).toList = vs := by simp
  rw [e]
  exact wpAny_pure h
theorem sortedT_vals {prog : Program} {w : World} {A : Around} {E : Value → Shared → Prop} {s : Shared} {κ : PyProof.Rows.KeyKind} {l : Addr} {vs : List Value} {Q : Value → Shared → Prop} {o : Obj} {n : Nat} (ho : s.heap.get? l = some o) (hc : o.cls = .type "tuple") (hd : o.data = .seq vs.toArray n)
    (S : PySem.W.SortsAt prog w A.in1.in1 { s with heap := PySem.W.sortingHeap (PySem.W.copyHeap s.heap vs) (s.heap.objs.size + 1) vs } κ vs) (hL : vs.length ≤ sizeLine)
    (h : Q (.ref (s.heap.objs.size + 1)) { s with heap := sortedAll s.heap vs (PySem.W.sortVals κ false vs vs).toArray }) : wpAny (model prog w) A (call (.builtin "sorted") [.ref l]) Q E s := by
  refine call_function_entry_kw kind_sorted plain_sorted entry_sorted (PyProof.Rows.args_sorted1 _) ?_
  unfold Builtin.«sorted»
  refine wpAny_bind (m := checkCount "sorted" 1 1 _) (wpAny_pure (wpAny_bind (collect_tup ho hc hd hL (wpAny_bind (wpAny_newList ?_ hL)))))
  have hsz : ((s.heap.push (seqObj "list" #[] 0)).update s.heap.objs.size (Obj.mapSeq (· ++ vs.toArray))).objs.size = s.heap.objs.size + 1 := by rw [Heap.size_update, PyProof.Rows.size_push']
  show wpAny _ _ _ _ _ { s with heap := PySem.W.copyHeap s.heap vs }
  rw [hsz]
  refine wpAny_bind (wpAny_holding (wpAny_call_entry_kw PyProof.Rows.slot_list_sort ⟨_, PySem.W.copyHeap_at s.heap vs, rfl⟩ entry_list_sort ?body (PyProof.Rows.args_list_sort _)))
  case body =>
    show wpAny (model prog w) A.in1.in1 (Builtin.«list.sort» ⟨[.ref (s.heap.objs.size + 1)], []⟩) _ _ _
    exact PySem.W.list_sort_vals (s := { s with heap := PySem.W.copyHeap s.heap vs }) (PySem.W.copyHeap_at s.heap vs) S hL ⟨_, rfl, wpAny_pure ⟨_, rfl, h⟩⟩
end
section
variable {X : Cx} {G : Gh} {L : Loc} {Z : Hp} {η : Reg} {H : Hp} {Qd : Vl → Prop} {Q : VK}
def rSortZ (Z : Hp) : List V → Hp → VK → Prop := fun vs H Q => ∃ (a : Addr) (xs : List V) (ds : List D), vs = [.ref a] ∧ (Rd H a (.lst xs) ∨ Rd H a (.tup xs)) ∧ Sub Z H ∧ RpAll Z xs ds ∧
  (PySem.W.AllAlike ds ∧ PySem.W.Sortable ds ∧ ∀ d ∈ ds, d.depth ≤ 50) ∧
  ∀ ys, RpAll Z ys (ds.mergeSort (PySem.W.dataLe false id)) → ∀ p, H p = none → Q (.ref p) (upd H p (.lst ys))
theorem each_of {R : Value → D → Prop} {Z : Hp} (hR : ∀ v d u, Rp Z v d → RelV v u → R u d) : ∀ {xs : List V} {us : List Value} {ds : List D}, Vals xs us → RpAll Z xs ds → PySem.W.EachIs R us ds
  | _, _, [], .nil, h => .nil
  | _, _, d :: ds, .cons r t, h => by
    cases h with
    | cons h1 h2 => exact .cons (hR _ _ _ h1 r) (each_of hR t h2)
theorem of_each {Z : Hp} : ∀ {us : List Value} {ds : List D}, PySem.W.EachIs (fun u d => ∃ v, RelV v u ∧ Rp Z v d) us ds → ∃ ys, Vals ys us ∧ RpAll Z ys ds
  | _, _, .nil => ⟨[], .nil, .nil⟩
  | _, _, .cons ⟨v, r1, r2⟩ t => by
    obtain ⟨ys, h1, h2⟩ := of_each t
    exact ⟨v :: ys, .cons r1 h1, .cons r2 h2⟩
theorem op_sorted (hu : X.A.units + 64 < cLine) (Z : Hp) : CallR X (.builtin "sorted") (rSortZ Z) := by
  rintro pins s σ H xs us Q I rv ⟨a, ys, ds, rfl, hr, hz, rp, ⟨h1, h2, h3⟩, q⟩
  obtain ⟨u, rfl, ru⟩ := vals1 rv
  cases ru
  have fin : ∀ (vs : List Value) (out : List Value), Vals ys vs → out.length = ds.length → PySem.W.EachIs (fun u d => ∃ v, RelV v u ∧ Rp Z v d) out (ds.mergeSort (PySem.W.dataLe false id)) → ys.length ≤ sizeLine →
      EP X pins σ Q (.ref (s.heap.objs.size + 1)) { s with heap := PyProof.Rows.sortedAll s.heap vs out.toArray } := by
    intro vs out r ho eo hl
    obtain ⟨zs, hv, hrp⟩ := of_each eo
    obtain ⟨ep, he'⟩ := PyProof.Rows.sortedAll_at s.heap vs out.toArray
    refine ⟨.ref _, upd H (s.heap.objs.size + 1) (.lst zs), I.laid (t' := s.toks) (fun _ _ => PyProof.Rows.sortedAll_old) (Nat.le_succ _) ⟨?_, out, ep, hv, he'⟩, rfl, q zs hrp _ (I.hok.fresh (Nat.le_succ _))⟩
    rw [hv.length, ho, ← rp.length]
    exact hl
  have erd : ∀ vs : List Value, Vals ys vs → PySem.W.EachIs (fun v b => ∃ as, Reads s.heap v (id b) as) vs ds := fun vs r => each_of (fun v d u p rel => Dp.reads I d v u (Rp.dp _ _ (Rp.mono hz _ _ p)) rel) r rp
  have ern : ∀ vs : List Value, Vals ys vs → PySem.W.EachIs (fun u d => ∃ v, RelV v u ∧ Rp Z v d) vs ds := fun vs r => each_of (fun v d u p rel => ⟨v, rel, p⟩) r rp
  have hun : ∀ b, b ∈ ds → X.A.units + 2 + (id b : D).depth < cLine := fun b hb => by have := h3 b hb; show _ + PyData.depth b < _; omega
  rcases hr with hr | hr
  · obtain ⟨hl, vs, n, r, e⟩ := rd_lst I hr
    exact PySem.W.sorted_data (enc := id) (R := fun u d => ∃ v, RelV v u ∧ Rp Z v d) ⟨_, e, rfl, _, rfl⟩ (ern vs r) (erd vs r) (by rw [List.map_id]; exact h1) (by rw [List.map_id]; exact h2) (by rw [← rp.length]; exact hl) hun
      fun out ho eo => fin vs out r ho eo hl
  · obtain ⟨hl, vs, r, pa⟩ := rd_tup I hr
    obtain ⟨o, ho, hc, n, hd⟩ := pa
    have er' : PySem.W.EachIs (fun v b => ∃ as, Reads (PySem.W.sortingHeap (PySem.W.copyHeap s.heap vs) (s.heap.objs.size + 1) vs) v (id b) as) vs ds := (erd vs r).mono fun _ _ ⟨as, r⟩ => ⟨as, PyProof.Rows.Reads.keeps (fun _ _ => PySem.W.sorting_copy_old) r⟩
    exact sortedT_vals ho hc hd (PySem.W.SortsAt.data (s := { s with heap := PySem.W.sortingHeap (PySem.W.copyHeap s.heap vs) (s.heap.objs.size + 1) vs }) (PySem.W.each_map (R := fun v d => ∃ as, Reads (PySem.W.sortingHeap (PySem.W.copyHeap s.heap vs) (s.heap.objs.size + 1) vs) v d as) id er')
      (by rw [List.map_id]; exact h1) (by rw [List.map_id]; exact h2) (PySem.W.bound_map hun)) (by rw [← r.length]; exact hl) (fin vs _ r (by rw [PySem.W.sortVals_length false rfl]; exact (ern vs r).length) (PySem.W.sortVals_data false (ern vs r) er' (by rw [List.map_id]; exact h1)) hl)
theorem le_sorted {t : LTA} {p pos : Pos} {e : Expr} (hu : X.A.units + 64 < cLine) (hg : Gl X "sorted") (hm : X.mg "sorted" = none) (ha : LA X G [e] t) (he : starEach [e] X.env = (false, eval e X.env) :: starEach [] X.env) :
    LE X G (.Call (.Name "sorted" p) [e] [] pos) (fun ρ η Q => t ρ η fun vs η1 => biW .sorted vs η1 fun r => Q r η1) := by
  refine ⟨fun pins s σ H Q I h => ?_⟩
  obtain ⟨ρ, L, Z, η, Qp, S, s', tt, k⟩ := h
  refine (pe_callB (r := fun xs H Q => ∃ Z, rSortZ Z xs H Q) (fun pins s σ H xs us Q I rv ⟨Z, h⟩ => op_sorted hu Z pins s σ H xs us Q I rv h) hg hm boot_sorted ha (he := he)).run pins s σ H Q I ?_
  refine stepA (P := fun vs η1 => biW .sorted vs η1 fun r => Qp r η1) S s' tt fun xs vs L1 Z1 η1 H1 S1 s1 E1 r1 q => ⟨Z1, ?_⟩
  rcases vs with _ | ⟨v, _ | ⟨w, rest⟩⟩ <;> first | exact False.elim q | skip
  obtain ⟨x, rfl, rr⟩ := RepVs.one r1
  obtain ⟨d, ed, q⟩ := onView_some q
  have w := rr.view S1 ed
  cases d <;> first | exact False.elim q | skip
  · obtain ⟨a, ys, rfl, h1, h2⟩ := w
    exact ⟨a, ys, _, rfl, .inl h1, S1.zh, h2, q.1, fun zs hz => Cont.lst (Cont.shift k E1) S1 hz q.2⟩
  · obtain ⟨a, o, ys, rfl, h1, _, h2⟩ := w.tup
    exact ⟨a, ys, _, rfl, .inr (.inr ⟨_, S1.zh _ _ h1⟩), S1.zh, h2, q.1, fun zs hz => Cont.lst (Cont.shift k E1) S1 hz q.2⟩

/-! ## methods -/
def mtId : Mt → String
  | .append => "list.append" | .pop => "list.pop" | .popAt => "list.pop" | .extend => "list.extend" | .index => "list.index" | .split => "str.split" | .bitlen => "int.bit_length"
end
end Pl

namespace Pl
open PySem PySem.Spec PyProof.Rows L2

/-! ## sets of whole numbers: sorted(set(x)), len(set(x)) -/
section
variable {X : Cx} {pins : List (Addr × Obj)} {G : Gh} {L : Loc} {Z : Hp} {η : Reg} {H : Hp} {Q : VK}
/-- set(x), x a tuple -/
def rSetI (K : PySem.W.Frag) (w : World) : List V → Hp → VK → Prop := fun vs H Q => ∃ (p : Addr) (ns : List Int), vs = [.ref p] ∧ SqT K H p (ns.map V.int) ∧ ns.length < 64 ∧
  ∀ (q : Addr) (c : Nat), c ≤ ns.length → (∀ ms : List Int, ms.Nodup → (∀ k, k ∈ ms ↔ k ∈ ns) → ms.length = c) → H q = none → Q (.ref q) (upd H q (SetO w q (fun j => decide (j ∈ ns)) c))
theorem setR_count {w : World} {h : Heap} {a : Addr} {ns : List Int} {c : Nat} (R : SetR w h a (fun j => decide (j ∈ ns)) c) {ms : List Int} (nd : ms.Nodup) (hm : ∀ k, k ∈ ms ↔ k ∈ ns) : ms.length = c := by
  obtain ⟨o, es, ep, t, _, _, _, _, n1, m1, _, _, hn, _⟩ := R
  have pm : ms.Perm (es.toList.map keyOf) := (List.perm_ext_iff_of_nodup nd n1).mpr fun k => by rw [hm k, ← m1 k, decide_eq_true_iff]
  rw [pm.length_eq, List.length_map, Array.length_toList, hn]
theorem cr_setI (hc : X.calm = true) : CallR X (.type "set") (rSetI X.K X.w) := by
  intro pins s σ H vs us Q I r h
  obtain ⟨p, ns, rfl, hp, hl, q⟩ := h
  cases r with
  | cons r1 r2 =>
    cases r2
    cases r1
    obtain ⟨its, rv, pt, _⟩ := I.tuple hp
    refine call_set_tupI ns (I.ok.hd hc) (show s.heap.IsTuple p its.toArray from pt) (by simpa using ints_of_vals rv) (by unfold scanBound; omega) fun h1 tk c R hcn old => ?_
    exact ⟨.ref _, _, I.laid (t' := tk) (o := SetO X.w s.heap.objs.size (fun j => decide (j ∈ ns)) c) (fun b u e => old b u e) (Nat.le_refl _) (setO_new R), rfl, q _ c hcn (fun ms nd hm => setR_count R nd hm) (I.hok.fresh (Nat.le_refl _))⟩
/-- len(s) of such a set -/
def rLenS (w : World) : List V → Hp → VK → Prop := fun vs H Q => ∃ (a : Addr) (S : Int → Bool) (n : Nat), vs = [.ref a] ∧ H a = some (SetO w a S n) ∧ n < 10000 ∧ Q (.int (n : Nat)) H
theorem cr_lenS : CallR X (.builtin "len") (rLenS X.w) := by
  intro pins s σ H vs us Q I r h
  obtain ⟨a, S, n, rfl, ha, hn, q⟩ := h
  obtain ⟨o, es, ep, t, ho, hex, hd, _, _, _, _, hf, e, _⟩ := setO_get I ha
  rw [Vals.ref1 r]
  exact call_len_set ho hex hd hf (by rw [e]; omega) ⟨.int (n : Nat), H, I.tok _, ⟨_, by rw [e]⟩, q⟩
theorem ints_rpS : ∀ (ns : List Int), RpAll Z (ns.map V.int) (ns.map PyData.int)
  | [] => .nil
  | n :: ns => .cons (.int n) (ints_rpS ns)
theorem le_sset {a : Expr} {ta : LTE} {p p2 q pos : Pos} (hc : X.calm = true) (g1 : Gl X "sorted") (m1 : X.mg "sorted" = none) (g2 : Gl X "set") (m2 : X.mg "set" = none) (ha : LE X G a ta) (he : starEach [a] X.env = (false, eval a X.env) :: starEach [] X.env) :
    LE X G (.Call (.Name "sorted" p) [.Call (.Name "set" p2) [a] [] q] [] pos) (fun ρ η Q => ta ρ η fun v η1 => onView v.fz η1 fun x => ssetD x fun ms => Q (.fr (.lst (ms.map PyData.int))) η1) := by
  have h1 := pe_callTy (p := p2) (pos := q) (cr_setI hc) g2 m2 PyProof.Rows.boot_set (pa_cons ha pa_nil he) (by decide) (by decide) he rfl
  have h2 := pe_callB (p := p) (pos := pos) (cr_sortedSet hc) g1 m1 boot_sorted (pa_cons h1 pa_nil) (by decide) (by decide)
  refine h2.weak ?_
  rintro σ H Q ⟨ρ, L, Z, η, Qp, S, s, t, k⟩
  refine step (P := fun v η1 => onView v η1 fun x => ssetD x fun ms => Qp (.fr (.lst (ms.map PyData.int))) η1) S s t fun xv v L1 Z1 η1 H1 S1 s1 E1 r1 q => ?_
  obtain ⟨x, ex, q⟩ := onView_some q
  have rx := r1.view S1 ex
  cases x <;> first | exact False.elim q | skip
  obtain ⟨ns, rfl, hl, q⟩ := q
  obtain ⟨pa, o, xs, rfl, hp, hd, r⟩ := rx.tup
  have e := rp_ints r
  subst e
  refine ⟨pa, ns, rfl, .inl (.inr ⟨_, S1.zh _ _ hp⟩), hl, fun qa c hcn _ hq => ?_⟩
  obtain ⟨f1, f2, f3⟩ := S1.fresh hq
  have S2 := S1.other (o := SetO X.w qa (fun j => decide (j ∈ ns)) c) f1 f2 f3
  refine ⟨qa, _, c, rfl, upd_same, by omega, fun ms p' hs hm _ hn => ?_⟩
  exact Cont.lst (Cont.shift k E1) S2 (ints_rpS ms) (q ms hs fun j => by rw [hm j, decide_eq_true_iff]) p' hn
theorem le_nset {a : Expr} {ta : LTE} {p p2 q pos : Pos} (hc : X.calm = true) (g1 : Gl X "len") (m1 : X.mg "len" = none) (g2 : Gl X "set") (m2 : X.mg "set" = none) (ha : LE X G a ta) (he : starEach [a] X.env = (false, eval a X.env) :: starEach [] X.env) :
    LE X G (.Call (.Name "len" p) [.Call (.Name "set" p2) [a] [] q] [] pos) (fun ρ η Q => ta ρ η fun v η1 => onView v.fz η1 fun x => nsetD x fun c => Q (.dat (.int (c : Nat))) η1) := by
  have h1 := pe_callTy (p := p2) (pos := q) (cr_setI hc) g2 m2 PyProof.Rows.boot_set (pa_cons ha pa_nil he) (by decide) (by decide) he rfl
  have h2 := pe_callB (p := p) (pos := pos) cr_lenS g1 m1 PySem.boot_len (pa_cons h1 pa_nil) (by decide) (by decide)
  refine h2.weak ?_
  rintro σ H Q ⟨ρ, L, Z, η, Qp, S, s, t, k⟩
  refine step (P := fun v η1 => onView v η1 fun x => nsetD x fun c => Qp (.dat (.int (c : Nat))) η1) S s t fun xv v L1 Z1 η1 H1 S1 s1 E1 r1 q => ?_
  obtain ⟨x, ex, q⟩ := onView_some q
  have rx := r1.view S1 ex
  cases x <;> first | exact False.elim q | skip
  obtain ⟨ns, rfl, hl, q⟩ := q
  obtain ⟨pa, o, xs, rfl, hp, hd, r⟩ := rx.tup
  have e := rp_ints r
  subst e
  refine ⟨pa, ns, rfl, .inl (.inr ⟨_, S1.zh _ _ hp⟩), hl, fun qa c hcn hcnt hq => ?_⟩
  obtain ⟨f1, f2, f3⟩ := S1.fresh hq
  have S2 := S1.other (o := SetO X.w qa (fun j => decide (j ∈ ns)) c) f1 f2 f3
  refine ⟨qa, _, c, rfl, upd_same, by omega, ?_⟩
  exact Cont.dat (Cont.shift k E1) S2 (.int _) (q c hcnt)
end
end Pl

namespace Pl
open PySem PySem.Spec PyProof.Rows L2

/-! ## methods of built-in types -/
def tyM (T : String) (x : V) (H : Hp) : Prop := match x with
  | .str _ => T = "str"
  | .int _ => T = "int"
  | .ref p => (T = "list" ∧ ∃ xs, Rd H p (.lst xs)) ∨ (T = "tuple" ∧ ∃ o xs, H p = some (.frz o (.tup xs)) ∧ o.dict = none) ∨ (T = "dict" ∧ ((∃ kvs, H p = some (.dK kvs)) ∨ ∃ kvs, H p = some (.dT kvs)))
  | _ => False
theorem tyM_is {X : Cx} {pins : List (Addr × Obj)} {σ : SV} {H : Hp} {s : Shared} {T : String} {x : V} {v : Value} (I : Inv X pins σ H s) (r : RelV x v) (ty : tyM T x H) :
    s.TypeIs v T ∧ ∀ a, v = .ref a → ∃ ob, s.heap.get? a = some ob ∧ ob.dict = none := by
  cases x with
  | str z => obtain ⟨t, rfl⟩ := r; cases (show T = "str" from ty); exact ⟨typeIs_str s z t, fun _ e => nomatch e⟩
  | int i => obtain ⟨t, rfl⟩ := r; cases (show T = "int" from ty); exact ⟨typeIs_int s i t, fun _ e => nomatch e⟩
  | ref p =>
    cases r
    rcases ty with ⟨rfl, xs, h⟩ | ⟨rfl, o, xs, h, hd⟩ | ⟨rfl, h⟩
    · obtain ⟨_, vs, n, _, e⟩ := rd_lst I h
      refine ⟨⟨_, e, rfl⟩, fun a q => ?_⟩
      cases q
      exact ⟨_, e, rfl⟩
    · obtain ⟨e, _, vs, _, ob, e2, hc, _⟩ := I.hok p _ h
      rw [e] at e2
      cases e2
      refine ⟨⟨o, e, hc⟩, fun a q => ?_⟩
      cases q
      exact ⟨o, e, hd⟩
    · have z : ∃ o, s.heap.get? p = some o ∧ o.ExactDict := by
        rcases h with ⟨kvs, h⟩ | ⟨kvs, h⟩
        · obtain ⟨_, _, _, _, o, _, _, e, ex, _⟩ := I.hok p _ h
          exact ⟨o, e, ex⟩
        · obtain ⟨_, _, _, _, o, _, _, e, ex, _⟩ := I.hok p _ h
          exact ⟨o, e, ex⟩
      obtain ⟨o, e, ex⟩ := z
      refine ⟨⟨o, e, ex.1⟩, fun a q => ?_⟩
      cases q
      exact ⟨o, e, ex.2.1⟩
  | _ => exact False.elim ty
/-- a method that is known -/
structure MtK (X : Cx) (name : Str) (T : String) (r : V → List V → Hp → VK → Prop) : Prop where
  pa : PlainAttrs T
  ex : ∃ id, Slot T name id ∧ typeOf (.builtin id) = pure (.type "method_descriptor") ∧ MtR X id r
def tMet (X : Cx) (name : Str) (to : TE) (t : TA) : TE := fun σ H Q => to σ H fun x H1 => ∃ T r, MtK X name T r ∧ tyM T x H1 ∧ t σ H1 fun xs H2 => r x xs H2 Q
section
variable {X : Cx} {o e : Expr} {es : List Expr} {to : TE} {t : TA} {name : Str} {apos cpos : Pos}
theorem pe_met1 (ho : PE X o to) (ha : PA X [e] t) (hbase : attributeBase o name X.env (eval o X.env) = eval o X.env) (hline : (apos.endLine == cpos.line) = true)
    (hs : starEach [e] X.env = (false, eval e X.env) :: starEach [] X.env) : PE X (.Call (.Attribute o name apos) [e] [] cpos) (tMet X name to t) := by
  refine ⟨fun pins s σ H Q I h => wpAny_Call_method_late hbase (by rw [hs]; rfl) hline rfl (thn (ho.run pins s σ H _ I h) ?_)⟩
  rintro v s1 ⟨x, H1, I1, r1, T, r, ⟨pa, id, slot, hty, hm⟩, ty, q1⟩
  obtain ⟨h1, h2⟩ := tyM_is I1 r1 ty
  refine ⟨T, id, pa, slot, hty, h1, h2, ?_⟩
  have hA := ha.run cpos pins s1 σ H1 _ I1 q1
  rw [hs] at hA ⊢
  refine Calls.callWith_builtin rfl (Calls.evalArgs_plain (thn hA ?_))
  rintro us s2 ⟨vs, H2, I2, r2, q2⟩
  exact hm pins s2 σ H2 x vs v us Q I2 r1 r2 q2
theorem pe_met0 (ho : PE X o to) (hbase : attributeBase o name X.env (eval o X.env) = eval o X.env) (hline : (apos.endLine == cpos.line) = true) : PE X (.Call (.Attribute o name apos) [] [] cpos) (tMet X name to tNil) := by
  refine ⟨fun pins s σ H Q I h => wpAny_Call_method0_late hbase hline (thn (ho.run pins s σ H _ I h) ?_)⟩
  rintro v s1 ⟨x, H1, I1, r1, T, r, ⟨pa, id, slot, hty, hm⟩, ty, q1⟩
  obtain ⟨h1, h2⟩ := tyM_is I1 r1 ty
  exact ⟨T, id, pa, slot, hty, h1, h2, Calls.callWith_builtin rfl (PySem.evalArgs_none (hm pins s1 σ H1 x [] v [] Q I1 r1 .nil q1))⟩
end
section
variable {X : Cx}
/-! the rules by values -/
def rIdxP (T : String) : V → List V → Hp → VK → Prop := fun x xs H Q => ∃ y ds d, xs = [y] ∧ Rp H y d ∧ ((T = "list" ∧ Rp H x (.list ds)) ∨ (T = "tuple" ∧ Rp H x (.tuple ds))) ∧ firstAt ds d fun j => Q (.int (j : Nat)) H
theorem reads_get {h : Heap} : ∀ {vs : List Value} {ds : List D} {as : List Addr} {i : Nat} {v : Value}, ReadsAll h vs ds as → vs[i]? = some v → ∃ d bs, ds[i]? = some d ∧ Reads h v d bs
  | _, _, _, i, v, .nil, e => by simp at e
  | _, _, _, 0, v, .cons r t, e => by simp at e; subst e; exact ⟨_, _, rfl, r⟩
  | _, _, _, i + 1, v, .cons r t, e => by
    obtain ⟨d, bs, a, b⟩ := reads_get (i := i) t (by simpa using e)
    exact ⟨d, bs, by simpa using a, b⟩
theorem reads_len {h : Heap} : ∀ {vs : List Value} {ds : List D} {as : List Addr}, ReadsAll h vs ds as → vs.length = ds.length
  | _, _, _, .nil => rfl
  | _, _, _, .cons r t => by rw [List.length_cons, List.length_cons, reads_len t]
theorem mt_listIdx (hu : X.A.units + 64 < cLine) : MtR X "list.index" (rIdxP "list") := by
  rintro pins s σ H x xs v us Q I rx rv ⟨y, ds, d, rfl, ry, hx, hz, j, z, hj, hyes, hno, q⟩
  rcases hx with ⟨_, hx⟩ | ⟨h, _⟩
  · obtain ⟨u, rfl, ru⟩ := vals1 rv
    obtain ⟨bs, r2⟩ := Dp.reads I d y u (Rp.dp _ _ ry) ru
    have pd := Rp.plain _ _ ry
    have pl := Rp.plain _ _ hx
    rw [PyData.plain] at pl
    cases hx with
    | lst h1 h2 =>
      cases rx
      obtain ⟨hsz, vs, n, r, e⟩ := rd_lst I h1
      obtain ⟨as, rall⟩ := Dp.readsAll I ds _ vs (RpAll.dp _ _ h2) r
      have hl := reads_len rall
      have hjl : j < vs.length := by rw [hl]; exact (List.getElem?_eq_some_iff.mp hj).1
      have line := sizeLine_eq
      have val : ∀ (m : Nat) (hm : m < vs.toArray.size), ∃ w, ds[m]? = some w ∧ SeqAt.readOf s.heap vs.toArray[m] = w := fun m hm => by
        have hm' : m < vs.length := by simpa using hm
        obtain ⟨w, cs, hw, rw'⟩ := reads_get rall (List.getElem?_eq_getElem hm')
        refine ⟨w, hw, ?_⟩
        have pw : w.plain = true := by
          obtain ⟨vv, _, rp⟩ := h2.get hw
          exact Rp.plain _ _ rp
        simpa using SeqAt.readOf_plain pw rw'
      refine call_meets PySem.F.slot_list_index ⟨_, e, rfl⟩ PySem.F.entry_list_index (PySem.F.args_list_index_2 _ _)
        (SeqAt.list_indexAt _ vs.toArray n none #[] u (fun w => PyData.eqv (SeqAt.readOf s.heap w) d) j (by simpa using hjl) ?_ ?_ ?_)
        ⟨e, SeqAt.items_plain (by simpa using rall) r2 pl pd (by omega), ⟨.int (j : Nat), H, I.tok _, ⟨_, rfl⟩, q⟩⟩
      · have : vs.length ≤ sizeLine := by rw [hl, ← h2.length]; exact hsz
        rw [line] at this
        omega
      · obtain ⟨w, hw, ev⟩ := val j (by simpa using hjl)
        rw [hj] at hw
        cases hw
        show PyData.eqv (SeqAt.readOf s.heap vs.toArray[j]) d = true
        rw [ev]
        exact hyes
      · intro m hm hmj
        obtain ⟨w, hw, ev⟩ := val m hm
        show PyData.eqv (SeqAt.readOf s.heap vs.toArray[m]) d = false
        rw [ev]
        exact hno m w hmj hw
  · exact absurd h (by decide)
theorem mt_tupIdx (hu : X.A.units + 64 < cLine) : MtR X "tuple.index" (rIdxP "tuple") := by
  rintro pins s σ H x xs v us Q I rx rv ⟨y, ds, d, rfl, ry, hx, hz, j, z, hj, hyes, hno, q⟩
  rcases hx with ⟨h, _⟩ | ⟨_, hx⟩
  · exact absurd h (by decide)
  · obtain ⟨u, rfl, ru⟩ := vals1 rv
    obtain ⟨bs, r2⟩ := Dp.reads I d y u (Rp.dp _ _ ry) ru
    have pd := Rp.plain _ _ ry
    have pl := Rp.plain _ _ hx
    rw [PyData.plain] at pl
    cases hx with
    | tup h1 hdn h2 =>
      cases rx
      obtain ⟨hsz, vs, r, ⟨⟨cls, dd, data, sl⟩, e, hc, n, hd⟩⟩ := rd_tup I (.inr ⟨_, h1⟩)
      simp only at hc hd
      subst hc hd
      obtain ⟨as, rall⟩ := Dp.readsAll I ds _ vs (RpAll.dp _ _ h2) r
      have hl := reads_len rall
      have hjl : j < vs.length := by rw [hl]; exact (List.getElem?_eq_some_iff.mp hj).1
      have val : ∀ (m : Nat) (hm : m < vs.toArray.size), ∃ w, ds[m]? = some w ∧ SeqAt.readOf s.heap vs.toArray[m] = w := fun m hm => by
        have hm' : m < vs.length := by simpa using hm
        obtain ⟨w, cs, hw, rw'⟩ := reads_get rall (List.getElem?_eq_getElem hm')
        refine ⟨w, hw, ?_⟩
        have pw : w.plain = true := by
          obtain ⟨vv, _, rp⟩ := h2.get hw
          exact Rp.plain _ _ rp
        simpa using SeqAt.readOf_plain pw rw'
      refine call_meets PySem.F.slot_tuple_index ⟨_, e, rfl⟩ PySem.F.entry_tuple_index (PySem.F.args_tuple_index_2 _ _)
        (TI.tuple_indexAt _ vs.toArray n dd sl u (fun w => PyData.eqv (SeqAt.readOf s.heap w) d) j (by simpa using hjl) ?_ ?_)
        ⟨e, SeqAt.items_plain (by simpa using rall) r2 pl pd (by omega), ⟨.int (j : Nat), H, I.tok _, ⟨_, rfl⟩, q⟩⟩
      · obtain ⟨w, hw, ev⟩ := val j (by simpa using hjl)
        rw [hj] at hw
        cases hw
        show PyData.eqv (SeqAt.readOf s.heap vs.toArray[j]) d = true
        rw [ev]
        exact hyes
      · intro m hm hmj
        obtain ⟨w, hw, ev⟩ := val m hm
        show PyData.eqv (SeqAt.readOf s.heap vs.toArray[m]) d = false
        rw [ev]
        exact hno m w hmj hw
def mtName : Mt → Str
  | .append => "append" | .pop => "pop" | .popAt => "pop" | .extend => "extend" | .index => "index" | .split => "split" | .bitlen => "bit_length"
end
end Pl

namespace Pl
open PySem PySem.Spec PyProof.Rows L2

section
variable {X : Cx} {G : Gh} {L : Loc} {Z : Hp} {η : Reg} {H : Hp} {Q : VK}
theorem Ext.set {n : Nat} {a : Addr} {ks ks' : List Addr} (e : L[n]? = some (some (a, ks))) : Ext L Z (L.set n (some (a, ks'))) Z := by
  refine ⟨Sub.refl _, fun m b js h => ?_⟩
  by_cases hm : n = m
  · subst hm
    rw [e] at h
    cases h
    exact ⟨ks', by rw [List.getElem?_set_self (List.getElem?_eq_some_iff.mp e).1]⟩
  · exact ⟨js, by rw [List.getElem?_set_ne hm]; exact h⟩
/-- the list of a register -/
theorem SI.list (S : SI G L Z η H) {n : Nat} {ds : List D} {x : V} (h : η[n]? = some (some (.lst ds))) (r : RepV G L Z H x (.ptr n)) :
    ∃ a xs, x = .ref a ∧ L[n]? = some (some (a, [])) ∧ H a = some (.lst xs) ∧ RpAll Z xs ds := by
  obtain ⟨a, ks, h1, rfl⟩ := r
  obtain ⟨_, o, h2, h3⟩ := S.ow n _ h1
  rw [h] at h2
  cases h2
  obtain ⟨e, xs, q1, q2⟩ := h3
  have e : ks = [] := e
  subst e
  exact ⟨a, xs, rfl, h1, q1, q2⟩
theorem SI.putList (S : SI G L Z η H) {n : Nat} {a : Addr} {ys : List V} {es : List D} (h1 : L[n]? = some (some (a, []))) (r : RpAll Z ys es) :
    SI G (L.set n (some (a, []))) Z (η.set n (some (.lst es))) (upd H a (.lst ys)) :=
  S.write h1 (fun b hb u e => by rw [upd_ne (fun z => hb (by rw [z]; exact List.mem_cons_self))]; exact e) (fun b hb => nomatch hb) ⟨rfl, ys, upd_same, r⟩
theorem met_ty {x : V} {v : Vl} {T : String} (S : SI G L Z η H) (r : RepV G L Z H x v) (h : tyV' v η = some T) (hT : T = "list" ∨ T = "tuple" ∨ T = "str" ∨ T = "int" ∨ T = "dict") : tyM T x H := by
  cases v with
  | dat d =>
    cases h
    have q := Rp.mono S.zh _ _ r
    cases d with
    | none => exact absurd hT (by decide)
    | bool b =>
      have hT : "bool" = "list" ∨ "bool" = "tuple" ∨ "bool" = "str" ∨ "bool" = "int" ∨ "bool" = "dict" := hT
      exact absurd hT (by decide)
    | int b => cases q; exact rfl
    | str b => cases q; exact rfl
    | list ds =>
      cases q with
      | lst h1 h2 => exact .inl ⟨rfl, _, h1⟩
    | tuple ds =>
      cases q with
      | tup h1 hd h2 => exact .inr (.inl ⟨rfl, _, _, h1, hd⟩)
    | dict ds => cases q
  | ptr n =>
    obtain ⟨a, ks, h1, rfl⟩ := r
    obtain ⟨_, o, h2, h3⟩ := S.ow n _ h1
    unfold tyV' at h
    simp only [h2] at h
    cases o with
    | lst ds => cases h; obtain ⟨_, xs, q, _⟩ := h3; exact .inl ⟨rfl, _, .inl q⟩
    | dK ds => cases h; obtain ⟨_, xs, q, _⟩ := h3; exact .inr (.inr ⟨rfl, .inl ⟨_, q⟩⟩)
    | dT ds => cases h; obtain ⟨_, xs, q, _⟩ := h3; exact .inr (.inr ⟨rfl, .inr ⟨_, q⟩⟩)
  | fr o => cases h
def rExtendR : V → List V → Hp → VK → Prop := fun x vs H Q => ∃ l b xs zs, x = .ref l ∧ vs = [.ref b] ∧ H l = some (.lst xs) ∧ Rd H b (.lst zs) ∧ xs.length + zs.length ≤ sizeLine ∧ Q .non (upd H l (.lst (xs ++ zs)))
theorem mt_extendR : MtR X "list.extend" rExtendR := by
  rintro pins s σ H x vs v us Q I rx rv ⟨l, b, xs, zs, rfl, rfl, hH, hB, hz, q⟩
  cases rx
  obtain ⟨u, rfl, ru⟩ := vals1 rv
  cases ru
  obtain ⟨_, ws, n, r, e⟩ := rd_lst I (.inl hH)
  obtain ⟨_, ws2, n2, r2, e2⟩ := rd_lst I hB
  have h1 := r.length
  have h2 := r2.length
  have fits : ¬ (!ws.toArray.isEmpty && Builtin.List.listTooLong (ws.toArray.size + ws2.toArray.size)) = true := by
    rw [notLongL (by simp; omega)]
    simp
  refine call_meets F.slot_list_extend ⟨_, e, rfl⟩ F.entry_list_extend (F.args_list_extend_2 _ _)
    (AutoSeq1.list_extend_list_list_0 l ws.toArray n b ws2.toArray n2 fits (by simp; omega) (by simp; omega)) ⟨e, e2, ?_⟩
  exact ⟨.non, _, I.lset (its' := ws ++ ws2) hH e (by simp) (r.append r2) (by rw [List.length_append]; exact hz), rfl, q⟩
def rMt : Mt → String → V → List V → Hp → VK → Prop
  | .append, _ => rAppend
  | .pop, _ => rPop
  | .popAt, _ => rPopAt
  | .extend, _ => rExtendR
  | .index, T => rIdxP T
  | .split, _ => fun x xs H Q => ∃ a b, x = .str a ∧ xs = [.str b] ∧ (b.length == 0) = false ∧ a.length + 2 ≤ sizeLine ∧ rNewStrs (Txt.split a b) H Q
  | .bitlen, _ => fun x xs H Q => ∃ i, x = .int i ∧ xs = [] ∧ Q (.int (Builtin.Int.intBits i : Nat)) H
theorem mt_bits : MtR X "int.bit_length" (fun x xs H Q => ∃ i, x = .int i ∧ xs = [] ∧ Q (.int (Builtin.Int.intBits i : Nat)) H) := by
  rintro pins s σ H x xs v us Q I rx rv ⟨i, rfl, rfl, q⟩
  obtain ⟨t, rfl⟩ := rx
  cases rv
  exact call_int_bit_length ⟨.int _, H, I.tok _, ⟨_, rfl⟩, q⟩
theorem mtk (hu : X.A.units + 64 < cLine) {m : Mt} {T : String} (h : mtTy m (some T) = true) : MtK X (mtName m) T (rMt m T) ∧ (T = "list" ∨ T = "tuple" ∨ T = "str" ∨ T = "int" ∨ T = "dict") := by
  unfold mtTy at h
  split at h <;> first | cases h | skip
  · rename_i e; cases e; exact ⟨⟨PySem.F.plainAttrs_list, _, PySem.F.slot_list_append, PySem.F.type_list_append, mt_append⟩, by decide⟩
  · rename_i e; cases e; exact ⟨⟨PySem.F.plainAttrs_list, _, PySem.F.slot_list_pop, PySem.F.type_list_pop, mt_pop⟩, by decide⟩
  · rename_i e; cases e; exact ⟨⟨PySem.F.plainAttrs_list, _, PySem.F.slot_list_pop, PySem.F.type_list_pop, mt_popAt⟩, by decide⟩
  · rename_i e; cases e; exact ⟨⟨PySem.F.plainAttrs_list, _, PySem.F.slot_list_extend, PySem.F.type_list_extend, mt_extendR⟩, by decide⟩
  · rename_i e; cases e; exact ⟨⟨PySem.F.plainAttrs_list, _, PySem.F.slot_list_index, PySem.F.type_list_index, mt_listIdx hu⟩, by decide⟩
  · rename_i e; cases e; exact ⟨⟨PySem.F.plainAttrs_tuple, _, PySem.F.slot_tuple_index, PySem.F.type_tuple_index, mt_tupIdx hu⟩, by decide⟩
  · rename_i e; cases e; exact ⟨⟨PySem.F.plainAttrs_str, _, PySem.F.slot_str_split, PySem.F.type_str_split, mt_split⟩, by decide⟩
  · rename_i e; cases e; exact ⟨⟨PySem.F.plainAttrs_int, _, PyProof.Rows.slot_int_bit_length, PyProof.Rows.type_int_bit_length, mt_bits⟩, by decide⟩
theorem mtTy_some {m : Mt} {o : Option String} (h : mtTy m o = true) : ∃ T, o = some T := by
  cases o with
  | none => cases m <;> cases h
  | some T => exact ⟨T, rfl⟩
theorem onTy {m : Mt} {T : String} (h : mtTy m (some T) = true) : (m = .index → T = "list" ∨ T = "tuple") := by
  intro e
  subst e
  unfold mtTy at h
  split at h <;> first | cases h | skip
  all_goals first | (rename_i e; cases e; decide) | skip
  all_goals (rename_i e1 e2; cases e1)
theorem tyPtr {n : Nat} {η : Reg} {T : String} (h : tyV' (.ptr n) η = some T) : T ≠ "tuple" := by
  intro e
  subst e
  simp only [tyV'] at h
  split at h
  · exact absurd (Option.some.inj h) (by decide)
  · exact absurd (Option.some.inj h) (by decide)
  · cases h
theorem viewPtr {n : Nat} {η : Reg} {c : D} (h : (Vl.ptr n).view η = some c) : ∃ ds, c = .list ds := by
  simp only [Vl.view] at h
  split at h
  · exact ⟨_, (Option.some.inj h).symm⟩
  · cases h
theorem strs_rp : ∀ (ys : List Str), RpAll Z (ys.map V.str) (ys.map PyData.str)
  | [] => .nil
  | y :: ys => .cons (.str y) (strs_rp ys)
/-- a method's effect, as the layer below has it; at the receiver's evaluation v was of the type T -/
theorem met_ok {m : Mt} {T : String} {x : V} {v : Vl} {xs : List V} {vs : List Vl} {η0 : Reg} {Qp : Vl → Reg → Prop} (S : SI G L Z η H) (hT : mtTy m (some T) = true) (h0 : tyV' v η0 = some T) (r : RepV G L Z H x v) (rs : RepVs G L Z H xs vs)
    (h : metW m v vs η Qp) (k : Cont G L Z Qp Q) : rMt m T x xs H Q := by
  cases m with
  | append =>
    rcases v with d | n | o <;> first | exact False.elim h | skip
    rcases vs with _ | ⟨w, _ | ⟨u, rest⟩⟩ <;> first | exact False.elim h | skip
    obtain ⟨y, rfl, ry⟩ := RepVs.one rs
    cases e : η[n]? with
    | none => simp only [metW, e] at h
    | some o =>
      rcases o with _ | (ds | kvs | kvs) <;> simp only [metW, e] at h
      obtain ⟨hz, h⟩ := h
      obtain ⟨d, rfl, h⟩ := onD_some h
      obtain ⟨a, ys, rfl, h1, h2, h3⟩ := S.list e r
      refine ⟨a, ys, y, rfl, rfl, h2, by rw [h3.length]; exact hz, ?_⟩
      exact k _ (.dat .none) _ Z _ _ (S.putList h1 (h3.append (.cons ry .nil))) (Ext.set h1) .non h
  | pop =>
    rcases v with d | n | o <;> first | exact False.elim h | skip
    rcases vs with _ | ⟨w, rest⟩ <;> first | exact False.elim h | skip
    cases rs
    cases e : η[n]? with
    | none => simp only [metW, e] at h
    | some o =>
      rcases o with _ | (ds | kvs | kvs) <;> simp only [metW, e] at h
      obtain ⟨d, hd, h⟩ := h
      obtain ⟨a, ys, rfl, h1, h2, h3⟩ := S.list e r
      rw [← h3.length] at hd
      obtain ⟨y, hy, ry⟩ := h3.get hd
      refine ⟨a, ys, y, rfl, rfl, h2, hy, ?_⟩
      have e1 : ys.dropLast = ys.take (ys.length - 1) := List.dropLast_eq_take
      have e2 : ds.dropLast = ds.take (ys.length - 1) := by rw [List.dropLast_eq_take, h3.length]
      rw [e1]
      rw [e2] at h
      exact k _ (.dat d) _ Z _ _ (S.putList h1 (h3.take _)) (Ext.set h1) ry h
  | popAt =>
    rcases v with d | n | o <;> first | exact False.elim h | skip
    rcases vs with _ | ⟨w, _ | ⟨u, rest⟩⟩
    · exact False.elim h
    · obtain ⟨y, rfl, ry⟩ := RepVs.one rs
      rcases w with d | n' | o' <;> first | exact False.elim h | skip
      cases d <;> first | exact False.elim h | skip
      cases Rp.int_inv ry
      cases e : η[n]? with
      | none => simp only [metW, e] at h
      | some o =>
        rcases o with _ | (ds | kvs | kvs) <;> simp only [metW, e] at h
        obtain ⟨d, ⟨i0, i1⟩, hd, h⟩ := h
        obtain ⟨a, ys, rfl, h1, h2, h3⟩ := S.list e r
        obtain ⟨y, hy, ry⟩ := h3.get hd
        have hl := (List.getElem?_eq_some_iff.mp hy).1
        refine ⟨a, ys, _, _, y, rfl, rfl, h2, by omega, i1, ?_, hy, ?_⟩
        · unfold seqIndex?
          simp only
          first
            | (rw [if_pos (by omega)]; simp; omega)
            | (simp; omega)
        · exact k _ (.dat d) _ Z _ _ (S.putList h1 (h3.erase _)) (Ext.set h1) ry h
    · rcases w with d | n' | o' <;> first | exact False.elim h | (cases d <;> exact False.elim h)
  | extend =>
    rcases v with d | n | o <;> first | exact False.elim h | skip
    rcases vs with _ | ⟨w, _ | ⟨u, rest⟩⟩ <;> first | exact False.elim h | skip
    obtain ⟨y, rfl, ry⟩ := RepVs.one rs
    cases e : η[n]? with
    | none => simp only [metW, e] at h
    | some o =>
      rcases o with _ | (ds | kvs | kvs) <;> simp only [metW, e] at h
      obtain ⟨d, ed, h⟩ := onView_some h
      have w := ry.view S ed
      cases d <;> first | exact False.elim h | skip
      obtain ⟨hz, h⟩ := h
      obtain ⟨b, zs, rfl, hb, h4⟩ := w
      obtain ⟨a, ys, rfl, h1, h2, h3⟩ := S.list e r
      refine ⟨a, b, ys, zs, rfl, rfl, h2, hb, by rw [h3.length, h4.length]; exact hz, ?_⟩
      exact k _ (.dat .none) _ Z _ _ (S.putList h1 (h3.append h4)) (Ext.set h1) .non h
  | index =>
    rcases vs with _ | ⟨w, _ | ⟨u, rest⟩⟩
    · rcases v with d | n | o <;> exact False.elim h
    · rcases w with d | n' | o'
      · have h : onView v η fun
            | .list ds => firstAt ds d fun j => Qp (.dat (.int (j : Nat))) η
            | .tuple ds => firstAt ds d fun j => Qp (.dat (.int (j : Nat))) η
            | _ => False := by rcases v with _ | _ | _ <;> exact h
        obtain ⟨y, rfl, ry⟩ := RepVs.one rs
        obtain ⟨c, ec, h⟩ := onView_some h
        have w := r.view S ec
        have fin : ∀ ds, firstAt ds d (fun j => Qp (.dat (.int (j : Nat))) η) → firstAt ds d fun j => Q (.int (j : Nat)) H := fun ds ⟨a, j, z, b, c, e, q⟩ => ⟨a, j, z, b, c, e, Cont.dat k S (.int _) q⟩
        have tt : T = "list" ∧ (∃ ds, c = .list ds) ∨ T = "tuple" ∧ (∃ ds, c = .tuple ds) := by
          rcases v with d | n | o
          · cases ec
            cases h0
            cases c <;> first | exact False.elim h | skip
            · exact .inl ⟨rfl, _, rfl⟩
            · exact .inr ⟨rfl, _, rfl⟩
          · have e1 : T = "list" := by
              rcases onTy hT rfl with z | z
              · exact z
              · exact absurd z (tyPtr h0)
            exact .inl ⟨e1, viewPtr ec⟩
          · cases ec
        rcases tt with ⟨rfl, ds, rfl⟩ | ⟨rfl, ds, rfl⟩
        · exact ⟨y, ds, d, rfl, Rp.mono S.zh _ _ ry, .inl ⟨rfl, w.rp S.zh⟩, fin _ h⟩
        · exact ⟨y, ds, d, rfl, Rp.mono S.zh _ _ ry, .inr ⟨rfl, w.rp S.zh⟩, fin _ h⟩
      · rcases v with _ | _ | _ <;> exact False.elim h
      · rcases v with _ | _ | _ <;> exact False.elim h
    · rcases w with d | n' | o' <;> rcases v with _ | _ | _ <;> exact False.elim h
  | split =>
    rcases v with d | n | o <;> first | exact False.elim h | skip
    cases d <;> first | exact False.elim h | skip
    rcases vs with _ | ⟨w, _ | ⟨u, rest⟩⟩
    · exact False.elim h
    · rcases w with d | n' | o' <;> first | exact False.elim h | skip
      cases d <;> first | exact False.elim h | skip
      obtain ⟨y, rfl, ry⟩ := RepVs.one rs
      cases Rp.str_inv ry
      cases Rp.str_inv r
      obtain ⟨h1, h2, h⟩ := h
      exact ⟨_, _, rfl, rfl, h1, h2, Cont.lst k S (strs_rp _) h⟩
    · rcases w with d | n' | o' <;> first | exact False.elim h | (cases d <;> exact False.elim h)
  | bitlen =>
    rcases v with d | n | o <;> first | exact False.elim h | skip
    cases d <;> first | exact False.elim h | skip
    rcases vs with _ | ⟨w, rest⟩ <;> first | exact False.elim h | skip
    cases rs
    cases Rp.int_inv r
    exact ⟨_, rfl, rfl, Cont.dat k S (.int _) h⟩
section
variable {o e : Expr} {apos cpos : Pos} {ta te : LTE} {t : LTA}
theorem met_low {name : Str} (hu : X.A.units + 64 < cLine) (m : Mt) (hn : mtName m = name) : ∀ σ H Q, liftE G (fun ρ η Q => ta ρ η fun v η1 => mtTy m (tyV' v.fz η1) = true ∧ t ρ η1 fun vs η2 => metW m v.fz vs η2 Q) σ H Q → tMet X name (liftE G ta) (liftA G t) σ H Q := by
  subst hn
  rintro σ H Q ⟨ρ, L, Z, η, Qp, S, s, tt, k⟩
  refine step (P := fun v η1 => mtTy m (tyV' v η1) = true ∧ t ρ η1 fun vs η2 => metW m v vs η2 Qp) S s tt fun x v L1 Z1 η1 H1 S1 s1 E1 r1 q => ?_
  obtain ⟨hT, q⟩ := q
  obtain ⟨T, h0⟩ := mtTy_some hT
  rw [h0] at hT
  obtain ⟨mk, mt⟩ := mtk (X := X) hu hT
  refine ⟨T, rMt m T, mk, met_ty S1 r1 h0 mt, ?_⟩
  refine stepA (P := fun vs η2 => metW m v vs η2 Qp) S1 s1 q fun xs vs L2 Z2 η2 H2 S2 s2 E2 r2 q => ?_
  have nf : ∀ o, v ≠ .fr o := fun o e => by subst e; cases h0
  exact met_ok S2 hT h0 (r1.ext E2 nf) r2 q (Cont.shift k (E1.trans E2))
theorem le_met1 {name : Str} (hu : X.A.units + 64 < cLine) (m : Mt) (hn : mtName m = name) (ho : LE X G o ta) (ha : LA X G [e] t) (hbase : attributeBase o name X.env (eval o X.env) = eval o X.env) (hline : (apos.endLine == cpos.line) = true)
    (hs : starEach [e] X.env = (false, eval e X.env) :: starEach [] X.env) :
    LE X G (.Call (.Attribute o name apos) [e] [] cpos) (fun ρ η Q => ta ρ η fun v η1 => mtTy m (tyV' v.fz η1) = true ∧ t ρ η1 fun vs η2 => metW m v.fz vs η2 Q) :=
  (pe_met1 ho ha hbase hline hs).weak (met_low hu m hn)
theorem le_met0 {name : Str} (hu : X.A.units + 64 < cLine) (m : Mt) (hn : mtName m = name) (ho : LE X G o ta) (hbase : attributeBase o name X.env (eval o X.env) = eval o X.env) (hline : (apos.endLine == cpos.line) = true) :
    LE X G (.Call (.Attribute o name apos) [] [] cpos) (fun ρ η Q => ta ρ η fun v η1 => mtTy m (tyV' v.fz η1) = true ∧ metW m v.fz [] η1 Q) := by
  refine (pe_met0 ho hbase hline).weak fun σ H Q q => ?_
  obtain ⟨ρ, L, Z, η, Qp, S, s, tt, k⟩ := met_low (t := fun _ η Q => Q [] η) hu m hn σ H Q q
  refine ⟨ρ, L, Z, η, Qp, S, s, tt, fun x v L' Z' η' H' S' E' r' q => ?_⟩
  obtain ⟨T, r, h1, h2, h3⟩ := k x v L' Z' η' H' S' E' r' q
  refine ⟨T, r, h1, h2, ?_⟩
  obtain ⟨ρ, L, Z, η, Qp, S, s, tt, k⟩ := h3
  exact k [] [] L Z η _ S Ext.refl .nil tt
end
end
end Pl

namespace Pl
open PySem PySem.Spec PyProof.Rows L2 PySem.Builtin
open AutoSeq1 (wpAny_loadPart')

theorem en_new (l : Addr) (items : Array Value) (n : Nat) (dct : Option Addr) (sl : Array (Option Value)) :
    Meets (Builtin.«enumerate.__new__» ⟨[.type "enumerate", .ref l], []⟩) (fun _ R s => s.heap.get? l = some { cls := .type "tuple", dict := dct, data := .seq items n, slots := sl } ∧
      R (.ok (.ret (.ref (s.heap.push { cls := .type "tuple_iterator", data := .fields #[.ref l, .int 0 0] }).objs.size)))
        { s with heap := (s.heap.push { cls := .type "tuple_iterator", data := .fields #[.ref l, .int 0 0] }).push { cls := .type "enumerate", data := .fields #[.none, .bool false, .ref s.heap.objs.size, rawInt 0, .none, .none] } }) :=
  .of_wp fun prog w A R s h => by
    obtain ⟨hp, g, d, tk, os⟩ := s; obtain ⟨hl, h⟩ := h
    have hsub := sub_enumerate
    have hL : Heap.IsTuple (Shared.heap ⟨hp, g, d, tk, os⟩) l items := ⟨_, hl, rfl, n, rfl⟩
    wp_walk using wpAny_loadPart' hl
    refine wpAny_stack_any fun st => wpAny_pure ?_
    split
    · rename_i c _ _ _ _ _
      cases (c == Value.type "enumerate") <;> (wp_walk using wpAny_loadPart' hl, wpAny_pyIter_tuple hL; exact ⟨_, rfl, h⟩)
    · wp_walk using wpAny_loadPart' hl, wpAny_pyIter_tuple hL; exact ⟨_, rfl, h⟩
theorem en_call {prog : Program} {w : World} {A : Around} {E : Value → Shared → Prop} {s : Shared} {l : Addr} {items : Array Value} {Q : Value → Shared → Prop} (hL : s.heap.IsTuple l items)
    (h : ∀ h', IsEnum h' (s.heap.objs.size + 1) s.heap.objs.size 0 .none → h'.IsTupleIter s.heap.objs.size l 0 → h'.objs.size = s.heap.objs.size + 2 → (∀ b o, s.heap.get? b = some o → h'.get? b = some o) → Q (.ref (s.heap.objs.size + 1)) { s with heap := h' }) :
    wpAny (model prog w) A (call (.type "enumerate") [.ref l]) Q E s := by
  obtain ⟨⟨c, dct, dt, sl⟩, hl, hc, n, hd⟩ := hL
  replace hc : c = .type "tuple" := hc
  replace hd : dt = .seq items n := hd
  subst hc hd
  refine callType_new F.called_enumerate (by decide) (F.typeCall_enumerate_1 _) (F.newCall_enumerate_1 _) (fun obj => F.args_object_init_2 obj _) F.entry_enumerate_new (en_new l items n dct sl) ⟨hl, ?_⟩
  have hz : (s.heap.push { cls := .type "tuple_iterator", data := .fields #[.ref l, .int 0 0] }).objs.size = s.heap.objs.size + 1 := Heap.size_push ..
  show _ ∧ _
  rw [hz]
  have he : IsEnum ((s.heap.push { cls := .type "tuple_iterator", data := .fields #[.ref l, .int 0 0] }).push { cls := .type "enumerate", data := .fields #[.none, .bool false, .ref s.heap.objs.size, rawInt 0, .none, .none] }) (s.heap.objs.size + 1) s.heap.objs.size 0 .none := by
    have := Heap.get?_push_size (s.heap.push { cls := .type "tuple_iterator", data := .fields #[.ref l, .int 0 0] }) (o := { cls := .type "enumerate", data := .fields #[.none, .bool false, .ref s.heap.objs.size, rawInt 0, .none, .none] }) rfl
    rw [hz] at this; exact this
  exact ⟨⟨_, he, rfl⟩, h _ he ⟨_, Heap.get?_push_of_some _ (Heap.get?_push_size _ rfl), rfl, rfl⟩ (by rw [Heap.size_push, hz]) fun b o x => Heap.get?_push_of_some _ (Heap.get?_push_of_some _ x)⟩
/-- the tuple at a, each item in a new pair -/
def IeT (K : PySem.W.Frag) (a : Addr) : It :=
  ⟨fun i H => ∃ (xs : List V) (x : V), SqT K H a xs ∧ xs[i]? = some x, fun i H v H' => ∃ T x, v = .ref T ∧ H T = none ∧ H' = upd H T (.tup [.int (i : Nat), x]) ∧ ∀ xs, SqT K H a xs → xs[i]? = some x, fun i H => ∃ xs : List V, SqT K H a xs ∧ xs.length = i⟩
theorem turn_enT {P : Program} {w : World} {K : PySem.W.Frag} {elts : List Expr} {kk : Nat} {tpos : Pos} (a e it : Addr) :
    Turn P w K (.Tuple elts kk tpos) (IeT K a) [e, it] e (fun i h => (∃ old, IsEnum h e it ((i : Nat) : Int) old) ∧ h.IsTupleIter it a i ∧ e ≠ it) where
  mem := by simp
  obj := fun i h ⟨⟨old, he⟩, ⟨o, ho, hc, hd⟩, _⟩ b hb => by
    rcases (show b = e ∨ b = it by simpa using hb) with z | z
    · rw [z]; exact ⟨_, he, fun v q => nomatch q⟩
    · rw [z]; exact ⟨o, ho, fun v q => by rw [hd] at q; cases q⟩
  keep := fun i h h' ⟨⟨old, he⟩, hi, hne⟩ k => ⟨⟨old, k e (by simp) _ he⟩, hi.at fun o q => k it (by simp) o q, hne⟩
  item := by
    intro X hP hw hK hc i pins s σ H E I hf st hg
    subst hP hw hK
    obtain ⟨⟨old, he⟩, hit, hne⟩ := st
    obtain ⟨xs, x, hq, hx⟩ := hg
    obtain ⟨its, rv, p, hz⟩ := I.tuple hq
    obtain ⟨u, hu, ru⟩ := rv.get hx
    have pt : s.heap.IsTuple a its.toArray := p
    have hel : e < s.heap.objs.size := Heap.lt_size he
    have hil : it < s.heap.objs.size := by obtain ⟨_, q, _⟩ := hit; exact Heap.lt_size q
    have ha1 : a ≠ it := fun z => by
      subst z
      obtain ⟨o, q1, q2, _⟩ := hit
      obtain ⟨o', q3, q4, _⟩ := pt
      rw [q1] at q3; cases q3
      rw [q2] at q4
      injection q4 with q5
      exact absurd q5 (by decide)
    have ha2 : e ≠ a := fun z => by
      subst z
      obtain ⟨o', q3, q4, _⟩ := pt
      have q := he
      unfold IsEnum at q
      rw [q] at q3; cases q3
      injection q4 with q5
      exact absurd q5 (by decide)
    have hlt : i < its.toArray.size := by
      rw [List.size_toArray]
      exact (List.getElem?_eq_some_iff.mp hu).1
    refine wpAny_pyNext_enum_itemD (Draws.tuple (A := X.A.in1) (show X.A.in1.handled = none from I.ok.hd hc) it a ha1 its.toArray) he ⟨hit, pt⟩ hlt hne (by simp [hne, ha2]) fun y h' tk hy ho st' hT hsz hk => ?_
    have ey : y = u := by
      have hy : its.toArray[i]? = some y := hy
      rw [List.getElem?_toArray, hu] at hy
      exact (Option.some.inj hy).symm
    subst ey
    refine ⟨_, rfl, wpAny_letOwnedTupleGo_enum (s := { s with heap := h', toks := tk + 1 }) ho fun h'' he' sb => ?_⟩
    have hT2 : h''.get? s.heap.objs.size = some { cls := .type "tuple", data := .seq #[.int i tk, y] } := (sb.2 _ (Nat.ne_of_gt hel)).trans hT
    have new : ObjOk X.prog X.w (upd H s.heap.objs.size (.tup [.int (i : Nat), x])) h'' s.heap.objs.size (.tup [.int (i : Nat), x]) := ⟨by show 2 ≤ sizeLine; decide, [.int i tk, y], .cons ⟨_, rfl⟩ (.cons ru .nil), ⟨_, hT2, rfl, _, rfl⟩⟩
    have I1 : Inv X pins σ (upd H s.heap.objs.size (.tup [.int (i : Nat), x])) { s with heap := h'', toks := tk + 1 } :=
      I.turnedNew (ch := [e, it]) (fun b ob hb q => (sb.2 b (fun z => hb (by simp [z]))).trans (hk b ob (fun z => hb (by simp [z])) (fun z => hb (by simp [z])) q)) hf (Nat.le_refl _) new
    refine ⟨.ref s.heap.objs.size, _, I1, rfl, ⟨_, x, rfl, I.hok.fresh (Nat.le_refl _), rfl, fun ys hy => by rw [I.tuple_inj hy hq]; exact hx⟩, ⟨⟨y, ?_⟩, st'.1.at fun o q => (sb.2 it (Ne.symm hne)).trans q, hne⟩, fun b hb => ?_⟩
    · have e1 : ((i + 1 : Nat) : Int) = (i : Int) + 1 := by omega
      rw [e1]; exact he'
    · have hb' : b < s.heap.objs.size := by
        rcases (show b = e ∨ b = it by simpa using hb) with z | z
        · rw [z]; exact hel
        · rw [z]; exact hil
      rw [upd_ne (Nat.ne_of_lt hb')]
      exact (hf b hb).1
  done := by
    intro X hP hw hK hc i pins s σ H E I hf st hg
    subst hP hw hK
    obtain ⟨⟨old, he⟩, hit, hne⟩ := st
    obtain ⟨xs, hq, hx⟩ := hg
    obtain ⟨its, rv, p, hz⟩ := I.tuple hq
    have pt : s.heap.IsTuple a its.toArray := p
    have ha1 : a ≠ it := fun z => by
      subst z
      obtain ⟨o, q1, q2, _⟩ := hit
      obtain ⟨o', q3, q4, _⟩ := pt
      rw [q1] at q3; cases q3
      rw [q2] at q4
      injection q4 with q5
      exact absurd q5 (by decide)
    have el : i = its.toArray.size := by rw [List.size_toArray, ← rv.length, hx]
    obtain ⟨f0, f1, f2, f3, f4, f5⟩ := hf it (by simp)
    exact wpAny_pyNext_enum_endD (Draws.tuple (A := X.A.in1) (show X.A.in1.handled = none from I.ok.hd hc) it a ha1 its.toArray) he (by rw [← el]; exact ⟨hit, pt⟩) fun h' eb => ⟨rfl, I.turned (t' := s.toks) (fun b o hb q => eb b o hb q) f0 f1 f3 f4 f5⟩
  self := fun A i s Q E st h => let ⟨⟨_, he⟩, _⟩ := st; wpAny_pyIter_enum he h
def iEnT (K : PySem.W.Frag) (ta : TA) : TI := fun σ H R => ta σ H fun vs H1 => ∃ a, vs = [.ref a] ∧ ((∃ xs, SqL K H1 a xs ∧ R (Ite K a) H1) ∨ ∃ xs, SqT K H1 a xs ∧ R (IeT K a) H1)
theorem pi_enT {X : Cx} {e : Expr} {ta : TA} {p pos tpos : Pos} {elts : List Expr} {kk : Nat} (hg : Gl X "enumerate") (hm : X.mg "enumerate" = none) (ha : PA X [e] ta) (hs : starEach [e] X.env = [(false, eval e X.env)]) :
    PI X (.Tuple elts kk tpos) (.Call (.Name "enumerate" p) [e] [] pos) (iEnT X.K ta) := by
  refine ⟨fun pins s σ H R I h => Call_ (ld_blt I hg hm boot_enumerate (PyProof.Rows.callWith_type1 (thn (ha.run pos pins s σ H _ I h) fun us s1 ⟨vs, H1, I1, r1, a, ex, q1⟩ => ?_) hs rfl))⟩
  subst ex
  cases r1 with
  | cons r rr =>
    cases rr
    cases r
    have old : ∀ b, b ∈ [s1.heap.objs.size + 1, s1.heap.objs.size] → FpOk X pins H1 b := fun b hb => by
      have hle : s1.heap.objs.size ≤ b := by
        rcases (show b = s1.heap.objs.size + 1 ∨ b = s1.heap.objs.size by simpa using hb) with z | z
        · rw [z]; exact Nat.le_add_right _ _
        · rw [z]; exact Nat.le_refl _
      exact I1.fpOk hle (I1.hok.fresh hle)
    rcases q1 with ⟨xs, hq, q⟩ | ⟨xs, hq, q⟩
    · obtain ⟨its, rv, p', hz⟩ := I1.list hq
      refine call_enumerate_list p'.isList fun h' he hit hsz hk => wpAny_pyIter_enum he ?_
      exact ⟨s1.heap.objs.size + 1, [s1.heap.objs.size + 1, s1.heap.objs.size], _, _, H1, rfl, I1.kept (t' := s1.toks) hk, turn_enum a (s1.heap.objs.size + 1) s1.heap.objs.size, ⟨⟨.none, he⟩, hit, Nat.succ_ne_self _⟩, old, q⟩
    · obtain ⟨its, rv, p', hz⟩ := I1.tuple hq
      refine en_call (show s1.heap.IsTuple a its.toArray from p') fun h' he hit hsz hk => wpAny_pyIter_enum he ?_
      exact ⟨s1.heap.objs.size + 1, [s1.heap.objs.size + 1, s1.heap.objs.size], _, _, H1, rfl, I1.kept (t' := s1.toks) hk, turn_enT a (s1.heap.objs.size + 1) s1.heap.objs.size, ⟨⟨.none, he⟩, hit, Nat.succ_ne_self _⟩, old, q⟩
end Pl

namespace Pl
open PySem PySem.Spec PyProof.Rows L2

/-! ## what is walked -/
/-- an item, as it is yielded -/
def Iv (Z H : Hp) (x : V) (d : D) : Prop := Rp Z x d ∨ ∃ T xs ds, x = .ref T ∧ d = .tuple ds ∧ Rd H T (.tup xs) ∧ RpAll Z xs ds
/-- the registers gs keep their places -/
def Keep (gs : List Nat) (L : Loc) (Z : Hp) (L' : Loc) (Z' : Hp) : Prop := Sub Z Z' ∧ ∀ n ∈ gs, ∀ (a : Addr) (ks : List Addr), L[n]? = some (some (a, ks)) → ∃ ks', L'[n]? = some (some (a, ks'))
theorem Ext.keep {L L' : Loc} {Z Z' : Hp} (E : Ext L Z L' Z') (gs : List Nat) : Keep gs L Z L' Z' := ⟨E.1, fun n _ => E.2 n⟩
theorem Keep.sub {L L' : Loc} {Z Z' : Hp} {gs hs : List Nat} (E : Keep gs L Z L' Z') (h : ∀ n ∈ hs, n ∈ gs) : Keep hs L Z L' Z' := ⟨E.1, fun n hn => E.2 n (h n hn)⟩
/-- an iterator that yields the data ds, as long as ok holds -/
structure ItOk (J : It) (L : Loc) (Z : Hp) (ds : List D) (ok : Reg → Prop) (pl : Bool) (gs : List Nat) : Prop where
  sz : ds.length ≤ sizeLine
  go : ∀ (G' : Gh) L2 Z2 η2 H2, SI G' L2 Z2 η2 H2 → Keep gs L Z L2 Z2 → ok η2 → ∀ (i : Nat) d, ds[i]? = some d →
    J.go i H2 ∧ ∀ x H3, J.yld i H2 x H3 → SI G' L2 Z2 η2 H3 ∧ Sub H2 H3 ∧ Iv Z2 H3 x d ∧ (pl = true → Rp Z2 x d)
  stop : ∀ (G' : Gh) L2 Z2 η2 H2, SI G' L2 Z2 η2 H2 → Keep gs L Z L2 Z2 → ok η2 → ∀ (i : Nat), ds.length = i → J.stop i H2
abbrev LTI := Sl → Reg → (List D → (Reg → Prop) → List Nat → Reg → Prop) → Prop
def liftI (G : Gh) (pl : Bool) (w : LTI) : TI := fun σ H R => ∃ ρ L Z η Rp, SI G L Z η H ∧ SS L Z σ ρ ∧ w ρ η Rp ∧
  ∀ J ds ok gs L' Z' η' H', SI G L' Z' η' H' → Ext L Z L' Z' → ItOk J L' Z' ds ok pl gs → ok η' → Rp ds ok gs η' → R J H'
section
variable {X : Cx} {G : Gh} {L : Loc} {Z : Hp} {η : Reg} {H : Hp}
/-! ### kinds of iterators -/
theorem it_list {K : PySem.W.Frag} {a : Addr} {xs : List V} {ds : List D} (h : Rd Z a (.lst xs)) (r : RpAll Z xs ds) (sz : ds.length ≤ sizeLine) : ItOk (Itl K a) L Z ds (fun _ => True) true [] := by
  refine ⟨sz, fun G' L2 Z2 η2 H2 S E _ i d hd => ?_, fun G' L2 Z2 η2 H2 S E _ i hi => ⟨xs, .inl (S.zh.rd (E.1.rd h)), by rw [r.length]; exact Nat.le_of_eq hi⟩⟩
  obtain ⟨v, hv, rv⟩ := r.get hd
  refine ⟨⟨xs, v, .inl (S.zh.rd (E.1.rd h)), hv⟩, fun x H3 hy => ?_⟩
  obtain ⟨rfl, f⟩ := hy
  have e : v = x := Option.some.inj (hv.symm.trans (f xs (.inl (S.zh.rd (E.1.rd h)))))
  subst e
  exact ⟨S, Sub.refl _, .inl (Rp.mono E.1 _ _ rv), fun _ => Rp.mono E.1 _ _ rv⟩
theorem it_reg {K : PySem.W.Frag} {a : Addr} {n : Nat} {ds : List D} (h : L[n]? = some (some (a, []))) (sz : ds.length ≤ sizeLine) : ItOk (Itl K a) L Z ds (fun η => η[n]? = some (some (.lst ds))) true [n] := by
  have look : ∀ (G' : Gh) L2 Z2 η2 H2, SI G' L2 Z2 η2 H2 → Keep [n] L Z L2 Z2 → η2[n]? = some (some (.lst ds)) → ∃ xs, H2 a = some (.lst xs) ∧ RpAll Z2 xs ds := fun G' L2 Z2 η2 H2 S E ok => by
    obtain ⟨ks, h2⟩ := E.2 n (by first | exact List.mem_cons_self | exact List.mem_singleton.mpr rfl) a [] h
    obtain ⟨b, xs, e, _, h4, h5⟩ := S.list ok ⟨a, ks, h2, rfl⟩
    cases e
    exact ⟨xs, h4, h5⟩
  refine ⟨sz, fun G' L2 Z2 η2 H2 S E ok i d hd => ?_, fun G' L2 Z2 η2 H2 S E ok i hi => ?_⟩
  · obtain ⟨xs, h1, r⟩ := look G' L2 Z2 η2 H2 S E ok
    obtain ⟨v, hv, rv⟩ := r.get hd
    refine ⟨⟨xs, v, .of h1, hv⟩, fun x H3 hy => ?_⟩
    obtain ⟨rfl, f⟩ := hy
    have e : v = x := Option.some.inj (hv.symm.trans (f xs (.of h1)))
    subst e
    exact ⟨S, Sub.refl _, .inl rv, fun _ => rv⟩
  · obtain ⟨xs, h1, r⟩ := look G' L2 Z2 η2 H2 S E ok
    exact ⟨xs, .of h1, by rw [r.length]; exact Nat.le_of_eq hi⟩
theorem it_tup {K : PySem.W.Frag} {a : Addr} {xs : List V} {ds : List D} (h : Rd Z a (.tup xs)) (r : RpAll Z xs ds) (sz : ds.length ≤ sizeLine) : ItOk (Itt K a) L Z ds (fun _ => True) true [] := by
  refine ⟨sz, fun G' L2 Z2 η2 H2 S E _ i d hd => ?_, fun G' L2 Z2 η2 H2 S E _ i hi => ⟨xs, .inl (S.zh.rd (E.1.rd h)), by rw [r.length]; exact Nat.le_of_eq hi⟩⟩
  obtain ⟨v, hv, rv⟩ := r.get hd
  refine ⟨⟨xs, v, .inl (S.zh.rd (E.1.rd h)), hv⟩, fun x H3 hy => ?_⟩
  obtain ⟨rfl, f⟩ := hy
  have e : v = x := Option.some.inj (hv.symm.trans (f xs (.inl (S.zh.rd (E.1.rd h)))))
  subst e
  exact ⟨S, Sub.refl _, .inl (Rp.mono E.1 _ _ rv), fun _ => Rp.mono E.1 _ _ rv⟩
theorem it_str {s : Str} (sz : s.length ≤ sizeLine) : ItOk (Its s) L Z (chars s) (fun _ => True) true [] := by
  have hl : (chars s).length = s.cps.size := by unfold chars; rw [List.length_map, Array.length_toList]
  refine ⟨by rw [hl]; exact sz, fun G' L2 Z2 η2 H2 S E _ i d hd => ?_, fun G' L2 Z2 η2 H2 S E _ i hi => by rw [hl] at hi; exact Nat.le_of_eq hi⟩
  have hlt : i < s.cps.size := by rw [← hl]; exact (List.getElem?_eq_some_iff.mp hd).1
  refine ⟨hlt, fun x H3 hy => ?_⟩
  obtain ⟨rfl, c, hc, rfl⟩ := hy
  have e : d = .str ⟨#[c]⟩ := by
    unfold chars at hd
    rw [List.getElem?_map, Array.getElem?_toList, hc] at hd
    exact (Option.some.inj hd).symm
  subst e
  exact ⟨S, Sub.refl _, .inl (.str _), fun _ => .str _⟩
theorem it_rng {lo : Int} {n : Nat} (sz : n ≤ sizeLine) : ItOk (Itr lo n) L Z (rangeD lo n) (fun _ => True) true [] := by
  have hl : (rangeD lo n).length = n := by unfold rangeD; rw [List.length_map, List.length_range]
  refine ⟨by rw [hl]; exact sz, fun G' L2 Z2 η2 H2 S E _ i d hd => ?_, fun G' L2 Z2 η2 H2 S E _ i hi => by rw [hl] at hi; exact Nat.le_of_eq hi⟩
  have hlt : i < n := by rw [← hl]; exact (List.getElem?_eq_some_iff.mp hd).1
  refine ⟨hlt, fun x H3 hy => ?_⟩
  obtain ⟨rfl, rfl⟩ := hy
  have e : d = .int (lo + (i : Nat)) := by
    unfold rangeD at hd
    rw [List.getElem?_map, List.getElem?_range hlt] at hd
    exact (Option.some.inj hd).symm
  subst e
  exact ⟨S, Sub.refl _, .inl (.int _), fun _ => .int _⟩
/-- two lists (tuples) at once: each turn makes a new pair -/
theorem pair_it {J : It} {G' : Gh} {L2 : Loc} {Z2 : Hp} {η2 : Reg} {H2 H3 : Hp} {x y : V} {dx dy : D} {T : Addr} (S : SI G' L2 Z2 η2 H2) (hT : H2 T = none) (rx : Rp Z2 x dx) (ry : Rp Z2 y dy) :
    SI G' L2 Z2 η2 (upd H2 T (.tup [x, y])) ∧ Sub H2 (upd H2 T (.tup [x, y])) ∧ Iv Z2 (upd H2 T (.tup [x, y])) (.ref T) (.tuple [dx, dy]) := by
  obtain ⟨a, b, c⟩ := S.fresh hT
  exact ⟨S.other a b c, Sub.upd hT, .inr ⟨T, _, _, rfl, rfl, .inl upd_same, .cons rx (.cons ry .nil)⟩⟩
theorem zip_get {xs ys : List D} {i : Nat} {d : D} (h : (List.zipWith (fun x y => PyData.tuple [x, y]) xs ys)[i]? = some d) : ∃ x y, xs[i]? = some x ∧ ys[i]? = some y ∧ d = .tuple [x, y] := by
  rw [List.getElem?_zipWith] at h
  cases e1 : xs[i]? with
  | none => rw [e1] at h; cases h
  | some x =>
    cases e2 : ys[i]? with
    | none => rw [e1, e2] at h; cases h
    | some y => rw [e1, e2] at h; exact ⟨x, y, rfl, rfl, (Option.some.inj h).symm⟩
theorem reg_app (v w : Vl) : regsOf [v, w] = regsOf [v] ++ regsOf [w] := by
  cases v <;> rfl
theorem reg_l {v w : Vl} {n : Nat} (h : n ∈ regsOf [v]) : n ∈ regsOf [v, w] := by rw [reg_app]; exact List.mem_append_left _ h
theorem reg_r {v w : Vl} {n : Nat} (h : n ∈ regsOf [w]) : n ∈ regsOf [v, w] := by rw [reg_app]; exact List.mem_append_right _ h
/-- how a list (register or frozen) is read later -/
def Later (gs : List Nat) (L : Loc) (Z : Hp) (a : Addr) (ds : List D) (ok : Reg → Prop) : Prop := ∀ (G' : Gh) L2 Z2 η2 H2, SI G' L2 Z2 η2 H2 → Keep gs L Z L2 Z2 → ok η2 → ∃ xs, Rd H2 a (.lst xs) ∧ RpAll Z2 xs ds
theorem Later.sub {gs hs : List Nat} {a : Addr} {ds : List D} {ok : Reg → Prop} (l : Later hs L Z a ds ok) (h : ∀ n ∈ hs, n ∈ gs) : Later gs L Z a ds ok := fun G' L2 Z2 η2 H2 S E o => l G' L2 Z2 η2 H2 S (E.sub h) o
theorem it_zip {gs : List Nat} {K : PySem.W.Frag} {a b : Addr} {xs ys : List D} {p q : Reg → Prop} (ha : Later gs L Z a xs p) (hb : Later gs L Z b ys q) (sz : xs.length ≤ sizeLine) :
    ItOk (Itz K a b) L Z (List.zipWith (fun x y => PyData.tuple [x, y]) xs ys) (fun η => p η ∧ q η) false gs := by
  refine ⟨by rw [List.length_zipWith]; omega, fun G' L2 Z2 η2 H2 S E ok i d hd => ?_, fun G' L2 Z2 η2 H2 S E ok i hi => ?_⟩
  · obtain ⟨us, h1, r1⟩ := ha G' L2 Z2 η2 H2 S E ok.1
    obtain ⟨ws, h2, r2⟩ := hb G' L2 Z2 η2 H2 S E ok.2
    obtain ⟨dx, dy, e1, e2, rfl⟩ := zip_get hd
    obtain ⟨u, hu, ru⟩ := r1.get e1
    obtain ⟨w, hw, rw'⟩ := r2.get e2
    refine ⟨⟨us, ws, u, w, .inl h1, .inl h2, hu, hw⟩, fun x H3 hy => ?_⟩
    obtain ⟨T, x', y', rfl, hT, rfl, f1, f2⟩ := hy
    have ex : u = x' := Option.some.inj (hu.symm.trans (f1 us (.inl h1)))
    have ey : w = y' := Option.some.inj (hw.symm.trans (f2 ws (.inl h2)))
    subst ex
    subst ey
    obtain ⟨a1, a2, a3⟩ := pair_it (J := Itz K a b) (H3 := H2) S hT ru rw'
    exact ⟨a1, a2, a3, fun z => nomatch z⟩
  · obtain ⟨us, h1, r1⟩ := ha G' L2 Z2 η2 H2 S E ok.1
    obtain ⟨ws, h2, r2⟩ := hb G' L2 Z2 η2 H2 S E ok.2
    refine ⟨us, ws, .inl h1, .inl h2, ?_⟩
    rw [r1.length, r2.length]
    rw [List.length_zipWith] at hi
    omega
theorem it_zipT {K : PySem.W.Frag} {a b : Addr} {us ws : List V} {xs ys : List D} (h1 : Rd Z a (.tup us)) (r1 : RpAll Z us xs) (h2 : Rd Z b (.tup ws)) (r2 : RpAll Z ws ys) (sz : xs.length ≤ sizeLine) :
    ItOk (RZ.ItzT K a b) L Z (List.zipWith (fun x y => PyData.tuple [x, y]) xs ys) (fun _ => True) false [] := by
  refine ⟨by rw [List.length_zipWith]; omega, fun G' L2 Z2 η2 H2 S E ok i d hd => ?_, fun G' L2 Z2 η2 H2 S E ok i hi => ?_⟩
  · have h1' := S.zh.rd (E.1.rd h1)
    have h2' := S.zh.rd (E.1.rd h2)
    obtain ⟨dx, dy, e1, e2, rfl⟩ := zip_get hd
    obtain ⟨u, hu, ru⟩ := r1.get e1
    obtain ⟨w, hw, rw'⟩ := r2.get e2
    refine ⟨⟨us, ws, u, w, .inl h1', .inl h2', hu, hw⟩, fun x H3 hy => ?_⟩
    obtain ⟨T, x', y', rfl, hT, rfl, f1, f2⟩ := hy
    have ex : u = x' := Option.some.inj (hu.symm.trans (f1 us (.inl h1')))
    have ey : w = y' := Option.some.inj (hw.symm.trans (f2 ws (.inl h2')))
    subst ex
    subst ey
    obtain ⟨a1, a2, a3⟩ := pair_it (J := RZ.ItzT K a b) (H3 := H2) S hT (Rp.mono E.1 _ _ ru) (Rp.mono E.1 _ _ rw')
    exact ⟨a1, a2, a3, fun z => nomatch z⟩
  · refine ⟨us, ws, .inl (S.zh.rd (E.1.rd h1)), .inl (S.zh.rd (E.1.rd h2)), ?_⟩
    rw [r1.length, r2.length]
    rw [List.length_zipWith] at hi
    omega
theorem it_enumT {K : PySem.W.Frag} {a : Addr} {vs : List V} {xs : List D} (h : Rd Z a (.tup vs)) (r : RpAll Z vs xs) (sz : xs.length ≤ sizeLine) : ItOk (IeT K a) L Z (xs.zipIdx.map fun p => PyData.tuple [.int p.2, p.1]) (fun _ => True) false [] := by
  refine ⟨by rw [List.length_map, List.length_zipIdx]; exact sz, fun G' L2 Z2 η2 H2 S E ok i d hd => ?_, fun G' L2 Z2 η2 H2 S E ok i hi => ?_⟩
  · have h1 := S.zh.rd (E.1.rd h)
    rw [List.getElem?_map, List.getElem?_zipIdx] at hd
    cases e : xs[i]? with
    | none => rw [e] at hd; cases hd
    | some dx =>
      rw [e] at hd
      have ed : d = .tuple [.int (i : Nat), dx] := by
        have := Option.some.inj hd
        rw [← this]
        simp
      subst ed
      obtain ⟨u, hu, ru⟩ := r.get e
      refine ⟨⟨vs, u, .inl h1, hu⟩, fun x H3 hy => ?_⟩
      obtain ⟨T, x', rfl, hT, rfl, f1⟩ := hy
      have ex : u = x' := Option.some.inj (hu.symm.trans (f1 vs (.inl h1)))
      subst ex
      obtain ⟨a1, a2, a3⟩ := pair_it (J := IeT K a) (H3 := H2) (x := .int (i : Nat)) (dx := .int (i : Nat)) S hT (.int _) (Rp.mono E.1 _ _ ru)
      exact ⟨a1, a2, a3, fun z => nomatch z⟩
  · refine ⟨vs, .inl (S.zh.rd (E.1.rd h)), ?_⟩
    rw [r.length]
    rw [List.length_map, List.length_zipIdx] at hi
    exact hi
theorem it_enum {gs : List Nat} {K : PySem.W.Frag} {a : Addr} {xs : List D} {p : Reg → Prop} (ha : Later gs L Z a xs p) (sz : xs.length ≤ sizeLine) : ItOk (Ite K a) L Z (xs.zipIdx.map fun p => PyData.tuple [.int p.2, p.1]) p false gs := by
  refine ⟨by rw [List.length_map, List.length_zipIdx]; exact sz, fun G' L2 Z2 η2 H2 S E ok i d hd => ?_, fun G' L2 Z2 η2 H2 S E ok i hi => ?_⟩
  · obtain ⟨us, h1, r1⟩ := ha G' L2 Z2 η2 H2 S E ok
    rw [List.getElem?_map, List.getElem?_zipIdx] at hd
    cases e : xs[i]? with
    | none => rw [e] at hd; cases hd
    | some dx =>
      rw [e] at hd
      have ed : d = .tuple [.int (i : Nat), dx] := by
        have := Option.some.inj hd
        rw [← this]
        simp
      subst ed
      obtain ⟨u, hu, ru⟩ := r1.get e
      refine ⟨⟨us, u, .inl h1, hu⟩, fun x H3 hy => ?_⟩
      obtain ⟨T, x', rfl, hT, rfl, f1⟩ := hy
      have ex : u = x' := Option.some.inj (hu.symm.trans (f1 us (.inl h1)))
      subst ex
      obtain ⟨a1, a2, a3⟩ := pair_it (J := Ite K a) (H3 := H2) (x := .int (i : Nat)) (dx := .int (i : Nat)) S hT (.int _) ru
      exact ⟨a1, a2, a3, fun z => nomatch z⟩
  · obtain ⟨us, h1, r1⟩ := ha G' L2 Z2 η2 H2 S E ok
    refine ⟨us, .inl h1, ?_⟩
    rw [r1.length]
    rw [List.length_map, List.length_zipIdx] at hi
    exact Nat.le_of_eq hi
end

/-! ### the rules -/
section
variable {X : Cx} {G : Gh} {L : Loc} {Z : Hp} {η : Reg} {H : Hp} {tg e e2 : Expr} {te tb : LTE} {p pos : Pos}
def iSeq (K : PySem.W.Frag) (te : TE) : TI := fun σ H R => te σ H fun x H1 => (∃ a xs, x = .ref a ∧ Rd H1 a (.lst xs) ∧ R (Itl K a) H1) ∨ (∃ a xs, x = .ref a ∧ Rd H1 a (.tup xs) ∧ R (Itt K a) H1) ∨ ∃ s, x = .str s ∧ R (Its s) H1
theorem pi_seq {t : TE} (he : PE X e t) : PI X tg e (iSeq X.K t) := by
  refine ⟨fun pins s σ H R I h => thn (he.run pins s σ H _ I h) ?_⟩
  rintro v s1 ⟨x, H1, I1, r1, ⟨a, xs, rfl, hq, q⟩ | ⟨a, xs, rfl, hq, q⟩ | ⟨z, rfl, q⟩⟩
  · cases r1
    obtain ⟨_, vs, n, _, e⟩ := rd_lst I1 hq
    exact wpAny_pyIter_list ⟨_, e, rfl, _, rfl⟩ (pi_one (tk := s1.toks) I1 _ (turn_list a _) ⟨_, Heap.get?_push_size _ rfl, rfl, rfl⟩ q)
  · cases r1
    obtain ⟨_, vs, _, pt⟩ := rd_tup I1 hq
    exact wpAny_pyIter_tuple (show s1.heap.IsTuple a vs.toArray from pt) (pi_one (tk := s1.toks) I1 _ (turn_tuple a _) ⟨_, Heap.get?_push_size _ rfl, rfl, rfl⟩ q)
  · obtain ⟨t, rfl⟩ := r1
    cases ha : z.cps.all (· < 128)
    · exact wpAny_pyIter_wide ha (pi_one (tk := s1.toks) I1 _ (turn_str _ z t "str_iterator" (.inr rfl)) ⟨_, Heap.get?_push_size _ rfl, rfl, rfl⟩ q)
    · exact wpAny_pyIter_ascii ha (pi_one (tk := s1.toks) I1 _ (turn_str _ z t "str_ascii_iterator" (.inl rfl)) ⟨_, Heap.get?_push_size _ rfl, rfl, rfl⟩ q)
theorem later_of {x : V} {v : Vl} {ds : List D} (S : SI G L Z η H) (r : RepV G L Z H x v) (h : v.view η = some (.list ds)) : ∃ a, x = .ref a ∧ Later (regsOf [v]) L Z a ds (stab v ds) ∧ stab v ds η := by
  cases v with
  | dat d =>
    cases h
    cases r with
    | lst h1 h2 =>
      exact ⟨_, rfl, fun G' L2 Z2 η2 H2 S E _ => ⟨_, S.zh.rd (E.1.rd h1), RpAll.mono E.1 _ _ h2⟩, trivial⟩
  | ptr n =>
    have hn : η[n]? = some (some (.lst ds)) := by
      simp only [Vl.view] at h
      split at h
      · rename_i es e2
        cases h
        exact e2
      · cases h
    obtain ⟨a, xs, rfl, h1, h2, h3⟩ := S.list hn r
    refine ⟨a, rfl, fun G' L2 Z2 η2 H2 S E ok => ?_, hn⟩
    obtain ⟨ks, h4⟩ := E.2 n List.mem_cons_self a [] h1
    obtain ⟨b, xs, e, _, h5, h6⟩ := S.list ok ⟨a, ks, h4, rfl⟩
    cases e
    exact ⟨xs, .inl h5, h6⟩
  | fr o => cases h
/-- what the heap holds is not too large -/
def sizes (H : Hp) : Prop := (∀ a xs, Rd H a (.lst xs) → xs.length ≤ sizeLine) ∧ ∀ a xs, Rd H a (.tup xs) → xs.length ≤ sizeLine
theorem _root_.L2.PI.sized {wi : TI} (h : PI X tg e wi) : PI X tg e fun σ H R => wi σ H fun J H' => sizes H' → R J H' := by
  refine ⟨fun pins s σ H R I q => thn (h.run pins s σ H _ I q) fun v s1 h1 => thn h1 ?_⟩
  rintro u s2 ⟨it, fp, tn, J, H', e1, I', T, t0, hf, hR⟩
  exact ⟨it, fp, tn, J, H', e1, I', T, t0, hf, hR ⟨fun a xs h => (rd_lst I' h).1, fun a xs h => (rd_tup I' h).1⟩⟩
theorem _root_.L2.PI.weak {t t' : TI} (h : PI X tg e t) (w : ∀ σ H Q, t' σ H Q → t σ H Q) : PI X tg e t' := ⟨fun pins s σ H Q I q => h.run pins s σ H Q I (w σ H Q q)⟩
def seqW (te : LTE) : LTI := fun ρ η R => te ρ η fun v η1 => onView v.fz η1 fun
    | .list ds => R ds (stab v.fz ds) (regsOf [v.fz]) η1
    | .tuple ds => R ds (fun _ => True) [] η1
    | .str s => s.length ≤ sizeLine ∧ R (chars s) (fun _ => True) [] η1
    | _ => False
theorem li_seq (he : LE X G e te) : PI X tg e (liftI G true (seqW te)) := by
  refine (pi_seq he).sized.weak ?_
  rintro σ H R ⟨ρ, L, Z, η, Rp', S, s, t, k⟩
  refine step (P := fun v η1 => onView v η1 fun
    | .list ds => Rp' ds (stab v ds) (regsOf [v]) η1
    | .tuple ds => Rp' ds (fun _ => True) [] η1
    | .str s => s.length ≤ sizeLine ∧ Rp' (chars s) (fun _ => True) [] η1
    | _ => False) S s t fun x v L1 Z1 η1 H1 S1 s1 E1 r1 q => ?_
  obtain ⟨d, ed, q⟩ := onView_some q
  have w := r1.view S1 ed
  cases d <;> first | exact False.elim q | skip
  · cases w.str
    exact .inr (.inr ⟨_, rfl, fun _ => k _ _ _ _ L1 Z1 η1 H1 S1 E1 (it_str q.1) trivial q.2⟩)
  · rename_i ds
    obtain ⟨a, xs, rfl, h1, h2⟩ := w
    refine .inl ⟨a, xs, rfl, h1, fun sz => ?_⟩
    have hz : ds.length ≤ sizeLine := by rw [← h2.length]; exact sz.1 a xs h1
    cases v with
    | dat d =>
      cases ed
      cases r1 with
      | lst h1 h2 => exact k _ _ _ _ L1 Z1 η1 H1 S1 E1 (it_list h1 h2 hz) trivial q
    | ptr n =>
      have hn : η1[n]? = some (some (.lst ds)) := by
        simp only [Vl.view] at ed
        split at ed
        · rename_i es e2
          cases ed
          exact e2
        · cases ed
      obtain ⟨b, ys, e3, h3, _, _⟩ := S1.list hn r1
      cases e3
      exact k _ _ _ _ L1 Z1 η1 H1 S1 E1 (it_reg h3 hz) hn q
    | fr o => cases ed
  · obtain ⟨a, o, xs, rfl, h1, hd, h2⟩ := w.tup
    exact .inr (.inl ⟨a, xs, rfl, .inr ⟨_, S1.zh _ _ h1⟩, fun sz => k _ _ _ _ L1 Z1 η1 H1 S1 E1 (it_tup (.inr ⟨_, h1⟩) h2 (by rw [← h2.length]; exact sz.2 a xs (.inr ⟨_, S1.zh _ _ h1⟩))) trivial q⟩)
def rng1S (ta : LTE) : LTI := fun ρ η R => ta ρ η fun v η1 => match v with
    | .dat (.int j) => j ≤ sizeLine ∧ -(2 ^ 62) ≤ j ∧ R (rangeD 0 j.toNat) (fun _ => True) [] η1
    | _ => False
theorem stepI' {ta : LTE} {σ : SV} {ρ : Sl} {R : V → Hp → Prop} {P : Int → Reg → Prop} (S : SI G L Z η H) (s : SS L Z σ ρ) (t : ta ρ η fun v η1 => match v with
    | .dat (.int i) => P i η1
    | _ => False)
    (k : ∀ i L1 Z1 η1 H1, SI G L1 Z1 η1 H1 → SS L1 Z1 σ ρ → Ext L Z L1 Z1 → P i η1 → R (.int i) H1) : liftE G ta σ H R := by
  refine step' S s t fun x v L1 Z1 η1 H1 S1 s1 E1 r1 q => ?_
  cases v with
  | dat d =>
    cases d <;> first | exact False.elim q | skip
    cases Rp.int_inv r1
    exact k _ L1 Z1 η1 H1 S1 s1 E1 q
  | ptr n => exact False.elim q
  | fr o => exact False.elim q
theorem line_int : ((sizeLine : Nat) : Int) < 2 ^ 62 := by decide
theorem li_rng1 (hg : Gl X "range") (hm : X.mg "range" = none) (he : LE X G e te) (hs : starEach [e] X.env = (false, eval e X.env) :: starEach [] X.env) :
    PI X tg (.Call (.Name "range" p) [e] [] pos) (liftI G true (rng1S te)) := by
  refine (pi_range1 hg hm (pa_cons he pa_nil hs) hs).weak ?_
  rintro σ H R ⟨ρ, L, Z, η, Rp', S, s, t, k⟩
  refine stepI' (P := fun j η1 => j ≤ sizeLine ∧ -(2 ^ 62) ≤ j ∧ Rp' (rangeD 0 j.toNat) (fun _ => True) [] η1) S s t fun j L1 Z1 η1 H1 S1 s1 E1 q => ?_
  obtain ⟨h1, h2, q⟩ := q
  have hl := line_int
  exact ⟨j, rfl, h2, by omega, k _ _ _ _ L1 Z1 η1 H1 S1 E1 (it_rng (by omega)) trivial q⟩
def rng2S (ta tb : LTE) : LTI := fun ρ η R => ta ρ η fun v η1 => tb ρ η1 fun w η2 => match v, w with
    | .dat (.int i), .dat (.int j) => (j - i ≤ sizeLine ∧ (-(2 ^ 62) ≤ i ∧ i < 2 ^ 62 ∧ -(2 ^ 62) ≤ j ∧ j < 2 ^ 62)) ∧ R (rangeD i (j - i).toNat) (fun _ => True) [] η2
    | _, _ => False
theorem li_rng2 (hg : Gl X "range") (hm : X.mg "range" = none) (he : LE X G e te) (hb : LE X G e2 tb) (hs : starEach [e, e2] X.env = (false, eval e X.env) :: starEach [e2] X.env) (hs2 : starEach [e2] X.env = (false, eval e2 X.env) :: starEach [] X.env) :
    PI X tg (.Call (.Name "range" p) [e, e2] [] pos) (liftI G true (rng2S te tb)) := by
  refine (pi_range2 hg hm (pa_cons he (pa_cons hb pa_nil hs2) hs) (by rw [hs, hs2]; rfl) hs2).weak ?_
  rintro σ H R ⟨ρ, L, Z, η, Rp', S, s, t, k⟩
  refine step' S s t fun x v L1 Z1 η1 H1 S1 s1 E1 r1 q => ?_
  refine step' S1 s1 q fun y w L2 Z2 η2 H2 S2 s2 E2 r2 q => ?_
  rcases v with d | n | o <;> rcases w with d' | n' | o' <;> first | exact False.elim q | skip
  · cases d <;> cases d' <;> first | exact False.elim q | skip
    cases Rp.int_inv r1
    cases Rp.int_inv r2
    obtain ⟨⟨h1, h2⟩, q⟩ := q
    exact ⟨_, _, rfl, h2, k _ _ _ _ L2 Z2 η2 H2 S2 (E1.trans E2) (it_rng (by omega)) trivial q⟩
  · cases d <;> exact False.elim q
  · cases d <;> exact False.elim q
def zipW (ta tb : LTE) : LTI := fun ρ η R => ta ρ η fun v η1 => tb ρ η1 fun w η2 => onView v.fz η2 fun
    | .list xs => onView w.fz η2 fun
      | .list ys => R (List.zipWith (fun x y => PyData.tuple [x, y]) xs ys) (fun η => stab v.fz xs η ∧ stab w.fz ys η) (regsOf [v.fz, w.fz]) η2
      | _ => False
    | .tuple xs => onView w.fz η2 fun
      | .tuple ys => R (List.zipWith (fun x y => PyData.tuple [x, y]) xs ys) (fun _ => True) [] η2
      | _ => False
    | _ => False
theorem li_zip {elts : List Expr} {kk : Nat} {tpos : Pos} (hg : Gl X "zip") (hm : X.mg "zip" = none) (he : LE X G e te) (hb : LE X G e2 tb) (hs : starEach [e, e2] X.env = (false, eval e X.env) :: starEach [e2] X.env) (hs2 : starEach [e2] X.env = (false, eval e2 X.env) :: starEach [] X.env) :
    PI X (.Tuple elts kk tpos) (.Call (.Name "zip" p) [e, e2] [] pos) (liftI G false (zipW te tb)) := by
  refine (RZ.pi_zipA hg hm (pa_cons he (pa_cons hb pa_nil hs2) hs) hs (by rw [hs2]; rfl)).sized.weak ?_
  rintro σ H R ⟨ρ, L, Z, η, Rp', S, s, t, k⟩
  refine step (P := fun v η1 => tb ρ η1 fun w η2 => onView v η2 fun
    | .list xs => onView w.fz η2 fun
      | .list ys => Rp' (List.zipWith (fun x y => PyData.tuple [x, y]) xs ys) (fun η => stab v xs η ∧ stab w.fz ys η) (regsOf [v, w.fz]) η2
      | _ => False
    | .tuple xs => onView w.fz η2 fun
      | .tuple ys => Rp' (List.zipWith (fun x y => PyData.tuple [x, y]) xs ys) (fun _ => True) [] η2
      | _ => False
    | _ => False) S s t fun x v L1 Z1 η1 H1 S1 s1 E1 r1 q => ?_
  refine step (P := fun w η2 => onView v η2 fun
    | .list xs => onView w η2 fun
      | .list ys => Rp' (List.zipWith (fun x y => PyData.tuple [x, y]) xs ys) (fun η => stab v xs η ∧ stab w ys η) (regsOf [v, w]) η2
      | _ => False
    | .tuple xs => onView w η2 fun
      | .tuple ys => Rp' (List.zipWith (fun x y => PyData.tuple [x, y]) xs ys) (fun _ => True) [] η2
      | _ => False
    | _ => False) S1 s1 q fun y w L2 Z2 η2 H2 S2 s2 E2 r2 q => ?_
  obtain ⟨d, ed, q⟩ := onView_some q
  have r1' := r1.ext (H' := H2) E2 (view_nofr ed)
  cases d <;> first | exact False.elim q | skip
  · obtain ⟨d, ed2, q⟩ := onView_some q
    cases d <;> first | exact False.elim q | skip
    obtain ⟨a, rfl, la, sa⟩ := later_of S2 r1' ed
    obtain ⟨b, rfl, lb, sb⟩ := later_of S2 r2 ed2
    obtain ⟨us, h1, q1⟩ := la G L2 Z2 η2 H2 S2 (Ext.refl.keep _) sa
    obtain ⟨ws, h2, q2⟩ := lb G L2 Z2 η2 H2 S2 (Ext.refl.keep _) sb
    exact ⟨a, b, us, ws, rfl, .inl ⟨.inl h1, .inl h2, fun sz => k _ _ _ _ L2 Z2 η2 H2 S2 (E1.trans E2) (it_zip (la.sub fun n h => reg_l h) (lb.sub fun n h => reg_r h) (by rw [← q1.length]; exact sz.1 _ _ h1)) ⟨sa, sb⟩ q⟩⟩
  · obtain ⟨d, ed2, q⟩ := onView_some q
    cases d <;> first | exact False.elim q | skip
    obtain ⟨a, o, us, rfl, h1, _, q1⟩ := (r1'.view S2 ed).tup
    obtain ⟨b, o', ws, rfl, h2, _, q2⟩ := (r2.view S2 ed2).tup
    exact ⟨a, b, us, ws, rfl, .inr ⟨.inl (.inr ⟨_, S2.zh _ _ h1⟩), .inl (.inr ⟨_, S2.zh _ _ h2⟩), fun sz => k _ _ _ _ L2 Z2 η2 H2 S2 (E1.trans E2) (it_zipT (.inr ⟨_, h1⟩) q1 (.inr ⟨_, h2⟩) q2 (by rw [← q1.length]; exact sz.2 _ _ (.inr ⟨_, S2.zh _ _ h1⟩))) trivial q⟩⟩
def enumW (ta : LTE) : LTI := fun ρ η R => ta ρ η fun v η1 => onView v.fz η1 fun
    | .list xs => R (xs.zipIdx.map fun p => PyData.tuple [.int p.2, p.1]) (stab v.fz xs) (regsOf [v.fz]) η1
    | .tuple xs => R (xs.zipIdx.map fun p => PyData.tuple [.int p.2, p.1]) (fun _ => True) [] η1
    | _ => False
theorem li_enum {elts : List Expr} {kk : Nat} {tpos : Pos} (hg : Gl X "enumerate") (hm : X.mg "enumerate" = none) (he : LE X G e te) (hs : starEach [e] X.env = (false, eval e X.env) :: starEach [] X.env) :
    PI X (.Tuple elts kk tpos) (.Call (.Name "enumerate" p) [e] [] pos) (liftI G false (enumW te)) := by
  refine (pi_enT hg hm (pa_cons he pa_nil hs) hs).sized.weak ?_
  rintro σ H R ⟨ρ, L, Z, η, Rp', S, s, t, k⟩
  refine step (P := fun v η1 => onView v η1 fun
    | .list xs => Rp' (xs.zipIdx.map fun p => PyData.tuple [.int p.2, p.1]) (stab v xs) (regsOf [v]) η1
    | .tuple xs => Rp' (xs.zipIdx.map fun p => PyData.tuple [.int p.2, p.1]) (fun _ => True) [] η1
    | _ => False) S s t fun x v L1 Z1 η1 H1 S1 s1 E1 r1 q => ?_
  obtain ⟨d, ed, q⟩ := onView_some q
  cases d <;> first | exact False.elim q | skip
  · obtain ⟨a, rfl, la, sa⟩ := later_of S1 r1 ed
    obtain ⟨us, h1, q1⟩ := la G L1 Z1 η1 H1 S1 (Ext.refl.keep _) sa
    exact ⟨a, rfl, .inl ⟨us, .inl h1, fun sz => k _ _ _ _ L1 Z1 η1 H1 S1 E1 (it_enum la (by rw [← q1.length]; exact sz.1 _ _ h1)) sa q⟩⟩
  · obtain ⟨a, o, us, rfl, h1, _, q1⟩ := (r1.view S1 ed).tup
    exact ⟨a, rfl, .inr ⟨us, .inl (.inr ⟨_, S1.zh _ _ h1⟩), fun sz => k _ _ _ _ L1 Z1 η1 H1 S1 E1 (it_enumT (.inr ⟨_, h1⟩) q1 (by rw [← q1.length]; exact sz.2 _ _ (.inr ⟨_, S1.zh _ _ h1⟩))) trivial q⟩⟩
end
end Pl

namespace Pl
open PySem PySem.Spec PyProof.Rows L2

/-! ## targets -/
def gMany : List Nat → TGs
  | [] => gNil
  | i :: is => gCons (gName i) (gMany is)
def tgR (K : PySem.W.Frag) : Tg → TG
  | .one i => gName i
  | .many is => gTup K is.length (gMany is)
def Tg.ixs : Tg → List Nat
  | .one i => [i]
  | .many is => is
def Tg.isMany : Tg → Bool
  | .one _ => false
  | .many _ => true
section
variable {G : Gh} {L : Loc} {Z : Hp} {η : Reg} {H : Hp} {σ : SV} {ρ : Sl}
theorem wipe_get (σ : SV) (j : Nat) : ∀ vs : List Nat, (wipe σ vs)[j]? = if j ∈ vs then σ[j]?.map (fun _ => none) else σ[j]?
  | [] => by simp [wipe]
  | v :: vs => by
    unfold wipe
    rw [List.getElem?_set]
    by_cases h : v = j
    · subst h
      rw [if_pos rfl, if_pos List.mem_cons_self]
      rw [wipe_length]
      by_cases q : v < σ.length
      · rw [if_pos q, List.getElem?_eq_getElem q]; rfl
      · rw [if_neg q, List.getElem?_eq_none (by omega)]; rfl
    · rw [if_neg h, wipe_get σ j vs]
      by_cases q : j ∈ vs
      · rw [if_pos q, if_pos (List.mem_cons_of_mem _ q)]
      · rw [if_neg q, if_neg (fun z => by rcases List.mem_cons.mp z with e | e; exact h e.symm; exact q e)]
theorem wipe_wipe (σ : SV) (vs : List Nat) : wipe (wipe σ vs) vs = wipe σ vs := by
  apply List.ext_getElem?
  intro j
  rw [wipe_get, wipe_get]
  by_cases q : j ∈ vs
  · rw [if_pos q, if_pos q]; cases σ[j]? <;> rfl
  · rw [if_neg q, if_neg q]
theorem wipe_set (σ : SV) {vs : List Nat} {i : Nat} (x : Option V) (h : i ∈ vs) : wipe (σ.set i x) vs = wipe σ vs := by
  apply List.ext_getElem?
  intro j
  rw [wipe_get, wipe_get]
  by_cases q : j ∈ vs
  · rw [if_pos q, if_pos q, List.getElem?_set]
    by_cases e : i = j
    · subst e
      rw [if_pos rfl]
      by_cases z : i < σ.length
      · rw [if_pos z, List.getElem?_eq_getElem z]; rfl
      · rw [if_neg z, List.getElem?_eq_none (by omega)]
    · rw [if_neg e]
  · rw [if_neg q, if_neg q, List.getElem?_set_ne (fun e => q (by rw [← e]; exact h))]
theorem SS.wipe (s : SS L Z σ ρ) : ∀ vs : List Nat, SS L Z (wipe σ vs) (wipeL ρ vs)
  | [] => s
  | v :: vs => SS.set (v := none) (x := none) trivial v (SS.wipe s vs)
theorem many_low {own : List Nat} : ∀ (is : List Nat) {xs : List V} {ds : List D} {σ : SV} {ρ : Sl} {R : SV → Hp → Prop}, SS L Z σ ρ → RpAll Z xs ds → is.length = ds.length →
    (∀ σ', SS L Z σ' (setMany ρ is ds) → ((∀ i ∈ is, i ∈ own) → L2.wipe σ' own = L2.wipe σ own) → R σ' H) → gMany is xs σ H R
  | [], xs, ds, σ, ρ, R, s, r, hl, k => by
    cases ds with
    | cons d ds => cases hl
    | nil =>
      cases r
      exact ⟨rfl, k σ s fun _ => rfl⟩
  | i :: is, xs, ds, σ, ρ, R, s, r, hl, k => by
    cases ds with
    | nil => cases hl
    | cons d ds =>
      cases r with
      | cons r1 r2 =>
        refine ⟨_, _, rfl, ?_⟩
        refine many_low (own := own) is (SS.set (x := some _) (v := some (.dat d)) ⟨_, rfl, r1⟩ i s) r2 (by simpa using hl) fun σ' s' h => k σ' s' fun hi => ?_
        rw [h fun j hj => hi j (List.mem_cons_of_mem _ hj), wipe_set σ _ (hi i List.mem_cons_self)]
theorem tg_low {K : PySem.W.Frag} {vs : List Nat} {Q : Sl → Prop} {R : SV → Hp → Prop} {x : V} : ∀ (tg : Tg) {d : D}, SI G L Z η H → SS L Z σ ρ → Iv Z H x d → (tg.isMany = false → Rp Z x d) → wTg tg d ρ Q →
    (∀ σ' ρ', SS L Z σ' ρ' → ((∀ i ∈ tg.ixs, i ∈ vs) → L2.wipe σ' vs = L2.wipe σ vs) → Q ρ' → R σ' H) → tgR K tg x σ H R
  | .one i, d, S, s, iv, pl, h, k => k _ _ (SS.set (x := some x) (v := some (.dat d)) ⟨x, rfl, pl rfl⟩ i s) (fun hi => wipe_set σ _ (hi i List.mem_cons_self)) h
  | .many is, d, S, s, iv, pl, h, k => by
    cases d <;> first | exact False.elim h | skip
    rename_i ds
    obtain ⟨hl, h⟩ := h
    have : ∃ a xs, x = .ref a ∧ Rd H a (.tup xs) ∧ RpAll Z xs ds := by
      rcases iv with r | ⟨T, xs, ds', e1, e2, h1, h2⟩
      · cases r with
        | tup h1 hd h2 => exact ⟨_, _, rfl, .inr ⟨_, S.zh _ _ h1⟩, h2⟩
      · cases e2
        exact ⟨T, xs, e1, h1, h2⟩
    obtain ⟨a, xs, rfl, h1, h2⟩ := this
    exact ⟨a, xs, rfl, .inl h1, by rw [h2.length]; exact hl.symm, many_low is s h2 hl fun σ' s' q => k σ' _ s' q h⟩
theorem SI.guard {D : Addr} {u : HO} (S : SI G L Z η H) (h : H D = some u) (z : Z D = none) (n : D ∉ L.all) : SI { G with F0 := upd G.F0 D u } L Z η H := by
  refine ⟨S.a0, S.z0, S.zh, fun a o e => ?_, fun a o e => ?_, S.nd, S.ln, fun m p e => ?_, S.lv⟩
  · by_cases q : a = D
    · subst q
      have e : upd G.F0 a u a = some o := e
      rw [upd_same] at e; cases e; exact h
    · have e : upd G.F0 D u a = some o := e
      rw [upd_ne q] at e; exact S.fh a o e
  · have q : a ≠ D := fun q => by rw [q, z] at e; cases e
    show upd G.F0 D u a = none
    rw [upd_ne q]; exact S.zn a o e
  · obtain ⟨a, o, b, c⟩ := S.ow m p e
    refine ⟨fun x hx => ⟨(a x hx).1, ?_⟩, o, b, c⟩
    have q : x ≠ D := fun q => n (by rw [← q]; exact mem_all.mpr ⟨m, p, e, hx⟩)
    show upd G.F0 D u x = none
    rw [upd_ne q]; exact (a x hx).2
theorem SI.unguard {D : Addr} {u : HO} (S : SI { G with F0 := upd G.F0 D u } L Z η H) (f : G.F0 D = none) : SI G L Z η H ∧ H D = some u ∧ Z D = none ∧ D ∉ L.all := by
  have sub : ∀ {a : Addr}, upd G.F0 D u a = none → G.F0 a = none := fun {a} e => by
    by_cases q : a = D
    · subst q; rw [upd_same] at e; cases e
    · rw [upd_ne q] at e; exact e
  have hd : H D = some u := S.fh D u (show upd G.F0 D u D = some u from upd_same)
  refine ⟨⟨S.a0, S.z0, S.zh, fun a o e => S.fh a o ?_, fun a o e => sub (S.zn a o e), S.nd, S.ln, fun m p e => ?_, S.lv⟩, hd, ?_, fun q => ?_⟩
  · show upd G.F0 D u a = some o
    rw [upd_ne (ne_of_none e f)]; exact e
  · obtain ⟨a, o, b, c⟩ := S.ow m p e
    exact ⟨fun x hx => ⟨(a x hx).1, sub (a x hx).2⟩, o, b, c⟩
  · cases e : Z D with
    | none => rfl
    | some w =>
      have := S.zn D w e
      have : upd G.F0 D u D = none := this
      rw [upd_same] at this; cases this
  · have := (S.own q).2.1
    have : upd G.F0 D u D = none := this
    rw [upd_same] at this; cases this
end

/-! ## comprehensions -/
section
variable {X : Cx} {G : Gh} {L : Loc} {Z : Hp} {η : Reg} {H : Hp} {σ : SV} {ρ : Sl}
def anyE (t : LTE) : TE := fun σ H Q => ∃ G : Gh, liftE G t σ H Q
def anyT (t : LTT) : TT := fun σ H Q => ∃ G : Gh, liftT G t σ H Q
theorem pe_any {e : Expr} {t : LTE} (h : ∀ G : Gh, LE X G e t) : PE X e (anyE t) := ⟨fun pins s σ H Q I ⟨G, q⟩ => (h G).run pins s σ H Q I q⟩
theorem pt_any {e : Expr} {t : LTT} (h : ∀ G : Gh, LT X G e t) : PT X e (anyT t) := ⟨fun pins s σ H Q I ⟨G, q⟩ => (h G).run pins s σ H Q I q⟩
theorem pts_any0 : PTs X [] (anyT fun _ η Q => Q true η) := by
  refine ⟨fun pins s σ H Q I h => pts_nil.run pins s σ H Q I ?_⟩
  obtain ⟨G, ρ, L, Z, η, Qp, S, s, t, k⟩ := h
  exact k true L Z η H S Ext.refl t
def lcW (src : LTI) (tg : Tg) (own : List Nat) (ct : LTT) (elt : LTE) : LTE := fun ρ η Q => src ρ η fun ds ok _ η1 => wLc tg own ct elt ok ρ ds η1 fun es η2 => Q (.fr (.lst es)) η2
theorem lc_low {K : PySem.W.Frag} {src : LTI} {pl : Bool} {tg : Tg} {own : List Nat} {ct : LTT} {elt : LTE} (hp : pl = true ∨ tg.isMany = true) (hi : ∀ i ∈ tg.ixs, i ∈ own) {σ : SV} {H : Hp} {Q : VK}
    (h : liftE G (lcW src tg own ct elt) σ H Q) : tLc (liftI G pl src) (tgR K tg) (anyT ct) (anyE elt) own σ H Q := by
  obtain ⟨ρ, L, Z, η, Qp, S, s, t, k⟩ := h
  refine ⟨ρ, L, Z, η, _, S, s, t, ?_⟩
  intro J ds ok gs L1 Z1 η1 H1 S1 E1 it ok1 q D hD
  obtain ⟨d1, d2, d3⟩ := S1.fresh hD
  have s1 : SS L1 Z1 σ ρ := s.ext E1
  refine ⟨fun i m H => ∃ η2 L2 Z2 acc ad rest, m = rest.length ∧ ds.drop i = rest ∧ SI G L2 Z2 η2 H ∧ Ext L1 Z1 L2 Z2 ∧ H D = some (.lst acc) ∧ Z2 D = none ∧ D ∉ L2.all ∧ RpAll Z2 acc ad ∧ (ad.length ≤ i ∧ i ≤ ds.length) ∧ ok η2 ∧
    wLc tg own ct elt ok ρ rest η2 fun es η3 => Qp (.fr (.lst (ad ++ es))) η3, ⟨ds.length, η1, L1, Z1, [], [], ds, rfl, rfl, S1.other d1 d2 d3, Ext.refl, upd_same, d2, d1, .nil, ⟨Nat.le_refl _, Nat.zero_le _⟩, ok1, q⟩, ?_⟩
  rintro i m H ⟨η2, L2, Z2, acc, ad, rest, rfl, hr, S2, E2, hD2, z2, n2, ra, ⟨la, lb⟩, ok2, w⟩
  cases rest with
  | nil =>
    have hlen : ds.length ≤ i := List.drop_eq_nil_iff.mp hr
    refine .inl ⟨it.stop G L2 Z2 η2 H S2 (E2.keep gs) ok2 i (by omega), ?_⟩
    have w : Qp (.fr (.lst (ad ++ []))) η2 := w
    rw [List.append_nil] at w
    refine k _ (.fr (.lst ad)) L2 Z2 η2 H S2 (E1.trans E2) ⟨D, [], rfl, ⟨rfl, acc, hD2, ra⟩, fun b hb => ?_⟩ w
    rw [List.mem_singleton] at hb
    subst hb
    exact ⟨z2, d3, n2⟩
  | cons d r =>
    have hlt : i < ds.length := by
      by_cases h : i < ds.length
      · exact h
      · rw [List.drop_eq_nil_of_le (by omega)] at hr; cases hr
    have hd : ds[i]? = some d := by
      rw [List.drop_eq_getElem_cons hlt] at hr
      injection hr with h1 h2
      rw [List.getElem?_eq_getElem hlt, h1]
    have hr' : ds.drop (i + 1) = r := by
      rw [List.drop_eq_getElem_cons hlt] at hr
      injection hr
    obtain ⟨hgo, hy⟩ := it.go G L2 Z2 η2 H S2 (E2.keep gs) ok2 i d hd
    refine .inr ⟨hgo, fun H' => ∃ η3 L3 Z3 acc' ad', SI G L3 Z3 η3 H' ∧ Ext L1 Z1 L3 Z3 ∧ H' D = some (.lst acc') ∧ Z3 D = none ∧ D ∉ L3.all ∧ RpAll Z3 acc' ad' ∧ ad'.length ≤ i + 1 ∧ ok η3 ∧
      wLc tg own ct elt ok ρ r η3 fun es η3 => Qp (.fr (.lst (ad' ++ es))) η3, ?_, ?_⟩
    · rintro H' ⟨η3, L3, Z3, acc', ad', h1, h2, h3, h4, h5, h6, h7, h8, h9⟩
      exact ⟨r.length, by rw [List.length_cons]; omega, η3, L3, Z3, acc', ad', r, rfl, hr', h1, h2, h3, h4, h5, h6, ⟨h7, by omega⟩, h8, h9⟩
    · intro x H3 yl
      obtain ⟨S3, sub, iv, hpl⟩ := hy x H3 yl
      have hD3 := sub _ _ hD2
      have sw : SS L2 Z2 (_root_.L2.wipe σ own) (wipeL ρ own) := (s1.ext E2).wipe own
      refine tg_low (vs := own) tg S3 sw iv (fun z => hpl ?_) w fun σ' ρ' s' hw w => ?_
      · rcases hp with e | e
        · exact e
        · rw [z] at e; cases e
      refine ⟨by rw [hw hi, wipe_wipe], ?_⟩
      have SG := S3.guard hD3 z2 n2
      refine ⟨_, stepT SG s' w fun b L4 Z4 η4 H4 S4 s4 E4 w => ?_⟩
      cases b with
      | false =>
        obtain ⟨S5, hD5, z5, n5⟩ := S4.unguard d3
        obtain ⟨ok4, w⟩ : ok η4 ∧ wLc tg own ct elt ok ρ r η4 fun es η3 => Qp (.fr (.lst (ad ++ es))) η3 := w
        exact ⟨η4, L4, Z4, acc, ad, S5, E2.trans E4, hD5, z5, n5, RpAll.mono E4.1 _ _ ra, by omega, ok4, w⟩
      | true =>
        refine ⟨_, step (P := fun v η2 => v.onD fun e => ok η2 ∧ wLc tg own ct elt ok ρ r η2 fun es η3 => Qp (.fr (.lst (ad ++ (e :: es)))) η3) S4 s4 w fun y v L5 Z5 η5 H5 S5 s5 E5 rv w => ?_⟩
        obtain ⟨e, rfl, ok5, w⟩ := onD_some w
        obtain ⟨S6, hD6, z6, n6⟩ := S5.unguard d3
        have ra' : RpAll Z5 acc ad := RpAll.mono (E4.trans E5).1 _ _ ra
        refine ⟨acc, hD6, ?_, η5, L5, Z5, acc ++ [y], ad ++ [e], S6.other n6 z6 d3, E2.trans (E4.trans E5), upd_same, z6, n6, ra'.append (.cons rv .nil), by rw [List.length_append, List.length_singleton]; omega, ok5, ?_⟩
        · rw [ra'.length]
          have := it.sz
          omega
        · simpa only [List.append_assoc, List.singleton_append] using w
end
end Pl

namespace Pl
open PySem PySem.Spec PyProof.Rows L2

/-! ## statements -/
section
variable {X : Cx} {G : Gh} {L : Loc} {Z : Hp} {η : Reg} {H : Hp} {σ : SV} {ρ : Sl} {pos : Pos}
theorem ls_nil : LSs X G [] (fun P ρ η => P.nx ρ η) := by
  refine pss_nil.weak ?_
  rintro D σ H ⟨ρ, L, Z, η, P, S, s, t, e⟩
  exact e.nx σ H ρ L Z η S s t
theorem ls_cons {st : Stmt} {rest : List Stmt} {t u : LTS} (h1 : LS X G st t) (h2 : LSs X G rest u) : LSs X G (st :: rest) (fun P ρ η => t { P with nx := fun ρ η => u P ρ η } ρ η) := by
  refine (pss_cons h1 h2).weak ?_
  rintro D σ H ⟨ρ, L, Z, η, P, S, s, t, e⟩
  exact ⟨ρ, L, Z, η, _, S, s, t, fun σ H ρ L Z η S s q => ⟨ρ, L, Z, η, P, S, s, q, e⟩, e.rt, e.bk, e.ct⟩
theorem clr_low {n : Nat} {p : Option (Addr × List Addr)} (s : SS L Z σ ρ) : SS (L.set n p) Z σ (clr n ρ) := by
  induction s with
  | nil => exact .nil
  | cons r t ih =>
    refine .cons ?_ ih
    rename_i x v _ _
    cases v with
    | none => trivial
    | some v =>
      cases v with
      | dat d => exact r
      | ptr m =>
        show RepS _ _ _ (if m = n then none else some (.ptr m))
        by_cases h : m = n
        · rw [if_pos h]; trivial
        · rw [if_neg h]
          obtain ⟨a, ks, h1, h2⟩ := r
          exact ⟨a, ks, by rw [List.getElem?_set_ne (fun z => h z.symm)]; exact h1, h2⟩
      | fr o => exact r
theorem ls_asg {st : Stmt} {i : Nat} {r : Option Nat} {te : LTE} {T : TE} (hp : PS X st (tAsg T (gName i))) (hT : ∀ σ H Q, liftE G te σ H Q → T σ H Q) (hr : ∀ n, r = some n → G.A0 n = none) :
    LS X G st (fun P ρ η => te ρ η fun v η1 => asgW i r v ρ η1 P.nx) := by
  refine hp.weak ?_
  rintro D σ H ⟨ρ, L, Z, η, P, S, s, t, e⟩
  refine hT _ _ _ ⟨ρ, L, Z, η, _, S, s, t, fun x v L' Z' η' H' S' E' rv q => ?_⟩
  have s' := s.ext E'
  cases v with
  | dat d => exact e.nx _ _ _ _ _ _ S' (s'.set (x := some x) (v := some (.dat d)) ⟨x, rfl, rv⟩ i) q
  | ptr n =>
    obtain ⟨a, ks, h1, rfl⟩ := rv
    exact e.nx _ _ _ _ _ _ S' (s'.set (x := some (.ref a)) (v := some (.ptr n)) ⟨a, ks, h1, rfl⟩ i) q
  | fr o =>
    cases r with
    | some n =>
      obtain ⟨hn, q⟩ := q
      obtain ⟨a, ks, rfl, ro, hf⟩ := rv
      have hl : n < L'.length := by rw [S'.ln]; exact hn
      refine e.nx _ _ _ _ _ _ (S'.put hl (hr n rfl) ro hf) ?_ q
      exact (clr_low s').set (x := some (.ref a)) (v := some (.ptr n)) ⟨a, ks, by rw [List.getElem?_set_self hl], rfl⟩ i
    | none =>
      obtain ⟨Z2, S2, E2, r2⟩ := settle S' rv
      cases o with
      | lst ds => exact e.nx _ _ _ _ _ _ S2 ((s'.ext E2).set (x := some x) (v := some (.dat (.list ds))) ⟨x, rfl, r2⟩ i) q
      | dK kvs => exact False.elim q
      | dT kvs => exact False.elim q
theorem ls_asgT {st : Stmt} {is : List Nat} {te : LTE} (hp : PS X st (tAsg (liftE G te) (tgR X.K (.many is)))) :
    LS X G st (fun P ρ η => te ρ η fun v η1 => v.fz.onD fun d => wTg (.many is) d ρ fun ρ' => P.nx ρ' η1) := by
  refine hp.weak ?_
  rintro D σ H ⟨ρ, L, Z, η, P, S, s, t, e⟩
  refine step (P := fun v η1 => v.onD fun d => wTg (.many is) d ρ fun ρ' => P.nx ρ' η1) S s t fun x v L1 Z1 η1 H1 S1 s1 E1 rv q => ?_
  obtain ⟨d, rfl, q⟩ := onD_some q
  exact tg_low (vs := []) (.many is) S1 s1 (.inl rv) (fun z => nomatch z) q fun σ' ρ' s' _ q => e.nx _ _ _ _ _ _ S1 s' q
/-- a, b = x, y -/
theorem ls_par {st : Stmt} {i j : Nat} {ta : LTA} (hp : PS X st (tPar i j (liftA G ta))) :
    LS X G st (fun P ρ η => ta ρ η fun vs η1 => vs.length ≤ sizeLine ∧ ∃ ds, vs = ds.map Vl.dat ∧ wTg (.many [i, j]) (.tuple ds) ρ fun ρ' => P.nx ρ' η1) := by
  refine hp.weak ?_
  rintro D σ H ⟨ρ, L, Z, η, P, S, s, t, e⟩
  refine stepA (P := fun vs η1 => vs.length ≤ sizeLine ∧ ∃ ds, vs = ds.map Vl.dat ∧ wTg (.many [i, j]) (.tuple ds) ρ fun ρ' => P.nx ρ' η1) S s t fun xs vs L1 Z1 η1 H1 S1 s1 E1 rv q => ?_
  obtain ⟨_, ds, rfl, hl, q⟩ := q
  have r := rv.datas
  rcases ds with _ | ⟨d1, _ | ⟨d2, _ | ⟨d3, ds⟩⟩⟩
  · cases hl
  · cases hl
  · cases r with
    | cons r1 r =>
      cases r with
      | cons r2 r =>
        cases r
        exact ⟨_, _, rfl, e.nx _ _ _ _ _ _ S1 ((s1.set (x := some _) (v := some (.dat d1)) ⟨_, rfl, r1⟩ i).set (x := some _) (v := some (.dat d2)) ⟨_, rfl, r2⟩ j) q⟩
  · simp at hl
theorem sto_low {n : Nat} {xs : List D} {k : Int} {j : Nat} {v w : V} {d : D} {R : Hp → Prop} (S : SI G L Z η H) (hn : η[n]? = some (some (.lst xs))) (rv : RepV G L Z H v (.ptr n)) (rw' : Rp Z w d) (hj : ixN xs.length k = some j)
    (h : ∀ L' H', SI G L' Z (η.set n (some (.lst (xs.set j d)))) H' → Ext L Z L' Z → R H') : rSetL v (.int k) w H R := by
  obtain ⟨a, ys, rfl, h1, h2, h3⟩ := S.list hn rv
  refine ⟨a, ys, k, j, rfl, rfl, h2, by rw [h3.length]; exact hj, ?_⟩
  exact h _ _ (S.putList h1 (h3.set rw' j)) (Ext.set h1)
theorem ls_sto {a b e : Expr} {ta tb te : LTE} {st : Stmt} (hp : PS X st (tAsg (liftE G te) (gSub (liftE G ta) (liftE G tb) rSetL))) :
    LS X G st (fun P ρ η => te ρ η fun w η1 => ta ρ η1 fun v η2 => tb ρ η2 fun i η3 => stoW v i w.fz η3 fun η4 => P.nx ρ η4) := by
  refine hp.weak ?_
  rintro D σ H ⟨ρ, L, Z, η, P, S, s, t, e⟩
  refine step (P := fun w η1 => ta ρ η1 fun v η2 => tb ρ η2 fun i η3 => stoW v i w η3 fun η4 => P.nx ρ η4) S s t fun x w L1 Z1 η1 H1 S1 s1 E1 rw' q => ?_
  refine step' S1 s1 q fun y v L2 Z2 η2 H2 S2 s2 E2 rv q => ?_
  refine step' S2 s2 q fun z i L3 Z3 η3 H3 S3 s3 E3 ri q => ?_
  cases v with
  | ptr n =>
    unfold stoW at q
    dsimp only at q
    split at q
    · rename_i xs hn
      split at q
      · rename_i k
        obtain ⟨d, rfl, j, hj, q⟩ := onD_some q
        cases Rp.int_inv ri
        exact sto_low S3 hn (rv.ext E3 (fun o e => nomatch e)) (Rp.mono (E2.trans E3).1 _ _ rw') hj fun L' H' S' E' => e.nx _ _ _ _ _ _ S' (s3.ext E') q
      · exact False.elim q
    · exact False.elim q
  | dat d => exact False.elim q
  | fr o => exact False.elim q
def rAug : R2 := fun x y H Q => rI0 (fun i j => .int (i + j)) x y H Q ∨ ∃ i j, x = .str i ∧ y = .str j ∧ i.length + j.length ≤ sizeLine ∧ Q (.str (i ++ j)) H
theorem ip_aug : PIp X .Add rAug := OpR.or iop_add iop_add_str
theorem aug_low {x y : V} {d e : D} {Qd : D → Prop} {R : VK} (rx : Rp Z x d) (ry : Rp Z y e) (h : augD d e Qd) (k : ∀ z f, Rp Z z f → Qd f → R z H) : rAug x y H R := by
  cases d <;> cases e <;> first | exact False.elim h | skip
  · cases Rp.int_inv rx
    cases Rp.int_inv ry
    exact .inl ⟨_, _, rfl, rfl, k _ _ (.int _) h⟩
  · cases Rp.str_inv rx
    cases Rp.str_inv ry
    exact .inr ⟨_, _, rfl, rfl, h.1, k _ _ (.str _) h.2⟩
theorem ls_augN {st : Stmt} {i : Nat} {te : LTE} (hp : PS X st (tAug i (liftE G te) rAug)) :
    LS X G st (fun P ρ η => match ρ[i]? with
      | some (some (.dat x)) => te ρ η fun w η1 => w.fz.onD fun y => augD x y fun z => P.nx (ρ.set i (some (.dat z))) η1
      | _ => False) := by
  refine hp.weak ?_
  rintro D σ H ⟨ρ, L, Z, η, P, S, s, t, e⟩
  split at t
  · rename_i x hx
    obtain ⟨u, hu, v, rfl, rx⟩ := s.get hx
    refine ⟨v, hu, step (P := fun w η1 => w.onD fun y => augD x y fun z => P.nx (ρ.set i (some (.dat z))) η1) S s t fun y w L1 Z1 η1 H1 S1 s1 E1 rw' q => ?_⟩
    obtain ⟨d, rfl, q⟩ := onD_some q
    exact aug_low (Rp.mono E1.1 _ _ rx) rw' q fun z f rz q => e.nx _ _ _ _ _ _ S1 (s1.set (x := some z) (v := some (.dat f)) ⟨z, rfl, rz⟩ i) q
  · exact False.elim t
theorem get_list : PGet X (rIxL X.K) := by
  intro pins s σ H x y v u Q I rx ry h
  obtain ⟨p, xs, i, z, rfl, rfl, hq, he, q⟩ := h
  cases rx
  obtain ⟨t, rfl⟩ := ry
  obtain ⟨its, r, pl, hz⟩ := I.list hq
  obtain ⟨j, h1, h2, h3, h4, h5⟩ := atI_get he
  obtain ⟨w, ew, rw'⟩ := r.get h2
  have hl := r.length
  have hn := line63
  have fin : EP X pins σ Q w s := ⟨z, H, I, rw', q⟩
  by_cases h0 : 0 ≤ i
  · have hj : i.toNat = j := by
      rw [seqIndex_of h0 h5] at h1
      exact Option.some.inj h1
    exact wpAny_getItem_list pl.isList h0 (by omega) (by rw [hj]; simpa using ew) fin
  · have hj : (i + (its.toArray.size : Int)).toNat = j := by
      rw [seqIndex_neg (by omega) h4] at h1
      rw [List.size_toArray, ← hl]
      exact Option.some.inj h1
    exact wpAny_getItem_list_neg pl.isList (by omega) (by rw [List.size_toArray] <;> omega) (by omega) (by rw [hj]; simpa using ew) fin
theorem ls_augS {st : Stmt} {ta tb te : LTE} (hp : PS X st (tAugS (liftE G ta) (liftE G tb) (liftE G te) (rIxL X.K) rAug rSetL)) :
    LS X G st (fun P ρ η => ta ρ η fun v η1 => tb ρ η1 fun i η2 => augGet v i η2 fun x =>
      te ρ η2 fun w η3 => w.fz.onD fun u => augD x u fun z => stoW v i (.dat z) η3 fun η4 => P.nx ρ η4) := by
  refine hp.weak ?_
  rintro D σ H ⟨ρ, L, Z, η, P, S, s, t, e⟩
  refine step' S s t fun xv v L1 Z1 η1 H1 S1 s1 E1 rv q => ?_
  refine step' S1 s1 q fun yv i L2 Z2 η2 H2 S2 s2 E2 ri q => ?_
  cases v with
  | ptr n =>
    unfold augGet at q
    dsimp only at q
    split at q
    · rename_i xs hn
      split at q
      · rename_i k
        obtain ⟨d, hd, q⟩ := q
        cases Rp.int_inv ri
        have rv2 := rv.ext (H' := H2) E2 (fun o e => nomatch e)
        obtain ⟨a, ys, rfl, h1, h2, h3⟩ := S2.list hn rv2
        obtain ⟨x, hx, rx⟩ := atI_rp h3 hd
        refine ⟨a, ys, k, x, rfl, rfl, .of h2, hx, ?_⟩
        refine step (P := fun w η3 => w.onD fun u => augD d u fun z => stoW (.ptr n) (.dat (.int k)) (.dat z) η3 fun η4 => P.nx ρ η4) S2 s2 q fun zv w L3 Z3 η3 H3 S3 s3 E3 rw' q => ?_
        obtain ⟨u, rfl, q⟩ := onD_some q
        refine aug_low (Rp.mono E3.1 _ _ rx) rw' q fun z f rz q => ?_
        unfold stoW at q
        dsimp only at q
        split at q
        · rename_i xs' hn'
          obtain ⟨j, hj, q⟩ := q
          exact sto_low S3 hn' (rv2.ext (H' := H3) E3 (fun o e => nomatch e)) rz hj fun L' H' S' E' => e.nx _ _ _ _ _ _ S' (s3.ext E') q
        · exact False.elim q
      · exact False.elim q
    · exact False.elim q
  | dat d => exact False.elim q
  | fr o => exact False.elim q
theorem ls_exp {st : Stmt} {te : LTE} (hp : PS X st (tDrop (liftE G te))) : LS X G st (fun P ρ η => te ρ η fun _ η1 => P.nx ρ η1) := by
  refine hp.weak ?_
  rintro D σ H ⟨ρ, L, Z, η, P, S, s, t, e⟩
  exact step' (P := fun _ η1 => P.nx ρ η1) S s t fun x v L1 Z1 η1 H1 S1 s1 E1 r q => e.nx _ _ _ _ _ _ S1 s1 q
theorem ls_ret {st : Stmt} {te : LTE} (hp : PS X st (tRet (liftE G te))) : LS X G st (fun P ρ η => te ρ η P.rt) := by
  refine hp.weak ?_
  rintro D σ H ⟨ρ, L, Z, η, P, S, s, t, e⟩
  exact step' S s t fun x v L1 Z1 η1 H1 S1 s1 E1 r q => e.rt _ _ _ _ _ _ S1 r q
theorem ls_retN : LS X G (.Return none pos) (fun P ρ η => P.rt (.dat .none) η) := by
  refine ps_retN.weak ?_
  rintro D σ H ⟨ρ, L, Z, η, P, S, s, t, e⟩
  exact e.rt _ _ _ _ _ _ S (show RepV G L Z H .non (.dat .none) from .non) t
theorem drop_fr {n : Nat} {o : Ob} {p : Addr × List Addr} (S : SI G L Z η H) (hn : η[n]? = some (some o)) (hl : L[n]? = some (some p)) (ha : G.A0 n = none) :
    SI G (L.set n none) Z (η.set n none) H ∧ RepO Z H p.1 p.2 o ∧ ∀ b ∈ p.1 :: p.2, Z b = none ∧ G.F0 b = none ∧ b ∉ Loc.all (L.set n none) := by
  obtain ⟨ow, o', h1, h2⟩ := S.ow n p hl
  rw [hn] at h1
  cases h1
  refine ⟨S.drop ha, h2, fun b hb => ⟨(ow b hb).1, (ow b hb).2, fun hm => ?_⟩⟩
  obtain ⟨m, q, h3, h4⟩ := mem_all.mp hm
  have hmn : n ≠ m := fun z => by
    subst z
    have : n < L.length := (List.getElem?_eq_some_iff.mp hl).1
    rw [List.getElem?_set_self this] at h3; cases h3
  rw [List.getElem?_set_ne hmn] at h3
  exact S.apart (fun z => hmn z.symm) h3 hl h4 hb
theorem ls_retP {st : Stmt} {i n : Nat} {Γ : Env} (hp : PS X st (tRet (liftE G (wE Γ (.var i))))) (ha : G.A0 n = none) :
    LS X G st (fun P ρ η => ρ[i]? = some (some (.ptr n)) ∧ match η[n]? with
      | some (some o) => P.rt (.fr o) (η.set n none)
      | _ => False) := by
  refine hp.weak ?_
  rintro D σ H ⟨ρ, L, Z, η, P, S, s, ⟨hi, t⟩, e⟩
  split at t
  · rename_i o hn
    refine ⟨ρ, L, Z, η, fun v η' => v = .ptr n ∧ η' = η, S, s, ?_, fun x v L' Z' η' H' S' E' rv q => ?_⟩
    · simp only [wE, hi]
      trivial
    · obtain ⟨rfl, rfl⟩ := q
      obtain ⟨a, ks, h1, rfl⟩ := rv
      obtain ⟨S2, ro, hf⟩ := drop_fr S' hn h1 ha
      exact e.rt (.ref a) (.fr o) _ _ _ _ S2 (show RepV _ _ _ _ _ (.fr o) from ⟨a, ks, rfl, ro, hf⟩) t
  · exact False.elim t
theorem frz_low {n : Nat} {a : Addr} {ks : List Addr} {ds : List D} {Z' : Hp} (hl : L[n]? = some (some (a, ks))) (sz : Sub Z Z') (r : Rp Z' (.ref a) (.list ds)) (s : SS L Z σ ρ) : SS (L.set n none) Z' σ (ρ.map (frz1 n (.list ds))) := by
  induction s with
  | nil => exact .nil
  | cons q t ih =>
    refine .cons ?_ ih
    rename_i x v _ _
    cases v with
    | none => trivial
    | some v =>
      cases v with
      | dat d =>
        obtain ⟨v, h1, h2⟩ := q
        exact ⟨v, h1, Rp.mono sz _ _ h2⟩
      | ptr m =>
        show RepS _ _ _ (if m = n then some (.dat (.list ds)) else some (.ptr m))
        obtain ⟨b, js, h1, h2⟩ := q
        by_cases h : m = n
        · rw [if_pos h]
          subst h
          rw [hl] at h1
          cases h1
          exact ⟨_, h2, r⟩
        · rw [if_neg h]
          exact ⟨b, js, by rw [List.getElem?_set_ne (fun z => h z.symm)]; exact h1, h2⟩
      | fr o => exact q
/-- a register's list is from now on data -/
theorem ls_frz {rest : List Stmt} {u : LTS} {i n : Nat} (h : LSs X G rest u) (ha : G.A0 n = none) :
    LSs X G rest (fun P ρ η => ρ[i]? = some (some (.ptr n)) ∧ match η[n]? with
      | some (some (.lst ds)) => u P (ρ.map (frz1 n (.list ds))) (η.set n none)
      | _ => False) := by
  refine h.weak ?_
  rintro D σ H ⟨ρ, L, Z, η, P, S, s, ⟨hi, t⟩, e⟩
  split at t
  · rename_i ds hn
    obtain ⟨p, hl⟩ := S.lv n _ hn
    obtain ⟨S2, ro, hf⟩ := drop_fr S hn hl ha
    obtain ⟨a, ks⟩ := p
    obtain ⟨rfl, xs, h1, h2⟩ := ro
    obtain ⟨z1, z2, z3⟩ := hf a List.mem_cons_self
    have sz : Sub Z (upd Z a (.lst xs)) := Sub.upd z1
    have S3 := S2.freeze z3 z1 z2 h1
    exact ⟨_, _, _, _, P, S3, frz_low hl sz (.lst (.inl upd_same) (RpAll.mono sz _ _ h2)) s, t, e⟩
  · exact False.elim t
theorem ls_if {c : Expr} {a b : List Stmt} {tc : LTE} {t u : LTS} (hc : LT X G c (asT tc)) (ha : LSs X G a t) (hb : LSs X G b u) :
    LS X G (.If c a b pos) (fun P ρ η => asT tc ρ η fun b η1 => if b = true then t P ρ η1 else u P ρ η1) := by
  refine (ps_if hc ha hb).weak ?_
  rintro D σ H ⟨ρ, L, Z, η, P, S, s, t', e⟩
  refine stepT (P := fun b η1 => if b = true then t P ρ η1 else u P ρ η1) S s t' fun d L1 Z1 η1 H1 S1 s1 E1 q => ?_
  cases d with
  | true => rw [if_pos rfl]; exact ⟨ρ, L1, Z1, η1, P, S1, s1, q, e⟩
  | false => exact ⟨ρ, L1, Z1, η1, P, S1, s1, q, e⟩
theorem ls_brk : LS X G (.Break pos) (fun P ρ η => P.bk ρ η) := by
  refine ps_break.weak ?_
  rintro D σ H ⟨ρ, L, Z, η, P, S, s, t, e⟩
  exact e.bk σ H ρ L Z η S s t
theorem ls_cnt : LS X G (.Continue pos) (fun P ρ η => P.ct ρ η) := by
  refine ps_continue.weak ?_
  rintro D σ H ⟨ρ, L, Z, η, P, S, s, t, e⟩
  exact e.ct σ H ρ L Z η S s t
theorem ls_pas {st : Stmt} (h : PS X st tNext) : LS X G st (fun P ρ η => P.nx ρ η) := by
  refine h.weak ?_
  rintro D σ H ⟨ρ, L, Z, η, P, S, s, t, e⟩
  exact e.nx σ H ρ L Z η S s t
theorem ls_while {c : Expr} {body : List Stmt} {tc : LTE} {tb : LTS} (hp : PassesOwn (model X.prog X.w) X.A X.env X.xe) (hc : LT X G c (asT tc)) (hb : LSs X G body tb) :
    LS X G (.While c body [] pos) (wWhile tc tb) := by
  refine (ps_while hp hc hb).weak ?_
  rintro D σ H ⟨ρ, L, Z, η, P, S, s, ⟨I, ⟨m0, i0⟩, turn⟩, e⟩
  refine ⟨fun m σ H => ∃ ρ L Z η, SI G L Z η H ∧ SS L Z σ ρ ∧ I m ρ η, ⟨m0, ρ, L, Z, η, S, s, i0⟩, ?_⟩
  rintro m σ H ⟨ρ, L, Z, η, S, s, im⟩
  refine stepT S s (turn m ρ η im) fun d L1 Z1 η1 H1 S1 s1 E1 q => ?_
  cases d with
  | true =>
    rw [if_pos rfl]
    rw [if_pos rfl] at q
    refine ⟨fun σ H => ∃ m', m' < m ∧ ∃ ρ L Z η, SI G L Z η H ∧ SS L Z σ ρ ∧ I m' ρ η, fun _ _ h => h, ρ, L1, Z1, η1, _, S1, s1, q, ?_, e.rt, e.nx, ?_⟩
    · rintro σ H ρ L Z η S s ⟨m', hm, q⟩
      exact ⟨m', hm, ρ, L, Z, η, S, s, q⟩
    · rintro σ H ρ L Z η S s ⟨m', hm, q⟩
      exact ⟨m', hm, ρ, L, Z, η, S, s, q⟩
  | false => exact e.nx _ _ _ _ _ _ S1 s1 q
/-- the ghost of a loop's body -/
def Gh.loop (G : Gh) (gs : List Nat) (L : Loc) (Z : Hp) : Gh where
  F0 := G.F0
  Z0 := Z
  A0 := fun n => if n ∈ gs then (match L[n]? with
    | some (some p) => some p.1
    | _ => none) else G.A0 n
theorem SI.loop {gs : List Nat} (S : SI G L Z η H) : SI (G.loop gs L Z) L Z η H := by
  refine ⟨fun n a e => ?_, Sub.refl _, S.zh, S.fh, S.zn, S.nd, S.ln, S.ow, S.lv⟩
  have e : (if n ∈ gs then (match L[n]? with
    | some (some p) => some p.1
    | _ => none) else G.A0 n) = some a := e
  by_cases h : n ∈ gs
  · rw [if_pos h] at e
    split at e
    · rename_i p hp
      cases e
      exact ⟨p.2, hp⟩
    · cases e
  · rw [if_neg h] at e
    exact S.a0 n a e
theorem SI.unloop {gs : List Nat} {L' : Loc} {Z' : Hp} {η' : Reg} {H' : Hp} (S : SI G L Z η H) (S' : SI (G.loop gs L Z) L' Z' η' H') : SI G L' Z' η' H' ∧ Keep gs L Z L' Z' := by
  have look : ∀ n, n ∈ gs → ∀ a ks, L[n]? = some (some (a, ks)) → (G.loop gs L Z).A0 n = some a := fun n h a ks e => by
    show (if n ∈ gs then (match L[n]? with
    | some (some p) => some p.1
    | _ => none) else G.A0 n) = some a
    rw [if_pos h, e]
  refine ⟨⟨fun n a e => ?_, S.z0.trans S'.z0, S'.zh, S'.fh, S'.zn, S'.nd, S'.ln, S'.ow, S'.lv⟩, S'.z0, fun n h a ks e => S'.a0 n a (look n h a ks e)⟩
  obtain ⟨ks, h1⟩ := S.a0 n a e
  by_cases h : n ∈ gs
  · exact S'.a0 n a (look n h a ks h1)
  · exact S'.a0 n a (by
      show (if n ∈ gs then _ else G.A0 n) = some a
      rw [if_neg h]; exact e)
theorem Keep.trans {gs : List Nat} {L1 L2 L3 : Loc} {Z1 Z2 Z3 : Hp} (a : Keep gs L1 Z1 L2 Z2) (b : Keep gs L2 Z2 L3 Z3) : Keep gs L1 Z1 L3 Z3 := ⟨a.1.trans b.1, fun n h c ks e => by
  obtain ⟨ks', e'⟩ := a.2 n h c ks e
  exact b.2 n h c ks' e'⟩
theorem Rp.loopV {gs : List Nat} {L1 L' : Loc} {Z1 Z' H' : Hp} {x : V} {v : Vl} (h : RepV (G.loop gs L1 Z1) L' Z' H' x v) : RepV G L' Z' H' x v := by
  cases v with
  | dat d => exact h
  | ptr n => exact h
  | fr o => exact h
theorem ls_for {iter tge : Expr} {body : List Stmt} {gs : List Nat} {src : LTI} {pl : Bool} {tg : Tg} {tb : LTS} (hp : PassesOwn (model X.prog X.w) X.A X.env X.xe) (hc : X.calm = true)
    (hi : PI X tge iter (liftI G pl src)) (hg : PG X tge (tgR X.K tg)) (hpl : pl = true ∨ tg.isMany = true) (hb : ∀ L Z, LSs X (G.loop gs L Z) body tb) (hs : ∀ x, foldedSetIterable iter X.env x = pure x) :
    LS X G (.For tge iter body [] pos) (fun P ρ η => src ρ η fun ds ok rs η1 => (∀ r ∈ rs, r ∈ gs) ∧ wFor tg tb ok ds P ρ η1) := by
  have hb' : PSs X body (fun D σ H => ∃ L Z, liftS (G.loop gs L Z) tb D σ H) := ⟨fun pins s σ H D I ⟨L, Z, q⟩ => (hb L Z).run pins s σ H D I q⟩
  refine (ps_for hp hc hi hg hb' hs).weak ?_
  rintro D σ H ⟨ρ, L, Z, η, P, S, s, t, e⟩
  refine ⟨ρ, L, Z, η, _, S, s, t, ?_⟩
  intro J ds ok rs L1 Z1 η1 H1 S1 E1 it ok1 q
  obtain ⟨hrs, q⟩ := q
  refine ⟨fun i m σ H => ∃ ρ2 η2 L2 Z2 rest, m = rest.length ∧ (ds.drop i = rest ∧ i ≤ ds.length) ∧ SI G L2 Z2 η2 H ∧ Keep gs L1 Z1 L2 Z2 ∧ SS L2 Z2 σ ρ2 ∧ ok η2 ∧ wFor tg tb ok rest P ρ2 η2,
    ⟨ds.length, ρ, η1, L1, Z1, ds, rfl, ⟨rfl, Nat.zero_le _⟩, S1, Ext.refl.keep gs, s.ext E1, ok1, q⟩, ?_⟩
  rintro i m σ H ⟨ρ2, η2, L2, Z2, rest, rfl, ⟨hr, lb⟩, S2, E2, s2, ok2, w⟩
  cases rest with
  | nil =>
    have hlen : ds.length ≤ i := List.drop_eq_nil_iff.mp hr
    exact .inl ⟨it.stop G L2 Z2 η2 H S2 (E2.sub hrs) ok2 i (by omega), e.nx _ _ _ _ _ _ S2 s2 w⟩
  | cons d r =>
    have hlt : i < ds.length := by
      by_cases h : i < ds.length
      · exact h
      · rw [List.drop_eq_nil_of_le (by omega)] at hr; cases hr
    have hd : ds[i]? = some d := by
      rw [List.drop_eq_getElem_cons hlt] at hr
      injection hr with h1 h2
      rw [List.getElem?_eq_getElem hlt, h1]
    have hr' : ds.drop (i + 1) = r := by
      rw [List.drop_eq_getElem_cons hlt] at hr
      injection hr
    obtain ⟨hgo, hy⟩ := it.go G L2 Z2 η2 H S2 (E2.sub hrs) ok2 i d hd
    refine .inr ⟨hgo, fun σ' H' => ∃ ρ3 η3 L3 Z3, SI G L3 Z3 η3 H' ∧ Keep gs L1 Z1 L3 Z3 ∧ SS L3 Z3 σ' ρ3 ∧ ok η3 ∧ wFor tg tb ok r P ρ3 η3, ?_, ?_⟩
    · rintro σ' H' ⟨ρ3, η3, L3, Z3, h1, h2, h3, h4, h5⟩
      exact ⟨r.length, by rw [List.length_cons]; omega, ρ3, η3, L3, Z3, r, rfl, ⟨hr', by omega⟩, h1, h2, h3, h4, h5⟩
    · intro x H3 yl
      obtain ⟨S3, sub, iv, hx⟩ := hy x H3 yl
      refine tg_low (vs := []) tg S3 s2 iv (fun z => hx ?_) w fun σ' ρ' s' _ w => ?_
      · rcases hpl with e | e
        · exact e
        · rw [z] at e; cases e
      have nxt : ∀ (σ : SV) (H : Hp) (ρ : Sl) (L : Loc) (Z : Hp) (η : Reg), SI (G.loop gs L2 Z2) L Z η H → SS L Z σ ρ → (ok η ∧ wFor tg tb ok r P ρ η) → ∃ ρ3 η3 L3 Z3, SI G L3 Z3 η3 H ∧ Keep gs L1 Z1 L3 Z3 ∧ SS L3 Z3 σ ρ3 ∧ ok η3 ∧ wFor tg tb ok r P ρ3 η3 := by
        rintro σ H ρ L Z η S s ⟨o, q⟩
        obtain ⟨S', K'⟩ := S3.unloop S
        exact ⟨ρ, η, L, Z, S', E2.trans K', s, o, q⟩
      refine ⟨L2, Z2, ρ', L2, Z2, η2, _, S3.loop, s', w, nxt, fun x v L Z η H S r q => ?_, fun σ H ρ L Z η S s q => ?_, nxt⟩
      · exact e.rt x v L Z η H (S3.unloop S).1 (Rp.loopV r) q
      · exact e.nx σ H ρ L Z η (S3.unloop S).1 s q
end
end Pl

namespace Pl
open PySem PySem.Spec PyProof.Rows L2

/-! ## the looks -/
def glb (sc : Scope) (x : Str) : Bool := decide (sc.names.lookup x = some .globalImplicit) && !(x == ("__debug__" : Str)) && !decide (x = "__name__")
def visC (sc : Scope) (x : Str) : Bool := match sc.names.lookup x with
  | some .local => true
  | some .cell => true
  | some .free => true
  | _ => false
def locC (sc : Scope) (x : Str) : Bool := decide (sc.names.lookup x = some .local)
/-- a name that a def's own text may set -/
def setC (sc : Scope) (x : Str) : Bool := decide (sc.names.lookup x = some .local) || decide (sc.names.lookup x = some .cell)
/-- .. that a comprehension may -/
def setL (scope sc : Scope) (x : Str) : Bool := decide ((relS scope sc).names.lookup x = some .local) || (decide ((relS scope sc).names.lookup x = some .cell) && decide (scope.names.lookup x = some .cell))
def nSt : Expr → Bool
  | .Starred .. => false
  | _ => true
def nSl : Expr → Bool
  | .Slice .. => false
  | _ => true
def nIte : Expr → Bool
  | .IfExp .. => false
  | _ => true
def nSet : Expr → Bool
  | .Set .. => false
  | _ => true
def nCall0 : Expr → Bool
  | .Call (.Name _ _) [] [] _ => false
  | _ => true
def nComp : Expr → Bool
  | .ListComp .. => false
  | .SetComp .. => false
  | .DictComp .. => false
  | _ => true
def isTup : Expr → Bool
  | .Tuple .. => true
  | _ => false
def litOk : Const → D → Bool
  | .none, .none => true
  | .bool b, .bool c => b == c
  | .int i, .int j => decide (i = j)
  | .str x, .str y => decide (x = y)
  | _, _ => false
def flatEq : D → D → Bool
  | .none, .none => true
  | .bool b, .bool c => b == c
  | .int i, .int j => decide (i = j)
  | .str x, .str y => decide (x = y)
  | _, _ => false
/-- what a def's text may name: its slots, the defs, the module's constants -/
structure Cfg where
  N : List Str
  fn : List Str
  cs : List (Str × D)
def ownP (N : List Str) (own : List Nat) : List (Str × Nat) := own.filterMap fun i => N[i]?.map fun x => (x, i)
def Cfg.at (c : Cfg) (i : Nat) (x : Str) : Bool := decide (c.N[i]? = some x)
def kNames (c : Cfg) (ok : Str → Bool) : List Nat → List Expr → Bool
  | [], [] => true
  | i :: is, .Name x _ :: r => c.at i x && ok x && kNames c ok is r
  | _, _ => false
def kTg (c : Cfg) (ok : Str → Bool) : Tg → Expr → Bool
  | .one i, .Name x _ => c.at i x && ok x
  | .many is, .Tuple xs _ _ => kNames c ok is xs
  | _, _ => false
def Src.pl : Src → Bool
  | .seq _ => true
  | .rng1 _ => true
  | .rng2 _ _ => true
  | .zip _ _ => false
  | .enum _ => false
def bltNames : List Str := ["len", "int", "abs", "sum", "min", "max", "all", "any", "list", "tuple", "sorted", "range", "isinstance", "zip", "enumerate", "str", "bool", "dict", "set"]
def isiOk : String → Str → Bool
  | "int", x => decide (x = "int")
  | "str", x => decide (x = "str")
  | "bool", x => decide (x = "bool")
  | "list", x => decide (x = "list")
  | "tuple", x => decide (x = "tuple")
  | "dict", x => decide (x = "dict")
  | _, _ => false
def plainBi : Bi → Bool
  | .sorted => false | .rlist1 => false | .rlist2 => false | .rtup1 => false | .rtup2 => false | .isi _ => false
  | _ => true
mutual
def kE (c : Cfg) : Scope → E → Expr → Bool
  | sc, .var i, x => match x with
    | .Name n _ => c.at i n && visC sc n && !(n == ("__debug__" : Str)) && !(n == ("__classdict__" : Str))
    | _ => false
  | sc, .lit d, x => match x with
    | .Constant k _ _ => litOk k d
    | _ => false
  | sc, .con y d, x => match x with
    | .Name n _ => decide (n = y) && glb sc n && c.cs.any fun p => decide (p.1 = n) && flatEq p.2 d
    | _ => false
  | sc, .bop o a b, x => match x with
    | .BinOp x op y _ => decide (op = opOf o) && kE c sc a x && kE c sc b y
    | _ => false
  | sc, .neg a, x => match x with
    | .UnaryOp .USub x _ => kE c sc a x
    | _ => false
  | sc, .cmp o a b, x => match x with
    | .Compare x [op] [y] _ => decide (op = copOf o) && !behindInMarks (copOf o) y && kE c sc a x && kE c sc b y
    | _ => false
  | sc, .chn o p a b d, x => match x with
    | .Compare x [op, oq] [y, z] _ => decide (op = copOf o) && decide (oq = copOf p) && !lastMarks [copOf o, copOf p] [y, z] && kE c sc a x && kE c sc b y && kE c sc d z
    | _ => false
  | sc, .chn3 o p q a b d e, x => match x with
    | .Compare x [op, oq, or] [y, z, u] _ => decide (op = copOf o) && decide (oq = copOf p) && decide (or = copOf q) && !lastMarks [copOf o, copOf p, copOf q] [y, z, u] && kE c sc a x && kE c sc b y && kE c sc d z && kE c sc e u
    | _ => false
  | sc, .rev a, x => match x with
    | .Subscript x (.Slice none none (some (.UnaryOp .USub (.Constant (.int 1) _ _) _)) _) _ => kE c sc a x
    | _ => false
  | sc, .own _ a, x => match x with
    | .List xs p => kE c sc a (.List xs p)
    | _ => false
  | sc, .sset a, x => match x with
    | .Call (.Name n _) [.Call (.Name m _) [y] [] _] [] _ => decide (n = "sorted") && decide (m = "set") && glb sc n && glb sc m && nSt y && kE c sc a y
    | _ => false
  | sc, .nset a, x => match x with
    | .Call (.Name n _) [.Call (.Name m _) [y] [] _] [] _ => decide (n = "len") && decide (m = "set") && glb sc n && glb sc m && nSt y && kE c sc a y
    | _ => false
  | sc, .and a es, x => match x with
    | .BoolOp .And (x :: y :: xs) _ => (x :: y :: xs).all nIte && kE c sc a x && kEs c sc es (y :: xs)
    | _ => false
  | sc, .or a es, x => match x with
    | .BoolOp .Or (x :: y :: xs) _ => (x :: y :: xs).all nIte && kE c sc a x && kEs c sc es (y :: xs)
    | _ => false
  | sc, .not a, x => match x with
    | .UnaryOp .Not x _ => nIte x && kE c sc a x
    | _ => false
  | sc, .ite t a b, x => match x with
    | .IfExp z x y _ => nIte z && kE c sc t z && kE c sc a x && kE c sc b y
    | _ => false
  | sc, .tup es, x => match x with
    | .Tuple xs _ _ => kEs c sc es xs
    | _ => false
  | sc, .lst es, x => match x with
    | .List xs _ => kEs c sc es xs
    | _ => false
  | sc, .idx a b, x => match x with
    | .Subscript x y _ => nSl y && kE c sc a x && kE c sc b y
    | _ => false
  | sc, .sli a lo hi, x => match x with
    | .Subscript x (.Slice l h none _) _ => kE c sc a x && kEo c sc lo l && kEo c sc hi h
    | _ => false
  | sc, .call f es, x => match x with
    | .Call (.Name n _) xs [] _ => decide (c.fn[f]? = some n) && glb sc n && kEs c sc es xs
    | _ => false
  | sc, .bi b es, x => match x with
    | .Call (.Name n _) xs [] _ => match b with
      | .isi T => match xs with
        | [y, .Name m _] => decide (n = "isinstance") && glb sc n && glb sc m && isiOk T m && kEs c sc es [y]
        | _ => false
      | .rlist1 => match xs with
        | [.Call (.Name m _) [y] [] _] => decide (n = "list") && decide (m = "range") && glb sc n && glb sc m && kEs c sc es [y]
        | _ => false
      | .rlist2 => match xs with
        | [.Call (.Name m _) [y, z] [] _] => decide (n = "list") && decide (m = "range") && glb sc n && glb sc m && kEs c sc es [y, z]
        | _ => false
      | .rtup1 => match xs with
        | [.Call (.Name m _) [y] [] _] => decide (n = "tuple") && decide (m = "range") && glb sc n && glb sc m && kEs c sc es [y]
        | _ => false
      | .rtup2 => match xs with
        | [.Call (.Name m _) [y, z] [] _] => decide (n = "tuple") && decide (m = "range") && glb sc n && glb sc m && kEs c sc es [y, z]
        | _ => false
      | .sorted => match xs with
        | [y] => decide (n = "sorted") && glb sc n && kEs c sc es [y]
        | _ => false
      | b => decide (n = biName b) && glb sc n && !xs.isEmpty && kEs c sc es xs
    | _ => false
  | sc, .met m a es, x => match x with
    | .Call (.Attribute o name apos) xs [] cpos => decide (mtName m = name) && nCall0 o && (apos.endLine == cpos.line) && decide (xs.length ≤ 1) && kE c sc a o && kEs c sc es xs
    | _ => false
  | sc, .lc tg own s cd e, x => match x with
    | .ListComp elt [⟨tge, iter, ifs, 0⟩] scope _ => blkC c.N sc scope (ownP c.N own) && decide ((ownP c.N own).map (·.2) = own) && kTg c (setL scope sc) tg tge && tg.ixs.all (fun i => decide (i ∈ own)) &&
      nSet iter && (s.pl || (tg.isMany && isTup tge)) && kSrc c sc s iter && kIfs c (relS scope sc) cd ifs && kE c (relS scope sc) e elt
    | _ => false
def kEs (c : Cfg) : Scope → Es → List Expr → Bool
  | sc, .nil, xs => match xs with
    | [] => true
    | _ => false
  | sc, .cons e es, xs => match xs with
    | x :: xs => nSt x && kE c sc e x && kEs c sc es xs
    | _ => false
def kEo (c : Cfg) : Scope → Eo → Option Expr → Bool
  | sc, .no, x => match x with
    | none => true
    | _ => false
  | sc, .so e, x => match x with
    | some x => kE c sc e x
    | _ => false
def kIfs (c : Cfg) : Scope → Eo → List Expr → Bool
  | sc, .no, x => match x with
    | [] => true
    | _ => false
  | sc, .so e, x => match x with
    | [x] => nIte x && kE c sc e x
    | _ => false
def kSrc (c : Cfg) : Scope → Src → Expr → Bool
  | sc, .seq a, x => kE c sc a x
  | sc, .rng1 a, x => match x with
    | .Call (.Name n _) [y] [] _ => decide (n = "range") && glb sc n && nSt y && kE c sc a y
    | _ => false
  | sc, .rng2 a b, x => match x with
    | .Call (.Name n _) [y, z] [] _ => decide (n = "range") && glb sc n && nSt y && nSt z && kE c sc a y && kE c sc b z
    | _ => false
  | sc, .zip a b, x => match x with
    | .Call (.Name n _) [y, z] [] _ => decide (n = "zip") && glb sc n && nSt y && nSt z && kE c sc a y && kE c sc b z
    | _ => false
  | sc, .enum a, x => match x with
    | .Call (.Name n _) [y] [] _ => decide (n = "enumerate") && glb sc n && nSt y && kE c sc a y
    | _ => false
end
/-- a list comprehension that is stored as it is made -/
def swC (sc : Scope) (t : Str) (tpos : Pos) : Expr → Bool
  | .ListComp _ _ scope p => decide (sc.kind = .function) && locC sc t && (tpos.line == p.line) && !(scope.names.any fun (n, k) => n == t && (k == .local || k == .cell))
  | _ => false
def kS0 (x : Expr) : Bool := match x with
  | .Tuple .. => true
  | _ => false
mutual
def kS (c : Cfg) (sc : Scope) : List Nat → S → Stmt → Bool
  | gd, .asg i r e, st => match st with
    | .Assign [.Name n tp] v _ => c.at i n && setC sc n && (match r with
      | some k => decide (k ∉ gd)
      | none => true) && (match v with
      | .ListComp .. => true
      | .SetComp .. => false
      | .DictComp .. => false
      | _ => true) && kE c sc e v
    | _ => false
  | gd, .asgT is e, st => match st with
    | .Assign [.Tuple ts _ _] v _ => kNames c (setC sc) is ts && (match v with
      | .Tuple vs _ _ => match is, ts, vs with
        | [i, j], [.Name x px, .Name y py], [a, b] => decide (i ≠ j) && decide (x ≠ y) && locC sc x && locC sc y && (px.line == py.line) && decide (sc.kind = .function) && nSt a && nSt b && !([a, b].all (foldedForSure 8)) && !([a, b].all (constantsAlone 8))
        | _, _, _ => false
      | _ => true) && kE c sc e v
    | _ => false
  | gd, .sto a b e, st => match st with
    | .Assign [.Subscript x y _] v _ => nSl y && kE c sc a x && kE c sc b y && kE c sc e v
    | _ => false
  | gd, .augN i e, st => match st with
    | .AugAssign (.Name n _) .Add v _ => c.at i n && setC sc n && kE c sc e v
    | _ => false
  | gd, .augS a b e, st => match st with
    | .AugAssign (.Subscript x y _) .Add v _ => nSl y && kE c sc a x && kE c sc b y && kE c sc e v
    | _ => false
  | gd, .exp e, st => match st with
    | .Expr v _ => nComp v && kE c sc e v
    | _ => false
  | gd, .ret e, st => match st with
    | .Return (some v) _ => kE c sc e v
    | .Return none _ => match e with
      | .lit .none => true
      | _ => false
    | _ => false
  | gd, .retP i n, st => match st with
    | .Return (some v) _ => kE c sc (.var i) v && decide (n ∉ gd)
    | _ => false
  | gd, .iff t a b, st => match st with
    | .If x p q _ => nIte x && kE c sc t x && kSs c sc gd a p && kSs c sc gd b q
    | _ => false
  | gd, .for gs tg s b, st => match st with
    | .For tge iter body [] _ => kTg c (setC sc) tg tge && nSet iter && (s.pl || (tg.isMany && isTup tge)) && kSrc c sc s iter && kSs c sc (gs ++ gd) b body
    | _ => false
  | gd, .whl t b, st => match st with
    | .While x body [] _ => nIte x && kE c sc t x && kSs c sc gd b body
    | _ => false
  | gd, .brk, st => match st with
    | .Break _ => true
    | _ => false
  | gd, .cnt, st => match st with
    | .Continue _ => true
    | _ => false
  | gd, .pas, st => match st with
    | .Pass _ => true
    | _ => false
  | gd, .frz i n, st => false
def kSs (c : Cfg) (sc : Scope) : List Nat → Ss → List Stmt → Bool
  | gd, .nil, sts => match sts with
    | [] => true
    | _ => false
  | gd, .cons s ss, sts => (match s with
    | .frz i n => decide (n ∉ gd) && kSs c sc gd ss sts
    | _ => false) || (match sts with
    | st :: rest => kS c sc gd s st && kSs c sc gd ss rest
    | [] => false)
end

/-! ## what a context must offer -/
structure XC (X : Cx) (c : Cfg) (Γ : Env) : Prop where
  hN : X.N = c.N
  nd : X.N.Nodup
  calm : X.calm = true
  un : X.A.units + 64 < cLine
  kind : X.env.scope.kind = .function
  fn : Γ.map (·.1) = c.fn
  ok : ∀ (i : Nat) (p : Str × PSpec), Γ[i]? = some p → FnIn X p.1 p.2
  mg : ∀ x ∈ bltNames, X.mg x = none
  cs : ∀ (x : Str) (d : D), (x, d) ∈ c.cs → ∃ u v, X.mg x = some u ∧ RelV v u ∧ ∀ H : Hp, Rp H v d
section
variable {X : Cx} {c : Cfg} {Γ : Env} {G : Gh}
theorem glb_by {sc : Scope} {x : Str} (h : glb sc x = true) (hs : X.env.scope = sc) : Gl X x ∧ (x == ("__debug__" : Str)) = false ∧ x ≠ "__name__" := by
  unfold glb at h
  simp only [Bool.and_eq_true, decide_eq_true_eq, Bool.not_eq_true', decide_eq_false_iff_not] at h
  exact ⟨by show X.env.scope.names.lookup x = _; rw [hs]; exact h.1.1, h.1.2, h.2⟩
theorem vis_by {sc : Scope} {x : Str} (h : visC sc x = true) (hs : X.env.scope = sc) : Vis X.env.scope x := by
  rw [hs]
  unfold visC at h
  split at h <;> first | exact .inl (by assumption) | exact .inr (.inl (by assumption)) | exact .inr (.inr (by assumption)) | cases h
theorem loc_by {sc : Scope} {x : Str} (h : locC sc x = true) (hs : X.env.scope = sc) : X.env.scope.names.lookup x = some .local := by
  rw [hs]; exact of_decide_eq_true h
theorem at_by (C : XC X c Γ) {i : Nat} {x : Str} (h : c.at i x = true) : X.N[i]? = some x := by
  rw [C.hN]; exact of_decide_eq_true h
theorem star_by {e : Expr} {es : List Expr} {env : PySem.Env} (h : nSt e = true) : starEach (e :: es) env = (false, eval e env) :: starEach es env := by
  cases e <;> first | rfl | cases h
theorem ix_by {b : Expr} (h : nSl b = true) : PlainIx b := by
  intro o i
  cases b <;> first | rfl | cases h
theorem base_by {o : Expr} {a : Str} {env : PySem.Env} (h : nCall0 o = true) : attributeBase o a env (eval o env) = eval o env := by
  unfold attributeBase
  split
  · cases h
  · rfl
theorem set_by {e : Expr} {env : PySem.Env} {x : Value} (h : nSet e = true) : foldedSetIterable e env x = pure x := by
  cases e <;> first | rfl | cases h
theorem comp_by {e : Expr} {l : Nat} {env : PySem.Env} (t : Option Expr) (h : nComp e = true) : swapsWith e t l env = pure false := by
  cases e <;> first | rfl | cases h
theorem comp_tg {e : Expr} {l : Nat} {env : PySem.Env} {t : Expr} (h : match t with
    | .Name _ _ => False
    | _ => True) : swapsWithSole [t] e l env = pure false := by
  cases e <;> first | rfl | (cases t <;> first | rfl | exact False.elim h)
theorem lit_by {k : Const} {d : D} {j : Nat} {pos : Pos} (h : litOk k d = true) : ∃ v, PE X (.Constant k j pos) (tC v) ∧ ∀ H : Hp, Rp H v d := by
  cases k <;> cases d <;> first | (cases h; done) | skip
  · exact ⟨_, pe_non, fun _ => .non⟩
  · have e := eq_of_beq (show (_ == _) = true from h)
    subst e
    exact ⟨_, pe_bl, fun _ => .bl _⟩
  · have e := of_decide_eq_true (show decide (_ = _) = true from h)
    subst e
    exact ⟨_, pe_int, fun _ => .int _⟩
  · have e := of_decide_eq_true (show decide (_ = _) = true from h)
    subst e
    exact ⟨_, pe_str, fun _ => .str _⟩
theorem flat_by {d e : D} (h : flatEq d e = true) : d = e := by
  cases d <;> cases e <;> first | (cases h; done) | skip
  · rfl
  · rw [eq_of_beq (show (_ == _) = true from h)]
  · rw [of_decide_eq_true (show decide (_ = _) = true from h)]
  · rw [of_decide_eq_true (show decide (_ = _) = true from h)]
def OkSet (X : Cx) (ok : Str → Bool) : Prop := ∀ x, ok x = true → L2.Loc X.env.scope x ∧ (X.fn x = true ∨ X.env.scope.names.lookup x = some .local)
theorem okset_def {sc : Scope} (hs : X.env.scope = sc) (hf : ∀ x, X.fn x = true) : OkSet X (setC sc) := fun x h => by
  unfold setC at h
  rw [Bool.or_eq_true, decide_eq_true_eq, decide_eq_true_eq] at h
  unfold L2.Loc
  rw [hs]
  exact ⟨h, .inl (hf x)⟩
theorem names_by (C : XC X c Γ) {ok : Str → Bool} (hs : OkSet X ok) : ∀ (is : List Nat) (xs : List Expr), kNames c ok is xs = true → PGs X xs (gMany is) ∧ (assignEach xs X.env).length = is.length ∧ (assignEach xs X.env).findIdx? (·.1) = none
  | [], [], _ => ⟨pgs_nil, rfl, rfl⟩
  | [], _ :: _, h => by cases h
  | _ :: _, [], h => by cases h
  | i :: is, x :: xs, h => by
    cases x <;> first | (cases h; done) | skip
    rename_i n p
    unfold kNames at h
    simp only [Bool.and_eq_true] at h
    obtain ⟨⟨h1, h2⟩, h3⟩ := h
    obtain ⟨g, l, f⟩ := names_by C hs is xs h3
    refine ⟨pgs_cons (pg_name C.nd (at_by C h1) (hs _ h2).1 (hs _ h2).2) g rfl, by show (assignEach xs X.env).length + 1 = is.length + 1; rw [l], ?_⟩
    show (List.findIdx? _ ((false, _) :: assignEach xs X.env)) = none
    rw [List.findIdx?_cons]
    simp only [Bool.false_eq_true, if_false]
    rw [f]; rfl
theorem tg_by (C : XC X c Γ) {ok : Str → Bool} (hs : OkSet X ok) {tg : Tg} {x : Expr} (h : kTg c ok tg x = true) : PG X x (tgR X.K tg) := by
  cases tg with
  | one i =>
    cases x <;> first | (cases h; done) | skip
    unfold kTg at h
    simp only [Bool.and_eq_true] at h
    exact pg_name C.nd (at_by C h.1) (hs _ h.2).1 (hs _ h.2).2
  | many is =>
    cases x <;> first | (cases h; done) | skip
    obtain ⟨g, l, f⟩ := names_by C hs is _ h
    exact pg_tup C.calm g l f
theorem XC.blk (C : XC X c Γ) {scope : Scope} (hk : scope.kind = .function) (s : Shared) (H : Hp) (Cc : Addr) (cl : List (Str × Addr)) (fp : List Addr) : XC (X.blk s H scope (compEnvC scope cl Cc X.env) fp) c Γ :=
  ⟨C.hN, C.nd, C.calm, C.un, hk, C.fn, fun i p e => (C.ok i p e).ex |> fun h => ⟨h⟩, C.mg, C.cs⟩
theorem blk_scope {scope : Scope} {cl : List (Str × Addr)} {Cc : Addr} {env : PySem.Env} {sc : Scope} (hs : env.scope = sc) : (compEnvC scope cl Cc env).scope = relS scope sc := by
  subst hs; rfl
theorem okset_blk {scope sc : Scope} (hs : X.env.scope = sc) (s : Shared) (H : Hp) (Cc : Addr) (cl : List (Str × Addr)) (fp : List Addr) : OkSet (X.blk s H scope (compEnvC scope cl Cc X.env) fp) (setL scope sc) := fun x h => by
  unfold setL at h
  rw [Bool.or_eq_true, Bool.and_eq_true, decide_eq_true_eq, decide_eq_true_eq, decide_eq_true_eq] at h
  unfold L2.Loc
  show ((compEnvC scope cl Cc X.env).scope.names.lookup x = _ ∨ (compEnvC scope cl Cc X.env).scope.names.lookup x = _) ∧ ((scope.names.lookup x == some .cell) = true ∨ (compEnvC scope cl Cc X.env).scope.names.lookup x = _)
  rw [blk_scope hs]
  rcases h with h | ⟨h1, h2⟩
  · exact ⟨.inl h, .inr h⟩
  · exact ⟨.inr h1, .inl (by rw [h2]; rfl)⟩
theorem pl_by {X : Cx} {s : Src} {tg : Tg} {x : Expr} (h : (s.pl || (tg.isMany && isTup x)) = true) : (s.pl = true ∨ tg.isMany = true) ∧ (s.pl = true ∨ ∃ es k p, x = .Tuple es k p) := by
  simp only [Bool.or_eq_true, Bool.and_eq_true] at h
  rcases h with h | ⟨h1, h2⟩
  · exact ⟨.inl h, .inl h⟩
  · refine ⟨.inr h1, .inr ?_⟩
    cases x <;> first | (cases h2; done) | skip
    exact ⟨_, _, _, rfl⟩
theorem blt_mg (C : XC X c Γ) {x : Str} (h : x ∈ bltNames) : X.mg x = none := C.mg x h
theorem isi_by {T : String} {x : Str} (h : isiOk T x = true) : bootBuiltins x = some (.type T) ∧ x ∈ bltNames := by
  unfold isiOk at h
  split at h <;> first | (cases h; done) | skip
  all_goals
    have e := of_decide_eq_true h
    subst e
    refine ⟨?_, by decide +kernel⟩
  · exact boot_int
  · exact boot_str
  · exact boot_bool
  · exact boot_list
  · exact boot_tuple
  · exact boot_dict
theorem bi_by {b : Bi} (h : plainBi b = true) : bootBuiltins (biName b) = some (biFn b) ∧ biName b ∈ bltNames := by
  cases b <;> first | (cases h; done) | exact ⟨by decide +kernel, by decide +kernel⟩
end
end Pl

namespace Pl
open PySem PySem.Spec PyProof.Rows L2

def SE (Γ : Env) (c : Cfg) (e : E) : Prop := ∀ (X : Cx) (sc : Scope) (x : Expr), XC X c Γ → X.env.scope = sc → kE c sc e x = true → ∀ G : Gh, LE X G x (wE Γ e) ∧ (nIte x = true → LT X G x (asT (wE Γ e)))
def SEs (Γ : Env) (c : Cfg) (es : Es) : Prop := ∀ (X : Cx) (sc : Scope) (xs : List Expr), XC X c Γ → X.env.scope = sc → kEs c sc es xs = true → ∀ G : Gh, LA X G xs (wEs Γ es) ∧ xs.all nSt = true ∧
  (xs.isEmpty = false → xs.all nIte = true → ∀ pos, (LE X G (.BoolOp .And xs pos) (wAnd Γ es) ∧ PW X (.BoolOp .And xs pos) (liftT G (asT (wAnd Γ es)))) ∧ LE X G (.BoolOp .Or xs pos) (wOr Γ es) ∧ PW X (.BoolOp .Or xs pos) (liftT G (asT (wOr Γ es))))
def SEo (Γ : Env) (c : Cfg) (o : Eo) : Prop := ∀ (X : Cx) (sc : Scope), XC X c Γ → X.env.scope = sc → (∀ x, kEo c sc o x = true → ∀ G : Gh, PO X x (liftO G (wEo Γ o))) ∧ ∀ xs, kIfs c sc o xs = true → PTs X xs (anyT (wCond Γ o))
def SSr (Γ : Env) (c : Cfg) (s : Src) : Prop := ∀ (X : Cx) (sc : Scope) (tg x : Expr), XC X c Γ → X.env.scope = sc → kSrc c sc s x = true → (s.pl = true ∨ ∃ es k p, tg = .Tuple es k p) → ∀ G : Gh, PI X tg x (liftI G s.pl (wSrc Γ s))

theorem stars_by {env : PySem.Env} : ∀ {xs : List Expr}, xs.all nSt = true → ∀ pos : Pos, (backTo pos (starEach xs env)).any (·.1) = false
  | [], _, _ => rfl
  | x :: xs, h, pos => by
    simp only [List.all_cons, Bool.and_eq_true] at h
    rw [star_by h.1]
    show (false || (backTo pos (starEach xs env)).any (·.1)) = false
    rw [stars_by h.2 pos]; rfl
section
variable {X : Cx} {c : Cfg} {Γ : Env} {G : Gh}
theorem lt_plain {x : Expr} {w : LTE} (h : LE X G x w) (hx : match x with
    | .UnaryOp .Not _ _ => False
    | .BoolOp .. => False
    | .IfExp .. => False
    | .Compare .. => False
    | _ => True) : LT X G x (asT w) := by
  refine lt_val h fun whole => ?_
  cases x <;> first | rfl | exact False.elim hx | skip
  rename_i op a p
  cases op <;> first | rfl | exact False.elim hx
theorem pts_any1 {x : Expr} {t : LTT} (h : ∀ G : Gh, LT X G x t) : PTs X [x] (anyT t) := pts_one (pt_any h)
theorem and_last {x : Expr} {w : LTE} (h : LE X G x w) (ht : LT X G x (asT w)) (pos : Pos) (op : BoolOp) {v : LTE}
    (hv : ∀ ρ η Q, v ρ η Q → w ρ η fun u η1 => match u with
      | .dat (.bool b) => Q (.dat (.bool b)) η1
      | _ => False) : LE X G (.BoolOp op [x] pos) v ∧ PW X (.BoolOp op [x] pos) (liftT G (asT v)) := by
  have low : ∀ ρ η Q, asT v ρ η Q → asT w ρ η Q := by
    intro ρ η Q q
    have h1 := hv ρ η _ q
    refine Eq.mp (congrArg (w ρ η) ?_) h1
    funext u η1
    rcases u with d | n | o
    · cases d <;> rfl
    · rfl
    · rfl
  refine ⟨boolOnly (le_one h) hv, ?_⟩
  cases op with
  | And => exact (pw_and1 ht).weak (by
      rintro σ H Q ⟨ρ, L, Z, η, Qp, S, s, t, k⟩
      exact ⟨ρ, L, Z, η, Qp, S, s, low _ _ _ t, k⟩)
  | Or => exact (pw_or1 ht).weak (by
      rintro σ H Q ⟨ρ, L, Z, η, Qp, S, s, t, k⟩
      exact ⟨ρ, L, Z, η, Qp, S, s, low _ _ _ t, k⟩)
end
theorem and_nil {w : LTE} : ∀ (ρ : Sl) (η : Reg) (Q : Vl → Reg → Prop), (w ρ η fun v η1 => match v with
    | .dat (.bool b) => if b = true then Q (.dat (.bool true)) η1 else Q (.dat (.bool false)) η1
    | _ => False) → w ρ η fun u η1 => match u with
      | .dat (.bool b) => Q (.dat (.bool b)) η1
      | _ => False := by
  intro ρ η Q h
  refine Eq.mp (congrArg (w ρ η) ?_) h
  funext u η1
  rcases u with d | n | o
  · cases d with
    | bool b => cases b <;> rfl
    | _ => rfl
  · rfl
  · rfl

mutual
theorem sE (Γ : Env) (c : Cfg) : ∀ e : E, SE Γ c e
  | .var i => by
    intro X sc x C hs h G
    unfold kE at h
    split at h <;> first | (cases h; done) | skip
    rename_i n p
    simp only [Bool.and_eq_true, Bool.not_eq_true'] at h
    obtain ⟨⟨⟨h1, h2⟩, h3⟩, h4⟩ := h
    have r := le_var (Γ := Γ) (G := G) (pos := p) (at_by C h1) (vis_by h2 hs) h3 h4
    exact ⟨r, fun _ => lt_plain r trivial⟩
  | .lit d => by
    intro X sc x C hs h G
    unfold kE at h
    split at h <;> first | (cases h; done) | skip
    obtain ⟨v, h1, h2⟩ := lit_by (X := X) h
    suffices r : LE X G _ (wE Γ (.lit d)) from ⟨r, fun _ => lt_plain r trivial⟩
    exact le_const (Γ := Γ) h1 h2 (by unfold wE; rfl)
  | .con y d => by
    intro X sc x C hs h G
    unfold kE at h
    split at h <;> first | (cases h; done) | skip
    simp only [Bool.and_eq_true, decide_eq_true_eq, List.any_eq_true] at h
    obtain ⟨⟨rfl, h2⟩, ⟨z, d'⟩, hm, h3, h4⟩ := h
    obtain ⟨g, hd, _⟩ := glb_by h2 hs
    have e := flat_by h4
    subst e
    subst h3
    obtain ⟨u, v, k1, k2, k3⟩ := C.cs _ _ hm
    suffices r : LE X G _ (wE Γ (.con z d')) from ⟨r, fun _ => lt_plain r trivial⟩
    exact le_const (Γ := Γ) (pe_glob g k1 k2 hd) k3 (by unfold wE; rfl)
  | .bop o a b => by
    intro X sc x C hs h G
    unfold kE at h
    split at h <;> first | (cases h; done) | skip
    simp only [Bool.and_eq_true, decide_eq_true_eq] at h
    obtain ⟨⟨rfl, h1⟩, h2⟩ := h
    have ra := sE Γ c a X sc _ C hs h1 G
    have rb := sE Γ c b X sc _ C hs h2 G
    suffices r : LE X G _ (wE Γ (.bop o a b)) from ⟨r, fun _ => lt_plain r trivial⟩
    unfold wE
    exact le_bop o ra.1 rb.1
  | .neg a => by
    intro X sc x C hs h G
    unfold kE at h
    split at h <;> first | (cases h; done) | skip
    have ra := sE Γ c a X sc _ C hs h G
    suffices r : LE X G _ (wE Γ (.neg a)) from ⟨r, fun _ => lt_plain r trivial⟩
    unfold wE
    exact le_neg ra.1
  | .cmp o a b => by
    intro X sc x C hs h G
    unfold kE at h
    split at h <;> first | (cases h; done) | skip
    simp only [Bool.and_eq_true, decide_eq_true_eq, Bool.not_eq_true'] at h
    obtain ⟨⟨⟨rfl, h0⟩, h1⟩, h2⟩ := h
    have ra := sE Γ c a X sc _ C hs h1 G
    have rb := sE Γ c b X sc _ C hs h2 G
    unfold wE
    exact ⟨(le_cmp C.un o ra.1 rb.1 h0).1, fun _ => (le_cmp C.un o ra.1 rb.1 h0).2⟩
  | .chn o p a b d => by
    intro X sc x C hs h G
    unfold kE at h
    split at h <;> first | (cases h; done) | skip
    simp only [Bool.and_eq_true, decide_eq_true_eq, Bool.not_eq_true'] at h
    obtain ⟨⟨⟨⟨⟨rfl, rfl⟩, h0⟩, h1⟩, h2⟩, h3⟩ := h
    have ra := sE Γ c a X sc _ C hs h1 G
    have rb := sE Γ c b X sc _ C hs h2 G
    have rd := sE Γ c d X sc _ C hs h3 G
    unfold wE
    exact ⟨(le_chn C.un o p ra.1 rb.1 rd.1 h0).1, fun _ => (le_chn C.un o p ra.1 rb.1 rd.1 h0).2⟩
  | .chn3 o p q a b d e => by
    intro X sc x C hs h G
    unfold kE at h
    split at h <;> first | (cases h; done) | skip
    simp only [Bool.and_eq_true, decide_eq_true_eq, Bool.not_eq_true'] at h
    obtain ⟨⟨⟨⟨⟨⟨⟨rfl, rfl⟩, rfl⟩, h0⟩, h1⟩, h2⟩, h3⟩, h4⟩ := h
    have ra := sE Γ c a X sc _ C hs h1 G
    have rb := sE Γ c b X sc _ C hs h2 G
    have rd := sE Γ c d X sc _ C hs h3 G
    have re := sE Γ c e X sc _ C hs h4 G
    unfold wE
    exact ⟨(le_chn3 C.un o p q ra.1 rb.1 rd.1 re.1 h0).1, fun _ => (le_chn3 C.un o p q ra.1 rb.1 rd.1 re.1 h0).2⟩
  | .rev a => by
    intro X sc x C hs h G
    unfold kE at h
    split at h <;> first | (cases h; done) | skip
    have ra := sE Γ c a X sc _ C hs h G
    suffices r : LE X G _ (wE Γ (.rev a)) from ⟨r, fun _ => lt_plain r trivial⟩
    unfold wE
    exact le_rev ra.1
  | .own n a => by
    intro X sc x C hs h G
    unfold kE at h
    split at h <;> first | (cases h; done) | skip
    have ra := sE Γ c a X sc _ C hs h G
    suffices r : LE X G _ (wE Γ (.own n a)) from ⟨r, fun _ => lt_plain r trivial⟩
    unfold wE
    exact le_own ra.1
  | .sset a => by
    intro X sc x C hs h G
    unfold kE at h
    split at h <;> first | (cases h; done) | skip
    simp only [Bool.and_eq_true, decide_eq_true_eq] at h
    obtain ⟨⟨⟨⟨⟨rfl, rfl⟩, h1⟩, h2⟩, h3⟩, h4⟩ := h
    have ra := sE Γ c a X sc _ C hs h4 G
    suffices r : LE X G _ (wE Γ (.sset a)) from ⟨r, fun _ => lt_plain r trivial⟩
    unfold wE
    exact le_sset C.calm (glb_by h1 hs).1 (C.mg _ (by decide +kernel)) (glb_by h2 hs).1 (C.mg _ (by decide +kernel)) ra.1 (star_by h3)
  | .nset a => by
    intro X sc x C hs h G
    unfold kE at h
    split at h <;> first | (cases h; done) | skip
    simp only [Bool.and_eq_true, decide_eq_true_eq] at h
    obtain ⟨⟨⟨⟨⟨rfl, rfl⟩, h1⟩, h2⟩, h3⟩, h4⟩ := h
    have ra := sE Γ c a X sc _ C hs h4 G
    suffices r : LE X G _ (wE Γ (.nset a)) from ⟨r, fun _ => lt_plain r trivial⟩
    unfold wE
    exact le_nset C.calm (glb_by h1 hs).1 (C.mg _ (by decide +kernel)) (glb_by h2 hs).1 (C.mg _ (by decide +kernel)) ra.1 (star_by h3)
  | .and a es => by
    intro X sc x C hs h G
    unfold kE at h
    split at h <;> first | (cases h; done) | skip
    rename_i x1 y1 xs1 pos1
    simp only [Bool.and_eq_true] at h
    obtain ⟨⟨h0, h1⟩, h2⟩ := h
    have h0' := h0
    rw [List.all_cons, Bool.and_eq_true] at h0'
    have ra := sE Γ c a X sc _ C hs h1 G
    have rb := ((sEs Γ c es X sc _ C hs h2 G).2.2 rfl h0'.2 pos1).1
    unfold wE
    exact ⟨le_and ra.1 rb.1, fun _ => (lw_and (ra.2 h0'.1) rb.2).pt⟩
  | .or a es => by
    intro X sc x C hs h G
    unfold kE at h
    split at h <;> first | (cases h; done) | skip
    rename_i x1 y1 xs1 pos1
    simp only [Bool.and_eq_true] at h
    obtain ⟨⟨h0, h1⟩, h2⟩ := h
    have h0' := h0
    rw [List.all_cons, Bool.and_eq_true] at h0'
    have ra := sE Γ c a X sc _ C hs h1 G
    have rb := ((sEs Γ c es X sc _ C hs h2 G).2.2 rfl h0'.2 pos1).2
    unfold wE
    exact ⟨le_or ra.1 rb.1, fun _ => (lw_or (ra.2 h0'.1) rb.2).pt⟩
  | .not a => by
    intro X sc x C hs h G
    unfold kE at h
    split at h <;> first | (cases h; done) | skip
    simp only [Bool.and_eq_true] at h
    have ra := sE Γ c a X sc _ C hs h.2 G
    unfold wE
    exact ⟨le_not ra.1, fun _ => lt_not (ra.2 h.1)⟩
  | .ite t a b => by
    intro X sc x C hs h G
    unfold kE at h
    split at h <;> first | (cases h; done) | skip
    simp only [Bool.and_eq_true] at h
    obtain ⟨⟨⟨h0, h1⟩, h2⟩, h3⟩ := h
    have rt := sE Γ c t X sc _ C hs h1 G
    have ra := sE Γ c a X sc _ C hs h2 G
    have rb := sE Γ c b X sc _ C hs h3 G
    unfold wE
    exact ⟨le_ite (rt.2 h0) ra.1 rb.1, fun z => nomatch z⟩
  | .tup es => by
    intro X sc x C hs h G
    unfold kE at h
    split at h <;> first | (cases h; done) | skip
    have ra := sEs Γ c es X sc _ C hs h G
    suffices r : LE X G _ (wE Γ (.tup es)) from ⟨r, fun _ => lt_plain r trivial⟩
    unfold wE
    exact le_tup ra.1
  | .lst es => by
    intro X sc x C hs h G
    unfold kE at h
    split at h <;> first | (cases h; done) | skip
    have ra := sEs Γ c es X sc _ C hs h G
    suffices r : LE X G _ (wE Γ (.lst es)) from ⟨r, fun _ => lt_plain r trivial⟩
    unfold wE
    exact le_lst ra.1
  | .idx a b => by
    intro X sc x C hs h G
    unfold kE at h
    split at h <;> first | (cases h; done) | skip
    simp only [Bool.and_eq_true] at h
    obtain ⟨⟨h0, h1⟩, h2⟩ := h
    have ra := sE Γ c a X sc _ C hs h1 G
    have rb := sE Γ c b X sc _ C hs h2 G
    suffices r : LE X G _ (wE Γ (.idx a b)) from ⟨r, fun _ => lt_plain r trivial⟩
    unfold wE
    exact le_idx ra.1 rb.1 (ix_by h0)
  | .sli a lo hi => by
    intro X sc x C hs h G
    unfold kE at h
    split at h <;> first | (cases h; done) | skip
    simp only [Bool.and_eq_true] at h
    obtain ⟨⟨h0, h1⟩, h2⟩ := h
    have ra := sE Γ c a X sc _ C hs h0 G
    have rl := (sEo Γ c lo X sc C hs).1 _ h1 G
    have rh := (sEo Γ c hi X sc C hs).1 _ h2 G
    suffices r : LE X G _ (wE Γ (.sli a lo hi)) from ⟨r, fun _ => lt_plain r trivial⟩
    unfold wE
    exact le_sli ra.1 rl rh
  | .call f es => by
    intro X sc x C hs h G
    unfold kE at h
    split at h <;> first | (cases h; done) | skip
    rename_i n p xs pos
    simp only [Bool.and_eq_true, decide_eq_true_eq] at h
    obtain ⟨⟨h0, h1⟩, h2⟩ := h
    obtain ⟨g, hd, _⟩ := glb_by h1 hs
    obtain ⟨ra, st, _⟩ := sEs Γ c es X sc _ C hs h2 G
    rw [← C.fn, List.getElem?_map] at h0
    have r : LE X G (.Call (.Name n p) xs [] pos) (wE Γ (.call f es)) := by
      unfold wE
      cases hf : Γ[f]? with
      | none => rw [hf] at h0; cases h0
      | some q =>
        rw [hf] at h0
        have hn : q.1 = n := Option.some.inj h0
        subst hn
        have F := C.ok f q hf
        have e : (fun (ρ : Sl) (η : Reg) (Q : Vl → Reg → Prop) => wEs Γ es ρ η fun vs η1 => callN Γ f vs η1 Q) = (fun ρ η Q => wEs Γ es ρ η fun vs η1 => callW q.2 vs η1 Q) := by
          funext ρ η Q
          simp only [callN, hf]
        rw [e]
        cases xs with
        | nil =>
          cases es with
          | nil => unfold wEs; exact le_call0 F g hd
          | cons e es => exact absurd h2 (by unfold kEs; exact Bool.false_ne_true)
        | cons y ys =>
          rw [List.all_cons, Bool.and_eq_true] at st
          exact le_call F g ra hd (star_by st.1) (stars_by st.2 pos)
    exact ⟨r, fun _ => lt_plain r trivial⟩
  | .bi b es => by
    intro X sc x C hs h G
    unfold kE at h
    split at h <;> first | (cases h; done) | skip
    rename_i n p xs pos
    have r : LE X G (.Call (.Name n p) xs [] pos) (wE Γ (.bi b es)) := by
      cases b with
      | isi T =>
        dsimp only at h
        split at h <;> first | (cases h; done) | skip
        rename_i y m pm
        simp only [Bool.and_eq_true, decide_eq_true_eq] at h
        obtain ⟨⟨⟨⟨rfl, h1⟩, h2⟩, h3⟩, h4⟩ := h
        obtain ⟨g, hd, _⟩ := glb_by h1 hs
        obtain ⟨g2, hd2, hn2⟩ := glb_by h2 hs
        obtain ⟨hb, hmm⟩ := isi_by h3
        cases es with
        | nil => exact absurd h4 (by unfold kEs; exact Bool.false_ne_true)
        | cons e es =>
          unfold kEs at h4
          simp only [Bool.and_eq_true] at h4
          obtain ⟨⟨h5, h6⟩, h7⟩ := h4
          cases es with
          | cons e2 es => exact absurd h7 (by unfold kEs; exact Bool.false_ne_true)
          | nil =>
            have ra := sE Γ c e X sc _ C hs h6 G
            simp only [wE, wEs]
            exact le_isi ra.1 g (C.mg _ (by decide +kernel)) g2 (C.mg _ hmm) hb hn2 hd2 (star_by h5)
      | sorted =>
        dsimp only at h
        split at h <;> first | (cases h; done) | skip
        simp only [Bool.and_eq_true, decide_eq_true_eq] at h
        obtain ⟨⟨rfl, h1⟩, h2⟩ := h
        obtain ⟨g, hd, _⟩ := glb_by h1 hs
        obtain ⟨ra, st, _⟩ := sEs Γ c es X sc _ C hs h2 G
        rw [List.all_cons, Bool.and_eq_true] at st
        unfold wE
        exact le_sorted C.un g (C.mg _ (by decide +kernel)) ra (star_by st.1)
      | rlist1 =>
        dsimp only at h
        split at h <;> first | (cases h; done) | skip
        simp only [Bool.and_eq_true, decide_eq_true_eq] at h
        obtain ⟨⟨⟨⟨rfl, rfl⟩, h1⟩, h2⟩, h4⟩ := h
        obtain ⟨g, hd, _⟩ := glb_by h1 hs
        obtain ⟨g2, hd2, hn2⟩ := glb_by h2 hs
        cases es with
        | nil => exact absurd h4 (by unfold kEs; exact Bool.false_ne_true)
        | cons e es =>
          unfold kEs at h4
          simp only [Bool.and_eq_true] at h4
          obtain ⟨⟨h5, h6⟩, h7⟩ := h4
          cases es with
          | cons e2 es => exact absurd h7 (by unfold kEs; exact Bool.false_ne_true)
          | nil =>
            have ra := sE Γ c e X sc _ C hs h6 G
            simp only [wE, wEs]
            exact le_rlist1 C.calm g (C.mg _ (by decide +kernel)) g2 (C.mg _ (by decide +kernel)) ra.1 (star_by h5)
      | rtup1 =>
        dsimp only at h
        split at h <;> first | (cases h; done) | skip
        simp only [Bool.and_eq_true, decide_eq_true_eq] at h
        obtain ⟨⟨⟨⟨rfl, rfl⟩, h1⟩, h2⟩, h4⟩ := h
        obtain ⟨g, hd, _⟩ := glb_by h1 hs
        obtain ⟨g2, hd2, hn2⟩ := glb_by h2 hs
        cases es with
        | nil => exact absurd h4 (by unfold kEs; exact Bool.false_ne_true)
        | cons e es =>
          unfold kEs at h4
          simp only [Bool.and_eq_true] at h4
          obtain ⟨⟨h5, h6⟩, h7⟩ := h4
          cases es with
          | cons e2 es => exact absurd h7 (by unfold kEs; exact Bool.false_ne_true)
          | nil =>
            have ra := sE Γ c e X sc _ C hs h6 G
            simp only [wE, wEs]
            exact le_rtup1 C.calm g (C.mg _ (by decide +kernel)) g2 (C.mg _ (by decide +kernel)) ra.1 (star_by h5)
      | rlist2 =>
        dsimp only at h
        split at h <;> first | (cases h; done) | skip
        simp only [Bool.and_eq_true, decide_eq_true_eq] at h
        obtain ⟨⟨⟨⟨rfl, rfl⟩, h1⟩, h2⟩, h4⟩ := h
        obtain ⟨g, hd, _⟩ := glb_by h1 hs
        obtain ⟨g2, hd2, hn2⟩ := glb_by h2 hs
        cases es with
        | nil => exact absurd h4 (by unfold kEs; exact Bool.false_ne_true)
        | cons e es =>
          unfold kEs at h4
          simp only [Bool.and_eq_true] at h4
          obtain ⟨⟨h5, h6⟩, h4⟩ := h4
          cases es with
          | nil => exact absurd h4 (by unfold kEs; exact Bool.false_ne_true)
          | cons e2 es =>
            unfold kEs at h4
            simp only [Bool.and_eq_true] at h4
            obtain ⟨⟨h8, h9⟩, h7⟩ := h4
            cases es with
            | cons e3 es => exact absurd h7 (by unfold kEs; exact Bool.false_ne_true)
            | nil =>
              have ra := sE Γ c e X sc _ C hs h6 G
              have rb := sE Γ c e2 X sc _ C hs h9 G
              simp only [wE, wEs]
              exact le_rlist2 C.calm g (C.mg _ (by decide +kernel)) g2 (C.mg _ (by decide +kernel)) ra.1 rb.1 (star_by h5) (star_by h8)
      | rtup2 =>
        dsimp only at h
        split at h <;> first | (cases h; done) | skip
        simp only [Bool.and_eq_true, decide_eq_true_eq] at h
        obtain ⟨⟨⟨⟨rfl, rfl⟩, h1⟩, h2⟩, h4⟩ := h
        obtain ⟨g, hd, _⟩ := glb_by h1 hs
        obtain ⟨g2, hd2, hn2⟩ := glb_by h2 hs
        cases es with
        | nil => exact absurd h4 (by unfold kEs; exact Bool.false_ne_true)
        | cons e es =>
          unfold kEs at h4
          simp only [Bool.and_eq_true] at h4
          obtain ⟨⟨h5, h6⟩, h4⟩ := h4
          cases es with
          | nil => exact absurd h4 (by unfold kEs; exact Bool.false_ne_true)
          | cons e2 es =>
            unfold kEs at h4
            simp only [Bool.and_eq_true] at h4
            obtain ⟨⟨h8, h9⟩, h7⟩ := h4
            cases es with
            | cons e3 es => exact absurd h7 (by unfold kEs; exact Bool.false_ne_true)
            | nil =>
              have ra := sE Γ c e X sc _ C hs h6 G
              have rb := sE Γ c e2 X sc _ C hs h9 G
              simp only [wE, wEs]
              exact le_rtup2 C.calm g (C.mg _ (by decide +kernel)) g2 (C.mg _ (by decide +kernel)) ra.1 rb.1 (star_by h5) (star_by h8)
      | _ =>
        simp only [Bool.and_eq_true, decide_eq_true_eq, Bool.not_eq_true'] at h
        obtain ⟨⟨⟨rfl, h1⟩, h2⟩, h3⟩ := h
        obtain ⟨g, hd, hn⟩ := glb_by h1 hs
        obtain ⟨ra, st, _⟩ := sEs Γ c es X sc _ C hs h3 G
        cases xs with
        | nil => cases h2
        | cons y ys =>
          rw [List.all_cons, Bool.and_eq_true] at st
          unfold wE
          first
          | exact (pe_callB (ok_bi C.calm C.un .len) g (C.mg _ (by decide +kernel)) (bi_by (b := .len) rfl).1 ra hn hd (star_by st.1) (stars_by st.2 pos)).weak (bi_low trivial)
          | exact (pe_callTy (ok_bi C.calm C.un .int) g (C.mg _ (by decide +kernel)) (bi_by (b := .int) rfl).1 ra hn hd (star_by st.1) (stars_by st.2 pos)).weak (bi_low trivial)
          | exact (pe_callB (ok_bi C.calm C.un .abs) g (C.mg _ (by decide +kernel)) (bi_by (b := .abs) rfl).1 ra hn hd (star_by st.1) (stars_by st.2 pos)).weak (bi_low trivial)
          | exact (pe_callB (ok_bi C.calm C.un .sum) g (C.mg _ (by decide +kernel)) (bi_by (b := .sum) rfl).1 ra hn hd (star_by st.1) (stars_by st.2 pos)).weak (bi_low trivial)
          | exact (pe_callB (ok_bi C.calm C.un .min1) g (C.mg _ (by decide +kernel)) (bi_by (b := .min1) rfl).1 ra hn hd (star_by st.1) (stars_by st.2 pos)).weak (bi_low trivial)
          | exact (pe_callB (ok_bi C.calm C.un .max1) g (C.mg _ (by decide +kernel)) (bi_by (b := .max1) rfl).1 ra hn hd (star_by st.1) (stars_by st.2 pos)).weak (bi_low trivial)
          | exact (pe_callB (ok_bi C.calm C.un .min2) g (C.mg _ (by decide +kernel)) (bi_by (b := .min2) rfl).1 ra hn hd (star_by st.1) (stars_by st.2 pos)).weak (bi_low trivial)
          | exact (pe_callB (ok_bi C.calm C.un .max2) g (C.mg _ (by decide +kernel)) (bi_by (b := .max2) rfl).1 ra hn hd (star_by st.1) (stars_by st.2 pos)).weak (bi_low trivial)
          | exact (pe_callB (ok_bi C.calm C.un .all) g (C.mg _ (by decide +kernel)) (bi_by (b := .all) rfl).1 ra hn hd (star_by st.1) (stars_by st.2 pos)).weak (bi_low trivial)
          | exact (pe_callB (ok_bi C.calm C.un .any) g (C.mg _ (by decide +kernel)) (bi_by (b := .any) rfl).1 ra hn hd (star_by st.1) (stars_by st.2 pos)).weak (bi_low trivial)
          | exact (pe_callTy (ok_bi C.calm C.un .list) g (C.mg _ (by decide +kernel)) (bi_by (b := .list) rfl).1 ra hn hd (star_by st.1) (stars_by st.2 pos)).weak (bi_low trivial)
          | exact (pe_callTy (ok_bi C.calm C.un .tuple) g (C.mg _ (by decide +kernel)) (bi_by (b := .tuple) rfl).1 ra hn hd (star_by st.1) (stars_by st.2 pos)).weak (bi_low trivial)
    exact ⟨r, fun _ => lt_plain r trivial⟩
  | .met m a es => by
    intro X sc x C hs h G
    unfold kE at h
    split at h <;> first | (cases h; done) | skip
    rename_i o name apos xs cpos
    simp only [Bool.and_eq_true, decide_eq_true_eq] at h
    obtain ⟨⟨⟨⟨⟨h0, h1⟩, h2⟩, h3⟩, h4⟩, h5⟩ := h
    have ra := sE Γ c a X sc _ C hs h4 G
    obtain ⟨rs, st, _⟩ := sEs Γ c es X sc _ C hs h5 G
    have r : LE X G (.Call (.Attribute o name apos) xs [] cpos) (wE Γ (.met m a es)) := by
      unfold wE
      rcases xs with _ | ⟨y, _ | ⟨z, ys⟩⟩
      · cases es with
        | nil => unfold wEs; exact le_met0 C.un m h0 ra.1 (base_by h1) h2
        | cons e es => exact absurd h5 (by unfold kEs; exact Bool.false_ne_true)
      · rw [List.all_cons, Bool.and_eq_true] at st
        exact le_met1 C.un m h0 ra.1 rs (base_by h1) h2 (star_by st.1)
      · simp at h3
    exact ⟨r, fun _ => lt_plain r trivial⟩
  | .lc tg own s cd e => by
    intro X sc x C hs h G
    unfold kE at h
    split at h <;> first | (cases h; done) | skip
    rename_i elt tge iter ifs scope pos
    simp only [Bool.and_eq_true, decide_eq_true_eq, List.all_eq_true] at h
    obtain ⟨⟨⟨⟨⟨⟨⟨⟨h1, h2⟩, h3⟩, h4⟩, h5⟩, h6⟩, h7⟩, h8⟩, h9⟩ := h
    obtain ⟨p1, p2⟩ := pl_by (X := X) h6
    have ok : BlkOk X.N X.env.scope scope (ownP c.N own) := by
      rw [C.hN, hs]; exact blkOk_by h1
    have ri := sSr Γ c s X sc tge iter C hs h7 p2 G
    have r : LE X G (.ListComp elt [⟨tge, iter, ifs, 0⟩] scope pos) (wE Γ (.lc tg own s cd e)) := by
      have base := pe_lc (pos := pos) (te := anyE (wE Γ e)) (tt := anyT (wCond Γ cd)) (g := tgR X.K tg) C.calm C.nd ri ok
        (fun s H Cc cl fp => tg_by (C.blk ok.kind s H Cc cl fp) (okset_blk hs s H Cc cl fp) h3)
        (fun s H Cc cl fp => (sEo Γ c cd _ _ (C.blk ok.kind s H Cc cl fp) (blk_scope hs)).2 _ h8)
        (fun s H Cc cl fp => pe_any fun G' => (sE Γ c e _ _ _ (C.blk ok.kind s H Cc cl fp) (blk_scope hs) h9 G').1)
        (fun x => set_by h5)
      rw [h2] at base
      refine base.weak fun σ H Q q => lc_low p1 h4 ?_
      unfold wE at q
      exact q
    exact ⟨r, fun _ => lt_plain r trivial⟩
theorem sEs (Γ : Env) (c : Cfg) : ∀ es : Es, SEs Γ c es
  | .nil => by
    intro X sc xs C hs h G
    unfold kEs at h
    split at h <;> first | (cases h; done) | skip
    unfold wEs
    exact ⟨la_nil, rfl, fun z => nomatch z⟩
  | .cons e es => by
    intro X sc xs C hs h G
    unfold kEs at h
    split at h <;> first | (cases h; done) | skip
    rename_i x xs
    simp only [Bool.and_eq_true] at h
    obtain ⟨⟨h0, h1⟩, h2⟩ := h
    have ra := sE Γ c e X sc _ C hs h1 G
    obtain ⟨rs, st, rb⟩ := sEs Γ c es X sc _ C hs h2 G
    refine ⟨?_, ?_, fun _ hi pos => ?_⟩
    · unfold wEs
      exact la_cons ra.1 rs (star_by h0)
    · rw [List.all_cons, h0, st]; rfl
    · rw [List.all_cons, Bool.and_eq_true] at hi
      cases xs with
      | nil =>
        cases es with
        | cons e2 es => exact absurd h2 (by unfold kEs; exact Bool.false_ne_true)
        | nil =>
          simp only [wAnd, wOr]
          exact ⟨and_last ra.1 (ra.2 hi.1) pos .And and_nil, and_last ra.1 (ra.2 hi.1) pos .Or and_nil⟩
      | cons y ys =>
        obtain ⟨⟨a1, a2⟩, o1, o2⟩ := rb rfl hi.2 pos
        refine ⟨?_, ?_⟩
        · unfold wAnd
          exact ⟨le_and ra.1 a1, lw_and (ra.2 hi.1) a2⟩
        · unfold wOr
          exact ⟨le_or ra.1 o1, lw_or (ra.2 hi.1) o2⟩
theorem sEo (Γ : Env) (c : Cfg) : ∀ o : Eo, SEo Γ c o
  | .no => by
    intro X sc C hs
    refine ⟨fun x h G => ?_, fun xs h => ?_⟩
    · unfold kEo at h
      split at h <;> first | (cases h; done) | skip
      unfold wEo
      exact lo_none
    · unfold kIfs at h
      split at h <;> first | (cases h; done) | skip
      unfold wCond
      exact pts_any0
  | .so e => by
    intro X sc C hs
    refine ⟨fun x h G => ?_, fun xs h => ?_⟩
    · unfold kEo at h
      split at h <;> first | (cases h; done) | skip
      have ra := sE Γ c e X sc _ C hs h G
      unfold wEo
      exact lo_some ra.1
    · unfold kIfs at h
      split at h <;> first | (cases h; done) | skip
      rw [Bool.and_eq_true] at h
      unfold wCond
      exact pts_any1 fun G => (sE Γ c e X sc _ C hs h.2 G).2 h.1
theorem sSr (Γ : Env) (c : Cfg) : ∀ s : Src, SSr Γ c s
  | .seq a => by
    intro X sc tg x C hs h p G
    unfold kSrc at h
    have ra := sE Γ c a X sc _ C hs h G
    unfold wSrc
    exact li_seq ra.1
  | .rng1 a => by
    intro X sc tg x C hs h p G
    unfold kSrc at h
    split at h <;> first | (cases h; done) | skip
    simp only [Bool.and_eq_true, decide_eq_true_eq] at h
    obtain ⟨⟨⟨rfl, h1⟩, h2⟩, h3⟩ := h
    obtain ⟨g, hd, _⟩ := glb_by h1 hs
    have ra := sE Γ c a X sc _ C hs h3 G
    unfold wSrc
    exact li_rng1 g (C.mg _ (by decide +kernel)) ra.1 (star_by h2)
  | .rng2 a b => by
    intro X sc tg x C hs h p G
    unfold kSrc at h
    split at h <;> first | (cases h; done) | skip
    simp only [Bool.and_eq_true, decide_eq_true_eq] at h
    obtain ⟨⟨⟨⟨⟨rfl, h1⟩, h2⟩, h3⟩, h4⟩, h5⟩ := h
    obtain ⟨g, hd, _⟩ := glb_by h1 hs
    have ra := sE Γ c a X sc _ C hs h4 G
    have rb := sE Γ c b X sc _ C hs h5 G
    unfold wSrc
    exact li_rng2 g (C.mg _ (by decide +kernel)) ra.1 rb.1 (star_by h2) (star_by h3)
  | .zip a b => by
    intro X sc tg x C hs h p G
    unfold kSrc at h
    split at h <;> first | (cases h; done) | skip
    simp only [Bool.and_eq_true, decide_eq_true_eq] at h
    obtain ⟨⟨⟨⟨⟨rfl, h1⟩, h2⟩, h3⟩, h4⟩, h5⟩ := h
    obtain ⟨g, hd, _⟩ := glb_by h1 hs
    have ra := sE Γ c a X sc _ C hs h4 G
    have rb := sE Γ c b X sc _ C hs h5 G
    rcases p with p | ⟨es, k, tp, rfl⟩
    · cases p
    unfold wSrc
    exact li_zip g (C.mg _ (by decide +kernel)) ra.1 rb.1 (star_by h2) (star_by h3)
  | .enum a => by
    intro X sc tg x C hs h p G
    unfold kSrc at h
    split at h <;> first | (cases h; done) | skip
    simp only [Bool.and_eq_true, decide_eq_true_eq] at h
    obtain ⟨⟨⟨rfl, h1⟩, h2⟩, h3⟩ := h
    obtain ⟨g, hd, _⟩ := glb_by h1 hs
    have ra := sE Γ c a X sc _ C hs h3 G
    rcases p with p | ⟨es, k, tp, rfl⟩
    · cases p
    unfold wSrc
    exact li_enum g (C.mg _ (by decide +kernel)) ra.1 (star_by h2)
end
end Pl

namespace Pl
open PySem PySem.Spec PyProof.Rows L2

def Gd (G : Gh) (gd : List Nat) : Prop := ∀ n, n ∉ gd → G.A0 n = none
theorem Gd.loop {G : Gh} {gd gs : List Nat} {L : Loc} {Z : Hp} (h : Gd G gd) : Gd (G.loop gs L Z) (gs ++ gd) := fun n hn => by
  rw [List.mem_append, not_or] at hn
  show (if n ∈ gs then _ else G.A0 n) = none
  rw [if_neg hn.1]
  exact h n hn.2
def SS1 (Γ : Env) (c : Cfg) (st : S) : Prop := ∀ (X : Cx) (sc : Scope) (gd : List Nat) (x : Stmt), XC X c Γ → (PassesOwn (model X.prog X.w) X.A X.env X.xe ∧ ∀ x, X.fn x = true) → X.env.scope = sc → kS c sc gd st x = true → ∀ G : Gh, Gd G gd → LS X G x (wS Γ st)
def SSs (Γ : Env) (c : Cfg) (ss : Ss) : Prop := ∀ (X : Cx) (sc : Scope) (gd : List Nat) (xs : List Stmt), XC X c Γ → (PassesOwn (model X.prog X.w) X.A X.env X.xe ∧ ∀ x, X.fn x = true) → X.env.scope = sc → kSs c sc gd ss xs = true → ∀ G : Gh, Gd G gd → LSs X G xs (wSs Γ ss)

section
variable {X : Cx} {c : Cfg} {Γ : Env} {G : Gh}
theorem sw_by {sc : Scope} {v : Expr} {n : Str} {tp : Pos} {l : Nat} (hs : X.env.scope = sc) (hv : match v with
    | .SetComp .. => False
    | .DictComp .. => False
    | _ => True) : swapsWith v (some (.Name n tp)) l X.env = pure (match v with
      | .ListComp _ _ scope p => X.env.blockKind == .function && X.env.kindOf n == some .local && tp.line == v.pos.line && !(scope.names.any fun (m, k) => m == n && (k == .local || k == .cell))
      | _ => false) := by
  cases v <;> first | rfl | exact False.elim hv
/-- name = value -/
theorem asg_by (C : XC X c Γ) {sc : Scope} (hs : X.env.scope = sc) {i : Nat} {n : Str} {tp pos : Pos} {v : Expr} {e : E} (hf : ∀ x, X.fn x = true) (h1 : c.at i n = true) (h2 : setC sc n = true) (hv : (match v with
      | .ListComp .. => true
      | .SetComp .. => false
      | .DictComp .. => false
      | _ => true) = true) (h3 : kE c sc e v = true) : ∃ T : TE, PS X (.Assign [.Name n tp] v pos) (tAsg T (gName i)) ∧ ∀ σ H Q, liftE G (wE Γ e) σ H Q → T σ H Q := by
  have hl := okset_def hs hf n h2
  have ra := (sE Γ c e X sc v C hs h3 G).1
  by_cases hc : nComp v = true
  · exact ⟨_, ps_set C.nd (at_by C h1) hl.1 ra (comp_by _ hc) hl.2, fun _ _ _ q => q⟩
  · have : ∃ elt gs scope p, v = .ListComp elt gs scope p := by
      cases v <;> first | exact absurd rfl hc | (cases hv; done) | exact ⟨_, _, _, _, rfl⟩
    obtain ⟨elt, gs, scope, p, rfl⟩ := this
    have sw := sw_by (X := X) (v := .ListComp elt gs scope p) (n := n) (tp := tp) (l := pos.line) hs trivial
    dsimp only at sw
    cases hb : (X.env.blockKind == .function && X.env.kindOf n == some .local && tp.line == (Expr.ListComp elt gs scope p).pos.line && !(scope.names.any fun (m, k) => m == n && (k == .local || k == .cell))) with
    | false =>
      rw [hb] at sw
      exact ⟨_, ps_set C.nd (at_by C h1) hl.1 ra sw hl.2, fun _ _ _ q => q⟩
    | true =>
      rw [hb] at sw
      simp only [Bool.and_eq_true] at hb
      have hloc : X.env.scope.names.lookup n = some .local := eq_of_beq hb.1.1.2
      cases e <;> (try (exact absurd h3 (by unfold kE; exact Bool.false_ne_true)))
      rename_i tg own s cd e
      unfold kE at h3
      split at h3 <;> first | (cases h3; done) | skip
      rename_i elt' tge iter ifs scope' pos' heq
      cases heq
      simp only [Bool.and_eq_true, decide_eq_true_eq, List.all_eq_true] at h3
      obtain ⟨⟨⟨⟨⟨⟨⟨⟨k1, k2⟩, k3⟩, k4⟩, k5⟩, k6⟩, k7⟩, k8⟩, k9⟩ := h3
      obtain ⟨p1, p2⟩ := pl_by (X := X) k6
      have ok : BlkOk X.N X.env.scope scope (ownP c.N own) := by
        rw [C.hN, hs]; exact blkOk_by k1
      have ri := sSr Γ c s X sc tge iter C hs k7 p2 G
      refine ⟨_, ps_setLc (te := anyE (wE Γ e)) (tt := anyT (wCond Γ cd)) (g := tgR X.K tg) C.calm C.nd (at_by C h1) hloc sw ri ok
        (fun s H Cc cl fp => tg_by (C.blk ok.kind s H Cc cl fp) (okset_blk hs s H Cc cl fp) k3)
        (fun s H Cc cl fp => (sEo Γ c cd _ _ (C.blk ok.kind s H Cc cl fp) (blk_scope hs)).2 _ k8)
        (fun s H Cc cl fp => pe_any fun G' => (sE Γ c e _ _ _ (C.blk ok.kind s H Cc cl fp) (blk_scope hs) k9 G').1)
        (fun x => set_by k5), fun σ H Q q => ?_⟩
      rw [k2]
      refine lc_low p1 k4 ?_
      unfold wE at q
      exact q
theorem par_by {x y : Str} {px py pt p2 : Pos} {kt k2 : Nat} {a b : Expr} {env : PySem.Env} (hx : env.scope.names.lookup x = some .local) (hy : env.scope.names.lookup y = some .local) (hxy : x ≠ y) (hl : (px.line == py.line) = true)
    (hk : env.scope.kind = .function) (ha : nSt a = true) (hb : nSt b = true) (h1 : ([a, b].all (foldedForSure 8)) = false) (h2 : ([a, b].all (constantsAlone 8)) = false) :
    swappedStores [.Tuple [.Name x px, .Name y py] kt pt] (.Tuple [a, b] k2 p2) env = pure (some [x, y]) := by
  have hbk : env.blockKind = .function := by unfold Env.blockKind; rw [hk]; rfl
  have kx : env.kindOf x = some .local := hx
  have ky : env.kindOf y = some .local := hy
  have hl' : px.line = py.line := eq_of_beq hl
  have star : ∀ f : Expr → Bool, (∀ e, nSt e = true → f e = false) → ([a, b].any f) = false := fun f hf => by
    simp only [List.any_cons, List.any_nil, hf a ha, hf b hb]; rfl
  have names : ∀ f : Expr → Option Str, f (.Name x px) = some x → f (.Name y py) = some y → List.filterMap f [Expr.Name x px, Expr.Name y py] = [x, y] := fun f e1 e2 => by
    simp only [List.filterMap_cons, e1, e2, List.filterMap_nil]
  have hxb : (x == y) = false := by simpa using hxy
  have hyx : (y == x) = false := by
    simpa using fun e : y = x => hxy e.symm
  have e2 : ([x, y] : List Str).eraseDups.length = 2 := by
    simp [List.eraseDups, List.eraseDupsBy, List.eraseDupsBy.loop, hxb, hyx]
  unfold swappedStores
  dsimp only
  rw [star _ (by intro e he; cases e <;> first | rfl | cases he)]
  rw [names _ (by simp [kx, Expr.pos]) (by simp [ky, Expr.pos, hl'])]
  simp only [e2, hbk, h1, h2]
  rfl
end

mutual
theorem sS (Γ : Env) (c : Cfg) : ∀ st : S, SS1 Γ c st
  | .asg i r e => by
    intro X sc gd x C hp hs h G hG
    unfold kS at h
    split at h <;> first | (cases h; done) | skip
    simp only [Bool.and_eq_true] at h
    obtain ⟨⟨⟨⟨h1, h2⟩, h3⟩, h4⟩, h5⟩ := h
    obtain ⟨T, k1, k2⟩ := asg_by (G := G) C hs hp.2 h1 h2 h4 h5
    unfold wS
    refine ls_asg k1 k2 fun n e => ?_
    subst e
    exact hG n (of_decide_eq_true h3)
  | .asgT is e => by
    intro X sc gd x C hp hs h G hG
    unfold kS at h
    split at h <;> first | (cases h; done) | skip
    rename_i ts kt tp v pos
    simp only [Bool.and_eq_true] at h
    obtain ⟨⟨h1, h2⟩, h3⟩ := h
    by_cases hv : isTup v = true
    · have : ∃ vs k p, v = .Tuple vs k p := by
        cases v <;> first | (cases hv; done) | exact ⟨_, _, _, rfl⟩
      obtain ⟨vs, k, p, rfl⟩ := this
      dsimp only at h2
      split at h2 <;> first | (cases h2; done) | skip
      rename_i i j x px y py a b
      simp only [Bool.and_eq_true, decide_eq_true_eq, Bool.not_eq_true'] at h2
      obtain ⟨⟨⟨⟨⟨⟨⟨⟨⟨a1, a2⟩, b2⟩, b4⟩, a3⟩, a4⟩, a5⟩, a6⟩, a7⟩, a8⟩ := h2
      unfold kNames kNames at h1
      simp only [Bool.and_eq_true] at h1
      obtain ⟨⟨b1, _⟩, ⟨b3, _⟩, _⟩ := h1
      cases e <;> (try (exact absurd h3 (by unfold kE; exact Bool.false_ne_true)))
      rename_i es
      unfold kE at h3
      have ra := (sEs Γ c es X sc _ C hs h3 G).1
      have hx := loc_by b2 hs
      have hy := loc_by b4 hs
      have base := ps_par (pos := pos) (pt := tp) (kt := kt) (k2 := k) (pt2 := p) (px := px) (py := py) C.calm C.nd (at_by C b1) (at_by C b3) a1 hx hy ra (par_by hx hy a2 a3 (by rw [hs]; exact a4) a5 a6 a7 a8) (comp_tg trivial)
      refine (ls_par base).weak ?_
      rintro D σ H ⟨ρ, L, Z, η, P, S, s, t, e⟩
      refine ⟨ρ, L, Z, η, P, S, s, ?_, e⟩
      simp only [wS, wE] at t
      exact t
    · have nt : swappedStores [.Tuple ts kt tp] v X.env = pure none := by
        cases v <;> first | rfl | exact absurd rfl hv
      obtain ⟨g, l, f⟩ := names_by C (okset_def hs hp.2) is ts h1
      unfold wS
      exact ls_asgT (ps_asg (sE Γ c e X sc _ C hs h3 G).1 (pg_tup C.calm g l f) (comp_tg trivial) nt rfl)
  | .sto a b e => by
    intro X sc gd x C hp hs h G hG
    unfold kS at h
    split at h <;> first | (cases h; done) | skip
    rename_i x y tp v pos
    simp only [Bool.and_eq_true] at h
    obtain ⟨⟨⟨h1, h2⟩, h3⟩, h4⟩ := h
    have ra := (sE Γ c a X sc _ C hs h2 G).1
    have rb := (sE Γ c b X sc _ C hs h3 G).1
    have re := (sE Γ c e X sc _ C hs h4 G).1
    unfold wS
    exact ls_sto (a := x) (b := y) (e := v) (ps_asg re (pg_sub ra rb set_list (by intro v; cases y <;> first | rfl | cases h1)) (comp_tg trivial) (by cases v <;> rfl) rfl)
  | .augN i e => by
    intro X sc gd x C hp hs h G hG
    unfold kS at h
    split at h <;> first | (cases h; done) | skip
    simp only [Bool.and_eq_true] at h
    obtain ⟨⟨h1, h2⟩, h3⟩ := h
    have hl := okset_def hs hp.2 _ h2
    have re := (sE Γ c e X sc _ C hs h3 G).1
    unfold wS
    exact ls_augN (ps_aug C.nd (at_by C h1) hl.1 re ip_aug hl.2)
  | .augS a b e => by
    intro X sc gd x C hp hs h G hG
    unfold kS at h
    split at h <;> first | (cases h; done) | skip
    rename_i x y tp v pos
    simp only [Bool.and_eq_true] at h
    obtain ⟨⟨⟨h1, h2⟩, h3⟩, h4⟩ := h
    have ra := (sE Γ c a X sc _ C hs h2 G).1
    have rb := (sE Γ c b X sc _ C hs h3 G).1
    have re := (sE Γ c e X sc _ C hs h4 G).1
    unfold wS
    exact ls_augS (ps_augS ra rb get_list re ip_aug set_list (by intro ov iv new; cases y <;> first | rfl | cases h1))
  | .exp e => by
    intro X sc gd x C hp hs h G hG
    unfold kS at h
    split at h <;> first | (cases h; done) | skip
    simp only [Bool.and_eq_true] at h
    unfold wS
    exact ls_exp (ps_expr (sE Γ c e X sc _ C hs h.2 G).1 (comp_by none h.1))
  | .ret e => by
    intro X sc gd x C hp hs h G hG
    unfold kS at h
    split at h <;> first | (cases h; done) | skip
    · unfold wS
      exact ls_ret (ps_ret (sE Γ c e X sc _ C hs h G).1)
    · split at h <;> first | (cases h; done) | skip
      simp only [wS, wE]
      exact ls_retN
  | .retP i n => by
    intro X sc gd x C hp hs h G hG
    unfold kS at h
    split at h <;> first | (cases h; done) | skip
    simp only [Bool.and_eq_true, decide_eq_true_eq] at h
    unfold wS
    exact ls_retP (ps_ret (sE Γ c (.var i) X sc _ C hs h.1 G).1) (hG n h.2)
  | .iff t a b => by
    intro X sc gd x C hp hs h G hG
    unfold kS at h
    split at h <;> first | (cases h; done) | skip
    simp only [Bool.and_eq_true] at h
    obtain ⟨⟨⟨h1, h2⟩, h3⟩, h4⟩ := h
    unfold wS
    exact ls_if ((sE Γ c t X sc _ C hs h2 G).2 h1) (sSs Γ c a X sc gd _ C hp hs h3 G hG) (sSs Γ c b X sc gd _ C hp hs h4 G hG)
  | .for gs tg s b => by
    intro X sc gd x C hp hs h G hG
    unfold kS at h
    split at h <;> first | (cases h; done) | skip
    simp only [Bool.and_eq_true] at h
    obtain ⟨⟨⟨⟨h1, h2⟩, h3⟩, h4⟩, h5⟩ := h
    obtain ⟨p1, p2⟩ := pl_by (X := X) h3
    unfold wS
    exact ls_for hp.1 C.calm (sSr Γ c s X sc _ _ C hs h4 p2 G) (tg_by C (okset_def hs hp.2) h1) p1 (fun L Z => sSs Γ c b X sc (gs ++ gd) _ C hp hs h5 _ hG.loop) (fun x => set_by h2)
  | .whl t b => by
    intro X sc gd x C hp hs h G hG
    unfold kS at h
    split at h <;> first | (cases h; done) | skip
    simp only [Bool.and_eq_true] at h
    obtain ⟨⟨h1, h2⟩, h3⟩ := h
    unfold wS
    exact ls_while hp.1 ((sE Γ c t X sc _ C hs h2 G).2 h1) (sSs Γ c b X sc gd _ C hp hs h3 G hG)
  | .brk => by
    intro X sc gd x C hp hs h G hG
    unfold kS at h
    split at h <;> first | (cases h; done) | skip
    unfold wS
    exact ls_brk
  | .cnt => by
    intro X sc gd x C hp hs h G hG
    unfold kS at h
    split at h <;> first | (cases h; done) | skip
    unfold wS
    exact ls_cnt
  | .pas => by
    intro X sc gd x C hp hs h G hG
    unfold kS at h
    split at h <;> first | (cases h; done) | skip
    unfold wS
    exact ls_pas ps_pass
  | .frz i n => by
    intro X sc gd x C hp hs h G hG
    unfold kS at h
    cases h
theorem sSs (Γ : Env) (c : Cfg) : ∀ ss : Ss, SSs Γ c ss
  | .nil => by
    intro X sc gd xs C hp hs h G hG
    unfold kSs at h
    split at h <;> first | (cases h; done) | skip
    unfold wSs
    exact ls_nil
  | .cons s ss => by
    intro X sc gd xs C hp hs h G hG
    unfold kSs at h
    rw [Bool.or_eq_true] at h
    rcases h with h | h
    · split at h <;> first | (cases h; done) | skip
      rename_i i n
      rw [Bool.and_eq_true, decide_eq_true_eq] at h
      simp only [wSs, wS]
      exact ls_frz (sSs Γ c ss X sc gd xs C hp hs h.2 G hG) (hG n h.1)
    · split at h <;> first | (cases h; done) | skip
      rw [Bool.and_eq_true] at h
      unfold wSs
      exact ls_cons (sS Γ c s X sc gd _ C hp hs h.1 G hG) (sSs Γ c ss X sc gd _ C hp hs h.2 G hG)
end
end Pl

namespace Pl
open PySem PySem.Spec PyProof.Rows L2

section
variable {G : Gh} {L : Loc} {Z : Hp} {η : Reg} {H : Hp}
theorem all_none (L : Loc) (n : Nat) : Loc.all (L ++ List.replicate n none) = L.all := by
  unfold Loc.all
  rw [List.flatMap_append]
  have : (List.replicate n (none : Option (Addr × List Addr))).flatMap cellsOf = [] := by
    induction n with
    | zero => rfl
    | succ n ih => rw [List.replicate_succ, List.flatMap_cons, ih]; rfl
  rw [this, List.append_nil]
theorem get_none {α : Type} {l : List (Option α)} {n m : Nat} {x : α} : (l ++ List.replicate n none)[m]? = some (some x) ↔ l[m]? = some (some x) := by
  by_cases h : m < l.length
  · rw [List.getElem?_append_left h]
  · rw [List.getElem?_append_right (by omega), List.getElem?_replicate, List.getElem?_eq_none (by omega)]
    split <;> simp
theorem SI.grow (S : SI G L Z η H) (n : Nat) : SI G (L ++ List.replicate n none) Z (η ++ List.replicate n none) H := by
  refine ⟨fun m a e => ?_, S.z0, S.zh, S.fh, S.zn, by rw [all_none]; exact S.nd, by rw [List.length_append, List.length_append, S.ln, List.length_replicate, List.length_replicate], fun m p e => ?_, fun m o e => ?_⟩
  · obtain ⟨ks, h⟩ := S.a0 m a e
    exact ⟨ks, get_none.mpr h⟩
  · obtain ⟨a, o, b, c⟩ := S.ow m p (get_none.mp e)
    exact ⟨a, o, get_none.mpr b, c⟩
  · obtain ⟨p, h⟩ := S.lv m o (get_none.mp e)
    exact ⟨p, get_none.mpr h⟩
theorem SI.shrink (S : SI G L Z η H) {n : Nat} (ha : ∀ m, n ≤ m → G.A0 m = none) : SI G (L.take n) Z (η.take n) H := by
  have gt : ∀ {α : Type} {l : List (Option α)} {m : Nat} {x : α}, (l.take n)[m]? = some (some x) → m < n ∧ l[m]? = some (some x) := fun {α l m x} e => by
    rw [List.getElem?_take] at e
    split at e
    · exact ⟨by assumption, e⟩
    · cases e
  refine ⟨fun m a e => ?_, S.z0, S.zh, S.fh, S.zn, ?_, by rw [List.length_take, List.length_take, S.ln], fun m p e => ?_, fun m o e => ?_⟩
  · obtain ⟨ks, h⟩ := S.a0 m a e
    have hm : m < n := by
      by_cases q : m < n
      · exact q
      · rw [ha m (by omega)] at e; cases e
    exact ⟨ks, by rw [List.getElem?_take, if_pos hm]; exact h⟩
  · have nd := all_nodup.mp S.nd
    exact all_nodup.mpr ⟨fun x hx => nd.1 x (List.mem_of_mem_take hx), List.Pairwise.sublist (List.take_sublist n L) nd.2⟩
  · obtain ⟨hm, e⟩ := gt e
    obtain ⟨a, o, b, c⟩ := S.ow m p e
    exact ⟨a, o, by rw [List.getElem?_take, if_pos hm]; exact b, c⟩
  · obtain ⟨hm, e⟩ := gt e
    obtain ⟨p, h⟩ := S.lv m o e
    exact ⟨p, by rw [List.getElem?_take, if_pos hm]; exact h⟩
theorem outs_take : ∀ {n : Nat} {η : Reg} {os : List Ob}, outs n η = some os → η.take n = os.map some ∧ os.length = n
  | 0, _, _, h => by
    cases h
    exact ⟨rfl, rfl⟩
  | n + 1, [], _, h => by cases h
  | n + 1, none :: r, _, h => by cases h
  | n + 1, some o :: r, _, h => by
    unfold outs at h
    cases e : outs n r with
    | none => rw [e] at h; cases h
    | some os =>
      rw [e] at h
      cases h
      obtain ⟨a, b⟩ := outs_take e
      exact ⟨by rw [List.take_succ_cons, a]; rfl, by rw [List.length_cons, b]⟩
theorem take_all {L : Loc} {n : Nat} {b : Addr} (h : b ∈ Loc.all (L.take n)) : b ∈ L.all := by
  unfold Loc.all at h ⊢
  obtain ⟨x, hx, hb⟩ := List.mem_flatMap.mp h
  exact List.mem_flatMap.mpr ⟨x, List.mem_of_mem_take hx, hb⟩
theorem start_ss {N : List Str} : ∀ {xs : List V} {vs : List Vl} (n k : Nat), RepVs G L Z H xs vs → SS (L ++ List.replicate n none) Z (xs.map some ++ List.replicate k none) (vs.map some ++ List.replicate k none)
  | _, _, n, k, .nil => by
    induction k with
    | zero => exact .nil
    | succ k ih => exact .cons trivial ih
  | _, _, n, k, .cons r t => by
    refine .cons ?_ (start_ss (N := N) n k t)
    rename_i x v _ _
    cases v with
    | dat d => exact ⟨x, rfl, r.1⟩
    | ptr m =>
      obtain ⟨a, ks, h1, rfl⟩ := r.1
      exact ⟨a, ks, get_none.mpr h1, rfl⟩
    | fr o => exact absurd rfl (r.2 o)
end

/-! ## defs -/
/-- the slots of a def: its parameters first -/
def scK (N ps : List Str) (sc : Scope) : Bool := decide (sc.kind = .function) && decide (sc.isCoroutine = false) && decide (sc.isGenerator = false) && decide N.Nodup && decide (N.take ps.length = ps) && ps.all (setC sc) && sc.names.all fun y => decide (y.2 ≠ .free)
theorem scK_by {N ps : List Str} {sc : Scope} (h : scK N ps sc = true) : FnScope N ps sc := by
  unfold scK at h
  simp only [Bool.and_eq_true, decide_eq_true_eq, List.all_eq_true] at h
  obtain ⟨⟨⟨⟨⟨⟨a, b⟩, c⟩, d⟩, e⟩, f⟩, g⟩ := h
  exact ⟨a, b, c, d, e, fun x hx => by
    have := f x hx
    unfold setC at this
    rwa [Bool.or_eq_true, decide_eq_true_eq, decide_eq_true_eq] at this, g⟩
/-- a def's promise, known -/
structure Kn (P : Program) (w : World) (K : PySem.W.Frag) (mg : Str → Option Value) (base : Heap) (k : Nat) (x : Str) (sp : PSpec) : Prop where
  ex : (∃ (f : Addr) (fd : FuncData) (ps : List Str), mg x = some (.ref f) ∧ PySem.W.keepIn K (.ref f) = true ∧ FnOk P w K mg base CX0 k f fd ps (liftSp sp) ∧ Binds K fd ps []) ∨
    ∃ id : String, mg x = some (.builtin id) ∧ (∀ Y : Cx, CallR Y (.builtin id) fun xs H Q => liftSp sp xs H Q E0) ∧ ∀ obs Q, ¬ sp [] obs Q
theorem Kn.mono {P : Program} {w : World} {K : PySem.W.Frag} {mg : Str → Option Value} {base : Heap} {j k : Nat} {x : Str} {sp : PSpec} (h : Kn P w K mg base j x sp) (hk : j ≤ k) : Kn P w K mg base k x sp := by
  rcases h.ex with ⟨f, fd, ps, a, b, c, d⟩ | h
  · exact ⟨.inl ⟨f, fd, ps, a, b, c.mono hk, d⟩⟩
  · exact ⟨.inr h⟩
theorem Kn.into {X : Cx} {k : Nat} {x : Str} {sp : PSpec} (h : Kn X.prog X.w X.K X.mg X.base k x sp) (hr : Room k X.A) : FnIn X x sp := by
  rcases h.ex with ⟨f, fd, ps, a, b, c, d⟩ | h
  · exact ⟨.inl ⟨f, k, fd, ps, a, b, c, d, hr⟩⟩
  · exact ⟨.inr h⟩
structure Mg (mg : Str → Option Value) (cs : List (Str × D)) : Prop where
  blt : ∀ x ∈ bltNames, mg x = none
  cs : ∀ (x : Str) (d : D), (x, d) ∈ cs → ∃ u v, mg x = some u ∧ RelV v u ∧ ∀ H : Hp, Rp H v d
theorem start_eq (N : List Str) (xs : List V) : start N xs = xs.map some ++ List.replicate (N.length - xs.length) none := rfl
section
variable {P : Program} {w : World} {K : PySem.W.Frag} {mg : Str → Option Value} {base : Heap}
theorem def_oks {x : Str} {st : Stmt} {f : Addr} {fd : FuncData} {N ps : List Str} {cs : List (Str × D)} {Γ : Env} {body : Ss} {k n : Nat} (nps : List Nat) {sp : PSpec} (F : Fun K x x st f fd) (mgf : mg x = some (.ref f)) (b : Binds K fd ps []) (M : Mg mg cs)
    (S : scK N ps (defScope st) = true) (hb : ∀ np ∈ nps, kSs ⟨N, Γ.map (·.1), cs⟩ (defScope st) (List.range np) body (defBody st) = true)
    (hΓ : ∀ p ∈ Γ, Kn P w K mg base k p.1 p.2) (hsp : ∀ vs obs Q, sp vs obs Q → vs.length = ps.length ∧ obs.length ∈ nps ∧ wFn Γ body N.length n vs obs Q) : Kn P w K mg base (k + 1) x sp := by
  have Sc := scK_by S
  refine ⟨.inl ⟨f, fd, ps, mgf, F.kp, F.ok (N := N) Sc ?_ ?_, b⟩⟩
  · rintro xs H Q _ ⟨G, L, Z, obs, vs, Qp, h1, h2, S, r, hs, k⟩
    rw [← (hsp _ _ _ hs).1]
    exact r.length
  · rintro cdv A outer s H xs Q E hr ⟨G, L, Z, obs, vs, Qp, h1, h2, SIn, r, hs, hk⟩
    obtain ⟨hl, hn, hw⟩ := hsp _ _ _ hs
    have C : XC (cxOf CX0 P w K mg base N x (defScope st) f cdv A outer s H E).nox ⟨N, Γ.map (·.1), cs⟩ Γ :=
      ⟨rfl, Sc.nd, rfl, by
        have := hr.un
        show (A.deeper (envOfC x (defScope st) s.heap.objs.size f cdv)).units + 64 < cLine
        omega, Sc.kind, rfl, fun i p e => (hΓ p (List.mem_of_getElem? e)).into (X := (cxOf CX0 P w K mg base N x (defScope st) f cdv A outer s H E).nox) hr, M.blt, M.cs⟩
    have hb := hb _ hn
    have hG : Gd G (List.range obs.length) := fun m hm => h1 m (by rw [List.mem_range] at hm; exact Nat.le_of_not_lt hm)
    refine ⟨_, sSs Γ ⟨N, Γ.map (·.1), cs⟩ body _ (defScope st) (List.range obs.length) _ C ⟨PassesOwn.never, fun _ => rfl⟩ rfl hb G hG, ?_⟩
    rw [start_eq]
    have hxl : xs.length = vs.length := r.length
    rw [hxl]
    refine ⟨_, _, _, _, _, SIn.grow n, start_ss (N := N) n _ r, hw, ?_⟩
    have back : ∀ {L' : Loc} {Z' : Hp} {η' : Reg} {H' : Hp} {x : V} {v : Vl} {os : List Ob}, SI G L' Z' η' H' → RepV G L' Z' H' x v → v.noPtr → outs obs.length η' = some os → Qp v os → Q x H' := by
      intro L' Z' η' H' x v os S' rv hv ho q
      obtain ⟨e1, e2⟩ := outs_take ho
      have S2 := S'.shrink (n := obs.length) h1
      rw [e1] at S2
      refine hk x v _ _ os H' S2 e2 ?_ hv q
      cases v with
      | dat d => exact rv
      | ptr n => exact False.elim hv
      | fr o =>
        obtain ⟨a, ks, rfl, ro, hf⟩ := rv
        exact ⟨a, ks, rfl, ro, fun b hb => ⟨(hf b hb).1, (hf b hb).2.1, fun hm => (hf b hb).2.2 (take_all hm)⟩⟩
    refine ⟨fun σ' H' ρ' L' Z' η' S' s' q => ?_, fun x v L' Z' η' H' S' rv q => ?_, fun _ _ _ _ _ _ _ _ q => False.elim q, fun _ _ _ _ _ _ _ _ q => False.elim q⟩
    · have q : (match outs obs.length η' with
        | some os => Qp (.dat .none) os
        | none => False) := q
      cases ho : outs obs.length η' with
      | none => rw [ho] at q; exact False.elim q
      | some os =>
        rw [ho] at q
        exact back S' (x := .non) (v := .dat .none) (show Rp Z' .non .none from .non) trivial ho q
    · have q : (match outs obs.length η' with
        | some os => v.noPtr ∧ Qp v os
        | none => False) := q
      cases ho : outs obs.length η' with
      | none => rw [ho] at q; exact False.elim q
      | some os =>
        rw [ho] at q
        exact back S' rv q.1 ho q.2
theorem def_ok {x : Str} {st : Stmt} {f : Addr} {fd : FuncData} {N ps : List Str} {cs : List (Str × D)} {Γ : Env} {body : Ss} {k np n : Nat} {sp : PSpec} (F : Fun K x x st f fd) (mgf : mg x = some (.ref f)) (b : Binds K fd ps []) (M : Mg mg cs)
    (S : scK N ps (defScope st) = true) (hb : kSs ⟨N, Γ.map (·.1), cs⟩ (defScope st) (List.range np) body (defBody st) = true)
    (hΓ : ∀ p ∈ Γ, Kn P w K mg base k p.1 p.2) (hsp : ∀ vs obs Q, sp vs obs Q → vs.length = ps.length ∧ obs.length = np ∧ wFn Γ body N.length n vs obs Q) : Kn P w K mg base (k + 1) x sp :=
  def_oks (n := n) [np] F mgf b M S (fun p hp => by rw [List.mem_singleton.mp hp]; exact hb) hΓ fun vs obs Q h => let ⟨a, b, c⟩ := hsp vs obs Q h; ⟨a, by rw [b]; exact List.mem_singleton.mpr rfl, c⟩
end
end Pl

namespace Pl
open PySem PySem.Spec PyProof.Rows L2

/-! ## how every law begins -/
def bScope (st : Stmt) : Bool := match defBody st with
  | [.Return (some (.List [.ListComp (.Call (.Name f _) [.Name x _] [] _) [⟨.Name y _, .Name z _, [], 0⟩] scope _, .Constant (.int i1) _ _, .Constant (.int i2) _ _, .Constant (.int i3) _ _, .Constant (.int i4) _ _] _)) _] =>
    decide (f = "int") && decide (x = "cell") && decide (y = "cell") && decide (z = "script") && decide (i1 = 0) && decide (i2 = 0) && decide (i3 = 7) && decide (i4 = 3) &&
      blkC ["script", "cell"] (defScope st) scope (ownP ["script", "cell"] [1]) && locC (relS scope (defScope st)) "cell" && glb (relS scope (defScope st)) "int" && locC (defScope st) "script"
  | _ => false
theorem int_at {ns : List Int} {i : Nat} {v : V} (h : (ns.map V.int)[i]? = some v) : ∃ n, ns[i]? = some n ∧ v = .int n := by
  rw [List.getElem?_map] at h
  cases e : ns[i]? with
  | none => rw [e] at h; cases h
  | some n => rw [e] at h; exact ⟨n, rfl, (Option.some.inj h).symm⟩
/-- what it makes: the cells, and the stand of the draw -/
def spBeg (K : PySem.W.Frag) : Sp := fun vs H Q _ => ∃ (a : Addr) (ns : List Int), vs = [.ref a] ∧ SqL K H a (ns.map V.int) ∧ ns.length ≤ 63 ∧
  ∀ c p H', H' c = some (.lst (ns.map V.int)) → H' p = some (.lst [.ref c, .int 0, .int 0, .int 7, .int 3]) → c ≠ p → Q (.ref p) H'
section
variable {P : Program} {w : World} {K : PySem.W.Frag} {mg : Str → Option Value} {base : Heap}
theorem SqL.upd {H : Hp} {a p : Addr} {o : HO} {xs : List V} (h : SqL K H a xs) (hp : H p = none) : SqL K (L2.upd H p o) a xs := by
  rcases h with h | h
  · exact .inl ((Sub.upd hp).rd h)
  · exact .inr h
theorem beg_ok {f : Addr} {fd : FuncData} {st : Stmt} {k : Nat} (F : Fun K "_law_begin" "_law_begin" st f fd) (S : scK ["script", "cell"] ["script"] (defScope st) = true) (hb : bScope st = true) (M : mg "int" = none) :
    FnOk P w K mg base CX0 (k + 1) f fd ["script"] (spBeg K) := by
  have Sc := scK_by S
  refine F.ok (N := ["script", "cell"]) Sc (fun vs H Q E h => ?_) (fun cdv A outer s H vs Q E hr h => ?_)
  · obtain ⟨a, ns, rfl, _⟩ := h
    rfl
  · obtain ⟨a, ns, rfl, hS, hl, q⟩ := h
    unfold bScope at hb
    split at hb <;> first | (cases hb; done) | skip
    rename_i f0 p1 x p2 p3 y p4 z p5 scope p6 i1 k1 q1 i2 k2 q2 i3 k3 q3 i4 k4 q4 p7 p8 hbody
    simp only [Bool.and_eq_true, decide_eq_true_eq] at hb
    obtain ⟨⟨⟨⟨⟨⟨⟨⟨⟨⟨⟨rfl, rfl⟩, rfl⟩, rfl⟩, rfl⟩, rfl⟩, rfl⟩, rfl⟩, b1⟩, b2⟩, b3⟩, b4⟩ := hb
    rw [hbody]
    generalize hX : (cxOf CX0 P w K mg base ["script", "cell"] "_law_begin" (defScope st) f cdv A outer s H E).nox = X
    have XN : X.N = (["script", "cell"] : List Str) := by rw [← hX]; rfl
    have Xc : X.calm = true := by rw [← hX]; rfl
    have Xs : X.env.scope = defScope st := by rw [← hX]; rfl
    have Xm : X.mg = mg := by rw [← hX]; rfl
    have XK : X.K = K := by rw [← hX]; rfl
    have nd : X.N.Nodup := by rw [XN]; decide +kernel
    have ok : BlkOk X.N X.env.scope scope (ownP (["script", "cell"] : List Str) [1]) := by rw [XN, Xs]; exact blkOk_by b1
    have vS : Vis X.env.scope "script" := by rw [Xs]; exact .inl (of_decide_eq_true b4)
    have inner : ∀ (s : Shared) (H : Hp) (C : Addr) (cl : List (Str × Addr)) (fp : List Addr), ((X.blk s H scope (compEnvC scope cl C X.env) fp).env.scope) = relS scope (defScope st) := fun s H C cl fp => blk_scope Xs
    have hN1 : X.N[1]? = some ("cell" : Str) := by rw [XN]; rfl
    have hN0 : X.N[0]? = some ("script" : Str) := by rw [XN]; rfl
    refine ⟨_, pss_one (ps_ret (pe_lst (pa_cons (pe_lc (g := gName 1) (tt := tYes) (te := tCB (fun xs H Q => (∃ i, xs = [.int i] ∧ Q (.int i) H) ∨ ∃ k, xs = [.bl k] ∧ Q (.int (if k then 1 else 0)) H) (tCons (tVar 1) tNil)) Xc nd (pi_list (pe_var hN0 vS (by decide +kernel) (by decide +kernel))) ok
      (fun s H C cl fp => ?g) (fun s H C cl fp => pts_nil) (fun s H C cl fp => ?e)) (pa_cons pe_int (pa_cons pe_int (pa_cons pe_int (pa_cons pe_int pa_nil)))) rfl))), ?w⟩
    case g =>
      have hl : (X.blk s H scope (compEnvC scope cl C X.env) fp).env.scope.names.lookup ("cell" : Str) = some .local := by rw [inner]; exact of_decide_eq_true b2
      exact pg_name (X := X.blk s H scope (compEnvC scope cl C X.env) fp) nd hN1 (.inl hl) (.inr hl)
    case e =>
      have hl : (X.blk s H scope (compEnvC scope cl C X.env) fp).env.scope.names.lookup ("cell" : Str) = some .local := by rw [inner]; exact of_decide_eq_true b2
      obtain ⟨g, hd, hn⟩ := glb_by (X := X.blk s H scope (compEnvC scope cl C X.env) fp) b3 (inner s H C cl fp)
      exact pe_callTy (X := X.blk s H scope (compEnvC scope cl C X.env) fp) call_int1 g (by show X.mg "int" = none; rw [Xm]; exact M) boot_int (pa_cons (pe_var (X := X.blk s H scope (compEnvC scope cl C X.env) fp) hN1 (.inl hl) (by decide +kernel) (by decide +kernel)) pa_nil rfl) hn hd rfl rfl
    case w =>
      rw [XK]
      refine ⟨.ref a, rfl, a, rfl, ⟨_, hS⟩, fun c hc => ?_⟩
      refine lc_list (xs := ns.map V.int) (fun i H2 => H2 = upd H c (.lst ((ns.take i).map V.int))) (by rw [List.take_zero]; rfl) (fun i H2 _ e => by subst e; exact SqL.upd hS hc) ?_ ?_
      · intro i v H2 hv e
        subst H2
        obtain ⟨n, hn, rfl⟩ := int_at hv
        refine ⟨rfl, ?_⟩
        unfold tYes
        dsimp only
        rw [if_pos rfl]
        refine ⟨.int n, rfl, .inl ⟨n, rfl, ?_⟩⟩
        have hlt := (List.getElem?_eq_some_iff.mp hn).1
        refine ⟨_, upd_same, ?_, ?_⟩
        · rw [List.length_map, List.length_take]
          exact Nat.lt_of_le_of_lt (Nat.min_le_right _ _) (small1000 (by omega))
        · rw [upd_upd, List.take_add_one, hn, List.map_append]
          rfl
      · intro H2 e
        subst H2
        rw [List.length_map, List.take_length]
        show (5 : Nat) ≤ sizeLine ∧ _
        refine ⟨by decide, fun p hp => ?_⟩
        have hcp : c ≠ p := fun z => by rw [z, upd_same] at hp; cases hp
        exact q c p _ (by rw [upd_ne hcp, upd_same]) upd_same hcp
/-- a law's promise -/
def spLaw (K : PySem.W.Frag) : Sp := fun vs H Q _ => ∃ (a : Addr) (ns : List Int), vs = [.ref a] ∧ SqL K H a (ns.map V.int) ∧ ns.length ≤ 63 ∧ ∀ H', Q (.bl true) H'
/-- the first line of a law, and the others -/
def kLaw (c : Cfg) (sc : Scope) (body : Ss) : List Stmt → Bool
  | .Assign [.Name x _] (.Call (.Name b _) [.Name z _] [] _) _ :: rest => decide (x = "d") && decide (b = "_law_begin") && decide (z = "script") && c.at 0 "script" && c.at 1 "d" && locC sc "script" && setC sc "d" && glb sc "_law_begin" && kSs c sc [] body rest
  | _ => false
def cellsD (cells : List Int) : D := .list (cells.map .int)
def stand (cells : List Int) : Ob := .lst [cellsD cells, .int 0, .int 0, .int 7, .int 3]
def lawW (Γ : Env) (body : Ss) (m n : Nat) : Prop := ∀ cells : List Int, cells.length ≤ 63 →
  wSs Γ body ⟨fun _ _ => False, fun v _ => v = .dat (.bool true), fun _ _ => False, fun _ _ => False⟩ (none :: some (.ptr 0) :: List.replicate m none) (some (stand cells) :: List.replicate n none)
theorem ints_rp {Z : Hp} : ∀ ns : List Int, RpAll Z (ns.map V.int) (ns.map PyData.int)
  | [] => .nil
  | n :: ns => .cons (.int n) (ints_rp ns)
theorem law_ok {f fB : Addr} {fd fdB : FuncData} {st : Stmt} {N : List Str} {cs : List (Str × D)} {Γ : Env} {body : Ss} {k n m : Nat} (F : Fun K "law" "law" st f fd) (B : FnOk P w K mg base CX0 k fB fdB ["script"] (spBeg K)) (mgB : mg "_law_begin" = some (.ref fB))
    (kB : PySem.W.keepIn K (.ref fB) = true) (bB : Binds K fdB ["script"] []) (M : Mg mg cs) (S : scK N ["script"] (defScope st) = true) (hm : N.length = m + 2) (hb : kLaw ⟨N, Γ.map (·.1), cs⟩ (defScope st) body (defBody st) = true)
    (hΓ : ∀ p ∈ Γ, Kn P w K mg base k p.1 p.2) (hw : lawW Γ body m n) : FnOk P w K mg base CX0 (k + 1) f fd ["script"] (spLaw K) := by
  have Sc := scK_by S
  refine F.ok (N := N) Sc (fun vs H Q E h => ?_) (fun cdv A outer s H vs Q E hr h => ?_)
  · obtain ⟨a, ns, rfl, _⟩ := h
    rfl
  · obtain ⟨a, ns, rfl, hS, hl, q⟩ := h
    unfold kLaw at hb
    split at hb <;> first | (cases hb; done) | skip
    rename_i x p1 b p2 z p3 p4 p5 rest hbody
    simp only [Bool.and_eq_true, decide_eq_true_eq] at hb
    obtain ⟨⟨⟨⟨⟨⟨⟨⟨rfl, rfl⟩, rfl⟩, b0⟩, b1⟩, b2⟩, b3⟩, b4⟩, b5⟩ := hb
    rw [hbody]
    have C : XC (cxOf CX0 P w K mg base N "law" (defScope st) f cdv A outer s H E).nox ⟨N, Γ.map (·.1), cs⟩ Γ :=
      ⟨rfl, Sc.nd, rfl, by
        have := hr.un
        show (A.deeper (envOfC "law" (defScope st) s.heap.objs.size f cdv)).units + 64 < cLine
        omega, Sc.kind, rfl, fun i p e => (hΓ p (List.mem_of_getElem? e)).into (X := (cxOf CX0 P w K mg base N "law" (defScope st) f cdv A outer s H E).nox) hr, M.blt, M.cs⟩
    have hlS := loc_by (X := (cxOf CX0 P w K mg base N "law" (defScope st) f cdv A outer s H E).nox) b2 rfl
    have hlD := okset_def (X := (cxOf CX0 P w K mg base N "law" (defScope st) f cdv A outer s H E).nox) rfl (fun _ => rfl) _ b3
    obtain ⟨g, hd, _⟩ := glb_by (X := (cxOf CX0 P w K mg base N "law" (defScope st) f cdv A outer s H E).nox) b4 rfl
    let G : Gh := ⟨fun _ => none, fun _ => none, fun _ => none⟩
    have hG : Gd G [] := fun _ _ => rfl
    refine ⟨_, pss_cons (ps_set (i := 1) C.nd (at_by C b1) hlD.1 (pe_call B hr g mgB kB bB .nil pass0 (pa_cons (pe_var (at_by C b0) (.inl hlS) (by decide +kernel) (by decide +kernel)) pa_nil rfl) hd rfl rfl) rfl hlD.2)
      (sSs Γ ⟨N, Γ.map (·.1), cs⟩ body _ (defScope st) [] _ C ⟨PassesOwn.never, fun _ => rfl⟩ rfl b5 G hG), ?_⟩
    refine ⟨.ref a, rfl, a, ns, rfl, hS, hl, fun c p H' hc hp hcp => ?_⟩
    rw [start_eq, hm]
    refine ⟨none :: some (.ptr 0) :: List.replicate m none, some (p, []) :: List.replicate n none, fun x => if x = c then some (.lst (ns.map V.int)) else none, some (stand ns) :: List.replicate n none, _, ?_, ?_, hw ns hl, ?_⟩
    · have zc : (fun x => if x = c then some (HO.lst (ns.map V.int)) else none) c = some (HO.lst (ns.map V.int)) := if_pos rfl
      have alone : SI G [some (p, [])] (fun x => if x = c then some (.lst (ns.map V.int)) else none) [some (stand ns)] H' := by
        refine ⟨fun n a e => (nomatch e), fun a o e => (nomatch e), fun x o e => ?_, fun a o e => (nomatch e), fun _ _ _ => rfl, by simp [Loc.all, cellsOf], rfl, fun i q e => ?_, fun i o e => ?_⟩
        · by_cases hx : x = c
          · subst hx
            rw [if_pos rfl] at e
            cases e
            exact hc
          · rw [if_neg hx] at e; cases e
        · cases i with
          | succ i => simp at e
          | zero =>
            simp at e
            subst e
            refine ⟨fun b hb => ⟨?_, rfl⟩, _, rfl, rfl, _, hp, ?_⟩
            · rw [List.mem_singleton] at hb
              subst hb
              exact if_neg (fun z => hcp z.symm)
            · exact .cons (.lst (.inl zc) (ints_rp ns)) (.cons (.int 0) (.cons (.int 0) (.cons (.int 7) (.cons (.int 3) .nil))))
        · cases i with
          | succ i => simp at e
          | zero => exact ⟨_, rfl⟩
      exact alone.grow n
    · have e : ([.ref a] : List V).map some ++ List.replicate (m + 2 - ([.ref a] : List V).length) none = some (.ref a) :: none :: List.replicate m none := by
        show some (V.ref a) :: List.replicate (m + 2 - 1) none = _
        rw [show m + 2 - 1 = m + 1 from rfl, List.replicate_succ]
      rw [e]
      refine .cons trivial (.cons ⟨p, [], rfl, rfl⟩ ?_)
      have : ∀ j : Nat, SS (some (p, []) :: List.replicate n none) (fun x => if x = c then some (HO.lst (ns.map V.int)) else none) (List.replicate j none) (List.replicate j none) := fun j => by
        induction j with
        | zero => exact .nil
        | succ j ih => exact .cons trivial ih
      exact this m
    · refine ⟨fun _ _ _ _ _ _ _ _ q => False.elim q, fun x v L' Z' η' H' S' rv e => ?_, fun _ _ _ _ _ _ _ _ q => False.elim q, fun _ _ _ _ _ _ _ _ q => False.elim q⟩
      have e : v = .dat (.bool true) := e
      subst e
      have rv : Rp Z' x (.bool true) := rv
      rw [rv.bl_inv]
      exact q H'
end
end Pl

namespace Pl
open PySem PySem.Spec PyProof.Rows L2

/-! ## reading a def -/
theorem fz_dat (d : D) : Vl.fz (.dat d) = .dat d := rfl
theorem fz_ptr (n : Nat) : Vl.fz (.ptr n) = .ptr n := rfl
theorem fz_fr (ds : List D) : Vl.fz (.fr (.lst ds)) = .dat (.list ds) := rfl
theorem onD_dat (d : D) (Q : D → Prop) : Vl.onD (.dat d) Q = Q d := rfl
theorem onView_dat (d : D) (η : Reg) (Q : D → Prop) : onView (.dat d) η Q = Q d := rfl
theorem onView_ptr {n : Nat} {η : Reg} {ds : List D} (h : η[n]? = some (some (.lst ds))) (Q : D → Prop) : onView (.ptr n) η Q = Q (.list ds) := by
  unfold onView Vl.view
  dsimp only
  rw [h]
theorem settled_dat (d : D) : Vl.settled (.dat d) = True := rfl
theorem settled_ptr (n : Nat) : Vl.settled (.ptr n) = True := rfl
/-- a test's result, decided by cases -/
theorem ite_of {p : Bool} {A B : Prop} (h1 : p = true → A) (h2 : p = false → B) : if p = true then A else B := by
  cases p with
  | true => rw [if_pos rfl]; exact h1 rfl
  | false => rw [if_neg Bool.false_ne_true]; exact h2 rfl
theorem ite_dec {p : Prop} [Decidable p] {A B : Prop} (h1 : p → A) (h2 : ¬ p → B) : if decide p = true then A else B := ite_of (fun e => h1 (of_decide_eq_true e)) (fun e => h2 (of_decide_eq_false e))
theorem atI_nat {α : Type} {xs : List α} {j : Nat} {d : α} (h : xs[j]? = some d) : atI xs (j : Nat) = some d := by
  have hl := (List.getElem?_eq_some_iff.mp h).1
  unfold atI ixN
  rw [if_pos (by omega), if_pos (by omega)]
  exact h
theorem atI_pos {α : Type} {xs : List α} {i : Int} (h0 : 0 ≤ i) (h1 : i < xs.length) : ∃ d, xs[i.toNat]? = some d ∧ atI xs i = some d := by
  obtain ⟨j, rfl⟩ := Int.eq_ofNat_of_zero_le h0
  have hl : j < xs.length := by omega
  exact ⟨xs[j], List.getElem?_eq_getElem hl, atI_nat (List.getElem?_eq_getElem hl)⟩
/-! calls -/
theorem callN_at {Γ : Env} {f : Nat} {n : Str} {sp : PSpec} (h : Γ[f]? = some (n, sp)) (vs : List Vl) (η : Reg) (Q : Vl → Reg → Prop) : callN Γ f vs η Q = callW sp vs η Q := by
  unfold callN
  rw [h]
/-- a call that hands on no register -/
theorem call_pure {sp : PSpec} {vs : List Vl} {η : Reg} {Q : Vl → Reg → Prop} (hv : regsOf vs = []) (hr : renum 0 vs = vs) (h : sp vs [] fun v os => os.length = 0 ∧ v.noPtr ∧ Q v η) : callW sp vs η Q := by
  refine ⟨by rw [hv]; exact List.nodup_nil, ?_⟩
  rw [hv, hr]
  exact h
/-- .. one register -/
theorem call_one {sp : PSpec} {vs : List Vl} {η : Reg} {Q : Vl → Reg → Prop} {n : Nat} {o : Ob} (hv : regsOf vs = [n]) (ho : η[n]? = some (some o)) (h : sp (renum 0 vs) [o] fun v os => ∃ o', os = [o'] ∧ v.noPtr ∧ Q v (η.set n (some o'))) (hm : ∀ (vs : List Vl) (os : List Ob) (A B : Vl → List Ob → Prop), (∀ v os, A v os → B v os) → sp vs os A → sp vs os B) : callW sp vs η Q := by
  refine ⟨by rw [hv]; exact List.nodup_cons.mpr ⟨by simp, List.nodup_nil⟩, ?_⟩
  rw [hv]
  simp only [obsAt, ho]
  refine hm _ _ _ _ ?_ h
  rintro v os ⟨o', rfl, hv, q⟩
  exact ⟨rfl, hv, q⟩
/-! rows for simp -/
theorem r_add (i j : Int) (Q : Vl → Prop) : bopD .add (.int i) (.int j) Q = Q (.dat (.int (i + j))) := rfl
theorem r_adds (x y : Str) (Q : Vl → Prop) : bopD .add (.str x) (.str y) Q = (x.length + y.length ≤ sizeLine ∧ Q (.dat (.str (x ++ y)))) := rfl
theorem r_addt (xs ys : List D) (Q : Vl → Prop) : bopD .add (.tuple xs) (.tuple ys) Q = (xs.length + ys.length ≤ sizeLine ∧ Q (.dat (.tuple (xs ++ ys)))) := rfl
theorem r_addl (xs ys : List D) (Q : Vl → Prop) : bopD .add (.list xs) (.list ys) Q = (xs.length + ys.length ≤ sizeLine ∧ Q (.fr (.lst (xs ++ ys)))) := rfl
theorem r_sub (i j : Int) (Q : Vl → Prop) : bopD .sub (.int i) (.int j) Q = Q (.dat (.int (i - j))) := rfl
theorem r_mul (i j : Int) (Q : Vl → Prop) : bopD .mul (.int i) (.int j) Q = (MulOk i j ∧ Q (.dat (.int (i * j)))) := rfl
theorem r_mull (xs : List D) (k : Int) (Q : Vl → Prop) : bopD .mul (.list xs) (.int k) Q = ((-(2 ^ 63) ≤ k ∧ k < 2 ^ 63 ∧ xs.length * k.toNat ≤ sizeLine) ∧ Q (.fr (.lst (List.replicate k.toNat xs).flatten))) := rfl
theorem r_mult (xs : List D) (k : Int) (Q : Vl → Prop) : bopD .mul (.tuple xs) (.int k) Q = ((xs ≠ [] ∧ 0 ≤ k ∧ k ≤ 1000 ∧ xs.length ≤ 1000) ∧ Q (.dat (.tuple (List.replicate k.toNat xs).flatten))) := rfl
theorem r_fdiv (i j : Int) (Q : Vl → Prop) : bopD .fdiv (.int i) (.int j) Q = ((0 < j ∧ DivOk i j) ∧ Q (.dat (.int (i / j)))) := rfl
theorem r_mod (i j : Int) (Q : Vl → Prop) : bopD .mod (.int i) (.int j) Q = (0 < j ∧ Q (.dat (.int (i % j)))) := rfl
theorem r_pow (i j : Int) (Q : Vl → Prop) : bopD .pow (.int i) (.int j) Q = ((0 ≤ j ∧ j ≤ 1000000 ∧ i.natAbs < 2 ^ 64) ∧ Q (.dat (.int (i ^ j.toNat)))) := rfl
theorem r_band (i j : Int) (Q : Vl → Prop) : bopD .band (.int i) (.int j) Q = Q (.dat (.int (Builtin.bitAnd i j))) := rfl
theorem r_bor (i j : Int) (Q : Vl → Prop) : bopD .bor (.int i) (.int j) Q = Q (.dat (.int (Builtin.bitOr i j))) := rfl
theorem r_bxor (i j : Int) (Q : Vl → Prop) : bopD .bxor (.int i) (.int j) Q = Q (.dat (.int (Builtin.bitXor i j))) := rfl
theorem r_shl (i j : Int) (Q : Vl → Prop) : bopD .shl (.int i) (.int j) Q = (ShOk i j ∧ Q (.dat (.int (i * 2 ^ j.toNat)))) := rfl
theorem r_shr (i j : Int) (Q : Vl → Prop) : bopD .shr (.int i) (.int j) Q = (0 ≤ j ∧ Q (.dat (.int (i / 2 ^ j.toNat)))) := rfl
theorem r_lt (i j : Int) (Q : Bool → Prop) : cmpD .lt (.int i) (.int j) Q = Q (decide (i < j)) := rfl
theorem r_le (i j : Int) (Q : Bool → Prop) : cmpD .le (.int i) (.int j) Q = Q (decide (i ≤ j)) := rfl
theorem r_gt (i j : Int) (Q : Bool → Prop) : cmpD .gt (.int i) (.int j) Q = Q (decide (j < i)) := rfl
theorem r_ge (i j : Int) (Q : Bool → Prop) : cmpD .ge (.int i) (.int j) Q = Q (decide (j ≤ i)) := rfl
theorem r_lts (x y : Str) (Q : Bool → Prop) : cmpD .lt (.str x) (.str y) Q = Q (decide (x.cps.toList < y.cps.toList)) := rfl
theorem r_eq (x y : D) (Q : Bool → Prop) : cmpD .eq x y Q = ((x.depth ≤ 60 ∨ y.depth ≤ 60) ∧ Q (PyData.eqv x y)) := rfl
theorem r_ne (x y : D) (Q : Bool → Prop) : cmpD .ne x y Q = ((x.depth ≤ 60 ∨ y.depth ≤ 60) ∧ Q (!PyData.eqv x y)) := rfl
theorem r_isin (x z : Str) (Q : Bool → Prop) : cmpD .isin (.str x) (.str z) Q = (∃ c : Nat, x = ⟨#[c]⟩ ∧ Q (decide (c ∈ z.cps.toList))) := rfl
theorem r_notin (x z : Str) (Q : Bool → Prop) : cmpD .notin (.str x) (.str z) Q = (∃ c : Nat, x = ⟨#[c]⟩ ∧ Q (!decide (c ∈ z.cps.toList))) := rfl
theorem r_isin_list (x : D) (ys : List D) (Q : Bool → Prop) : cmpD .isin x (.list ys) Q = ((PyData.depthAll ys ≤ 60 ∨ x.depth ≤ 60) ∧ Q (ys.any fun y => PyData.eqv y x)) := by cases x <;> rfl
theorem r_isin_tuple (x : D) (ys : List D) (Q : Bool → Prop) : cmpD .isin x (.tuple ys) Q = ((PyData.depthAll ys ≤ 60 ∨ x.depth ≤ 60) ∧ Q (ys.any fun y => PyData.eqv y x)) := by cases x <;> rfl
theorem r_notin_list (x : D) (ys : List D) (Q : Bool → Prop) : cmpD .notin x (.list ys) Q = ((PyData.depthAll ys ≤ 60 ∨ x.depth ≤ 60) ∧ Q (!ys.any fun y => PyData.eqv y x)) := by cases x <;> rfl
theorem r_notin_tuple (x : D) (ys : List D) (Q : Bool → Prop) : cmpD .notin x (.tuple ys) Q = ((PyData.depthAll ys ≤ 60 ∨ x.depth ≤ 60) ∧ Q (!ys.any fun y => PyData.eqv y x)) := by cases x <;> rfl
theorem r_isnone (x : D) (Q : Bool → Prop) : cmpD .isnone x .none Q = Q (isNone x) := rfl
theorem r_notnone (x : D) (Q : Bool → Prop) : cmpD .notnone x .none Q = Q (!isNone x) := rfl
theorem r_ixl (xs : List D) (i : Int) (Q : D → Prop) : idxD (.list xs) (.int i) Q = (∃ d, atI xs i = some d ∧ Q d) := rfl
theorem r_ixt (xs : List D) (i : Int) (Q : D → Prop) : idxD (.tuple xs) (.int i) Q = (∃ d, atI xs i = some d ∧ Q d) := rfl
theorem r_ixs (z : Str) (i : Int) (Q : D → Prop) : idxD (.str z) (.int i) Q = (z.length ≤ sizeLine ∧ ∃ c, atI z.cps.toList i = some c ∧ Q (.str ⟨#[c]⟩)) := rfl
theorem r_sll (xs : List D) (lo hi : Option Int) (Q : Vl → Prop) : sliD (.list xs) lo hi Q = Q (.fr (.lst (cutL xs lo hi))) := rfl
theorem r_slt (xs : List D) (lo hi : Option Int) (Q : Vl → Prop) : sliD (.tuple xs) lo hi Q = Q (.dat (.tuple (cutL xs lo hi))) := rfl
theorem r_sls (z : Str) (lo hi : Option Int) (Q : Vl → Prop) : sliD (.str z) lo hi Q = (z.length ≤ sizeLine ∧ Q (.dat (.str (cutS z lo hi)))) := rfl
theorem r_len (v : Vl) (η : Reg) (Q : Vl → Prop) : biW .len [v] η Q = lenOf v η fun n => Q (.dat (.int n)) := rfl
theorem r_int (i : Int) (η : Reg) (Q : Vl → Prop) : biW .int [.dat (.int i)] η Q = Q (.dat (.int i)) := rfl
theorem r_intb (b : Bool) (η : Reg) (Q : Vl → Prop) : biW .int [.dat (.bool b)] η Q = Q (.dat (.int (if b then 1 else 0))) := rfl
theorem r_abs (i : Int) (η : Reg) (Q : Vl → Prop) : biW .abs [.dat (.int i)] η Q = Q (.dat (.int (if i < 0 then -i else i))) := rfl
theorem r_min2 (i j : Int) (η : Reg) (Q : Vl → Prop) : biW .min2 [.dat (.int i), .dat (.int j)] η Q = Q (.dat (.int (if j < i then j else i))) := rfl
theorem r_max2 (i j : Int) (η : Reg) (Q : Vl → Prop) : biW .max2 [.dat (.int i), .dat (.int j)] η Q = Q (.dat (.int (if j > i then j else i))) := rfl
theorem r_sum (xs : List D) (η : Reg) (Q : Vl → Prop) : biW .sum [.dat (.list xs)] η Q = intsOf xs fun ns => Q (.dat (.int ns.sum)) := rfl
theorem r_min1 (xs : List D) (η : Reg) (Q : Vl → Prop) : biW .min1 [.dat (.list xs)] η Q = intsOf xs fun ns => 0 < ns.length ∧ ∀ m ∈ ns, (∀ y ∈ ns, m ≤ y) → Q (.dat (.int m)) := rfl
theorem r_max1 (xs : List D) (η : Reg) (Q : Vl → Prop) : biW .max1 [.dat (.list xs)] η Q = intsOf xs fun ns => 0 < ns.length ∧ ∀ m ∈ ns, (∀ y ∈ ns, y ≤ m) → Q (.dat (.int m)) := rfl
theorem r_all (xs : List D) (η : Reg) (Q : Vl → Prop) : biW .all [.dat (.list xs)] η Q = (∃ bs : List Bool, xs = bs.map PyData.bool ∧ Q (.dat (.bool (bs.all id)))) := rfl
theorem r_any (xs : List D) (η : Reg) (Q : Vl → Prop) : biW .any [.dat (.list xs)] η Q = (∃ bs : List Bool, xs = bs.map PyData.bool ∧ Q (.dat (.bool (bs.any id)))) := rfl
theorem r_list (xs : List D) (η : Reg) (Q : Vl → Prop) : biW .list [.dat (.list xs)] η Q = Q (.fr (.lst xs)) := rfl
theorem r_listt (xs : List D) (η : Reg) (Q : Vl → Prop) : biW .list [.dat (.tuple xs)] η Q = Q (.fr (.lst xs)) := rfl
theorem r_tup (xs : List D) (η : Reg) (Q : Vl → Prop) : biW .tuple [.dat (.list xs)] η Q = Q (.dat (.tuple xs)) := rfl
theorem r_tupt (xs : List D) (η : Reg) (Q : Vl → Prop) : biW .tuple [.dat (.tuple xs)] η Q = Q (.dat (.tuple xs)) := rfl
theorem r_tupv (v : Vl) (η : Reg) (Q : Vl → Prop) : biW .tuple [v] η Q = (onView v η fun | .list xs => Q (.dat (.tuple xs)) | .tuple xs => Q (.dat (.tuple xs)) | _ => False) := rfl
theorem r_rl1 (j : Int) (η : Reg) (Q : Vl → Prop) : biW .rlist1 [.dat (.int j)] η Q = (RgOk 0 j ∧ Q (.fr (.lst (rangeD 0 j.toNat)))) := rfl
theorem r_rl2 (i j : Int) (η : Reg) (Q : Vl → Prop) : biW .rlist2 [.dat (.int i), .dat (.int j)] η Q = (RgOk i j ∧ Q (.fr (.lst (rangeD i (j - i).toNat)))) := rfl
theorem r_rt1 (j : Int) (η : Reg) (Q : Vl → Prop) : biW .rtup1 [.dat (.int j)] η Q = (RgOk 0 j ∧ Q (.dat (.tuple (rangeD 0 j.toNat)))) := rfl
theorem r_rt2 (i j : Int) (η : Reg) (Q : Vl → Prop) : biW .rtup2 [.dat (.int i), .dat (.int j)] η Q = (RgOk i j ∧ Q (.dat (.tuple (rangeD i (j - i).toNat)))) := rfl
theorem r_sort (xs : List D) (η : Reg) (Q : Vl → Prop) : biW .sorted [.dat (.list xs)] η Q = ((PySem.W.AllAlike xs ∧ PySem.W.Sortable xs ∧ ∀ d ∈ xs, d.depth ≤ 50) ∧ Q (.fr (.lst (xs.mergeSort (PySem.W.dataLe false id))))) := rfl
theorem r_sortt (xs : List D) (η : Reg) (Q : Vl → Prop) : biW .sorted [.dat (.tuple xs)] η Q = ((PySem.W.AllAlike xs ∧ PySem.W.Sortable xs ∧ ∀ d ∈ xs, d.depth ≤ 50) ∧ Q (.fr (.lst (xs.mergeSort (PySem.W.dataLe false id))))) := rfl
theorem r_isi (T : String) (d : D) (η : Reg) (Q : Vl → Prop) : biW (.isi T) [.dat d] η Q = (∃ t b, some (tyD d) = some t ∧ kitB t T = some b ∧ Q (.dat (.bool b))) := rfl
theorem r_lenl (xs : List D) (η : Reg) (Q : Nat → Prop) : lenOf (.dat (.list xs)) η Q = Q xs.length := rfl
theorem r_lent (xs : List D) (η : Reg) (Q : Nat → Prop) : lenOf (.dat (.tuple xs)) η Q = Q xs.length := rfl
theorem r_lens (s : Str) (η : Reg) (Q : Nat → Prop) : lenOf (.dat (.str s)) η Q = (s.length ≤ sizeLine ∧ Q s.length) := rfl
theorem r_augi (i j : Int) (Q : D → Prop) : augD (.int i) (.int j) Q = Q (.int (i + j)) := rfl
theorem r_augs (x y : Str) (Q : D → Prop) : augD (.str x) (.str y) Q = (x.length + y.length ≤ sizeLine ∧ Q (.str (x ++ y))) := rfl
theorem r_bitl (i : Int) (η : Reg) (Q : Vl → Reg → Prop) : metW .bitlen (.dat (.int i)) [] η Q = Q (.dat (.int (Builtin.Int.intBits i : Nat))) η := rfl
theorem r_split (a b : Str) (η : Reg) (Q : Vl → Reg → Prop) : metW .split (.dat (.str a)) [.dat (.str b)] η Q = ((b.length == 0) = false ∧ a.length + 2 ≤ sizeLine ∧ Q (.fr (.lst ((Txt.split a b).map PyData.str))) η) := rfl
theorem r_wtg (i : Nat) (d : D) (ρ : Sl) (Q : Sl → Prop) : wTg (.one i) d ρ Q = Q (ρ.set i (some (.dat d))) := rfl
theorem r_wtgm (is : List Nat) (ds : List D) (ρ : Sl) (Q : Sl → Prop) : wTg (.many is) (.tuple ds) ρ Q = (is.length = ds.length ∧ Q (setMany ρ is ds)) := rfl
theorem r_at0 {α : Type} (a0 : α) (l : List α) : atI (a0 :: l) 0 = some a0 := by
  have : ((0 : Nat) : Int) = 0 := rfl
  rw [← this]
  exact atI_nat rfl
theorem r_at1 {α : Type} (a0 a1 : α) (l : List α) : atI (a0 :: a1 :: l) 1 = some a1 := by
  have : ((1 : Nat) : Int) = 1 := rfl
  rw [← this]
  exact atI_nat rfl
theorem r_at2 {α : Type} (a0 a1 a2 : α) (l : List α) : atI (a0 :: a1 :: a2 :: l) 2 = some a2 := by
  have : ((2 : Nat) : Int) = 2 := rfl
  rw [← this]
  exact atI_nat rfl
theorem r_at3 {α : Type} (a0 a1 a2 a3 : α) (l : List α) : atI (a0 :: a1 :: a2 :: a3 :: l) 3 = some a3 := by
  have : ((3 : Nat) : Int) = 3 := rfl
  rw [← this]
  exact atI_nat rfl
theorem r_at4 {α : Type} (a0 a1 a2 a3 a4 : α) (l : List α) : atI (a0 :: a1 :: a2 :: a3 :: a4 :: l) 4 = some a4 := by
  have : ((4 : Nat) : Int) = 4 := rfl
  rw [← this]
  exact atI_nat rfl
theorem r_at5 {α : Type} (a0 a1 a2 a3 a4 a5 : α) (l : List α) : atI (a0 :: a1 :: a2 :: a3 :: a4 :: a5 :: l) 5 = some a5 := by
  have : ((5 : Nat) : Int) = 5 := rfl
  rw [← this]
  exact atI_nat rfl
theorem r_ix1_0 : ixN 1 0 = some 0 := by decide
theorem r_ix2_0 : ixN 2 0 = some 0 := by decide
theorem r_ix2_1 : ixN 2 1 = some 1 := by decide
theorem r_ix3_0 : ixN 3 0 = some 0 := by decide
theorem r_ix3_1 : ixN 3 1 = some 1 := by decide
theorem r_ix3_2 : ixN 3 2 = some 2 := by decide
theorem r_ix4_0 : ixN 4 0 = some 0 := by decide
theorem r_ix4_1 : ixN 4 1 = some 1 := by decide
theorem r_ix4_2 : ixN 4 2 = some 2 := by decide
theorem r_ix4_3 : ixN 4 3 = some 3 := by decide
theorem r_ix5_0 : ixN 5 0 = some 0 := by decide
theorem r_ix5_1 : ixN 5 1 = some 1 := by decide
theorem r_ix5_2 : ixN 5 2 = some 2 := by decide
theorem r_ix5_3 : ixN 5 3 = some 3 := by decide
theorem r_ix5_4 : ixN 5 4 = some 4 := by decide
theorem r_v0 (ds : List D) (l : Reg) (Q : D → Prop) : onView (.ptr 0) (some (.lst ds) :: l) Q = Q (.list ds) := rfl
theorem r_lenp0 (ds : List D) (l : Reg) (Q : Nat → Prop) : lenOf (.ptr 0) (some (.lst ds) :: l) Q = Q ds.length := rfl
theorem r_typ0 (ds : List D) (l : Reg) : tyV' (.ptr 0) (some (.lst ds) :: l) = some "list" := rfl
theorem r_app0 (ds : List D) (l : Reg) (d : D) (Q : Vl → Reg → Prop) : metW .append (.ptr 0) [.dat d] (some (.lst ds) :: l) Q = (ds.length < sizeLine ∧ Q (.dat .none) (some (.lst (ds ++ [d])) :: l)) := rfl
theorem r_pop0 (ds : List D) (l : Reg) (Q : Vl → Reg → Prop) : metW .pop (.ptr 0) [] (some (.lst ds) :: l) Q = (∃ d, ds[ds.length - 1]? = some d ∧ Q (.dat d) (some (.lst ds.dropLast) :: l)) := rfl
theorem r_popAt0 (ds : List D) (l : Reg) (i : Int) (Q : Vl → Reg → Prop) : metW .popAt (.ptr 0) [.dat (.int i)] (some (.lst ds) :: l) Q = (∃ d, (0 ≤ i ∧ i < 2 ^ 63) ∧ ds[i.toNat]? = some d ∧ Q (.dat d) (some (.lst (ds.eraseIdx i.toNat)) :: l)) := rfl
theorem r_ext0 (ds ys : List D) (l : Reg) (Q : Vl → Reg → Prop) : metW .extend (.ptr 0) [.dat (.list ys)] (some (.lst ds) :: l) Q = (ds.length + ys.length ≤ sizeLine ∧ Q (.dat .none) (some (.lst (ds ++ ys)) :: l)) := rfl
theorem r_outs0 (l : Reg) : outs 0 (l) = some [] := rfl
theorem r_v1 (x0 : Option Ob) (ds : List D) (l : Reg) (Q : D → Prop) : onView (.ptr 1) (x0 :: some (.lst ds) :: l) Q = Q (.list ds) := rfl
theorem r_lenp1 (x0 : Option Ob) (ds : List D) (l : Reg) (Q : Nat → Prop) : lenOf (.ptr 1) (x0 :: some (.lst ds) :: l) Q = Q ds.length := rfl
theorem r_typ1 (x0 : Option Ob) (ds : List D) (l : Reg) : tyV' (.ptr 1) (x0 :: some (.lst ds) :: l) = some "list" := rfl
theorem r_app1 (x0 : Option Ob) (ds : List D) (l : Reg) (d : D) (Q : Vl → Reg → Prop) : metW .append (.ptr 1) [.dat d] (x0 :: some (.lst ds) :: l) Q = (ds.length < sizeLine ∧ Q (.dat .none) (x0 :: some (.lst (ds ++ [d])) :: l)) := rfl
theorem r_pop1 (x0 : Option Ob) (ds : List D) (l : Reg) (Q : Vl → Reg → Prop) : metW .pop (.ptr 1) [] (x0 :: some (.lst ds) :: l) Q = (∃ d, ds[ds.length - 1]? = some d ∧ Q (.dat d) (x0 :: some (.lst ds.dropLast) :: l)) := rfl
theorem r_popAt1 (x0 : Option Ob) (ds : List D) (l : Reg) (i : Int) (Q : Vl → Reg → Prop) : metW .popAt (.ptr 1) [.dat (.int i)] (x0 :: some (.lst ds) :: l) Q = (∃ d, (0 ≤ i ∧ i < 2 ^ 63) ∧ ds[i.toNat]? = some d ∧ Q (.dat d) (x0 :: some (.lst (ds.eraseIdx i.toNat)) :: l)) := rfl
theorem r_ext1 (x0 : Option Ob) (ds ys : List D) (l : Reg) (Q : Vl → Reg → Prop) : metW .extend (.ptr 1) [.dat (.list ys)] (x0 :: some (.lst ds) :: l) Q = (ds.length + ys.length ≤ sizeLine ∧ Q (.dat .none) (x0 :: some (.lst (ds ++ ys)) :: l)) := rfl
theorem r_outs1 (o0 : Ob) (l : Reg) : outs 1 (some o0 :: l) = some [o0] := rfl
theorem r_v2 (x0 x1 : Option Ob) (ds : List D) (l : Reg) (Q : D → Prop) : onView (.ptr 2) (x0 :: x1 :: some (.lst ds) :: l) Q = Q (.list ds) := rfl
theorem r_lenp2 (x0 x1 : Option Ob) (ds : List D) (l : Reg) (Q : Nat → Prop) : lenOf (.ptr 2) (x0 :: x1 :: some (.lst ds) :: l) Q = Q ds.length := rfl
theorem r_typ2 (x0 x1 : Option Ob) (ds : List D) (l : Reg) : tyV' (.ptr 2) (x0 :: x1 :: some (.lst ds) :: l) = some "list" := rfl
theorem r_app2 (x0 x1 : Option Ob) (ds : List D) (l : Reg) (d : D) (Q : Vl → Reg → Prop) : metW .append (.ptr 2) [.dat d] (x0 :: x1 :: some (.lst ds) :: l) Q = (ds.length < sizeLine ∧ Q (.dat .none) (x0 :: x1 :: some (.lst (ds ++ [d])) :: l)) := rfl
theorem r_pop2 (x0 x1 : Option Ob) (ds : List D) (l : Reg) (Q : Vl → Reg → Prop) : metW .pop (.ptr 2) [] (x0 :: x1 :: some (.lst ds) :: l) Q = (∃ d, ds[ds.length - 1]? = some d ∧ Q (.dat d) (x0 :: x1 :: some (.lst ds.dropLast) :: l)) := rfl
theorem r_popAt2 (x0 x1 : Option Ob) (ds : List D) (l : Reg) (i : Int) (Q : Vl → Reg → Prop) : metW .popAt (.ptr 2) [.dat (.int i)] (x0 :: x1 :: some (.lst ds) :: l) Q = (∃ d, (0 ≤ i ∧ i < 2 ^ 63) ∧ ds[i.toNat]? = some d ∧ Q (.dat d) (x0 :: x1 :: some (.lst (ds.eraseIdx i.toNat)) :: l)) := rfl
theorem r_ext2 (x0 x1 : Option Ob) (ds ys : List D) (l : Reg) (Q : Vl → Reg → Prop) : metW .extend (.ptr 2) [.dat (.list ys)] (x0 :: x1 :: some (.lst ds) :: l) Q = (ds.length + ys.length ≤ sizeLine ∧ Q (.dat .none) (x0 :: x1 :: some (.lst (ds ++ ys)) :: l)) := rfl
theorem r_outs2 (o0 o1 : Ob) (l : Reg) : outs 2 (some o0 :: some o1 :: l) = some [o0, o1] := rfl
theorem r_v3 (x0 x1 x2 : Option Ob) (ds : List D) (l : Reg) (Q : D → Prop) : onView (.ptr 3) (x0 :: x1 :: x2 :: some (.lst ds) :: l) Q = Q (.list ds) := rfl
theorem r_lenp3 (x0 x1 x2 : Option Ob) (ds : List D) (l : Reg) (Q : Nat → Prop) : lenOf (.ptr 3) (x0 :: x1 :: x2 :: some (.lst ds) :: l) Q = Q ds.length := rfl
theorem r_typ3 (x0 x1 x2 : Option Ob) (ds : List D) (l : Reg) : tyV' (.ptr 3) (x0 :: x1 :: x2 :: some (.lst ds) :: l) = some "list" := rfl
theorem r_app3 (x0 x1 x2 : Option Ob) (ds : List D) (l : Reg) (d : D) (Q : Vl → Reg → Prop) : metW .append (.ptr 3) [.dat d] (x0 :: x1 :: x2 :: some (.lst ds) :: l) Q = (ds.length < sizeLine ∧ Q (.dat .none) (x0 :: x1 :: x2 :: some (.lst (ds ++ [d])) :: l)) := rfl
theorem r_pop3 (x0 x1 x2 : Option Ob) (ds : List D) (l : Reg) (Q : Vl → Reg → Prop) : metW .pop (.ptr 3) [] (x0 :: x1 :: x2 :: some (.lst ds) :: l) Q = (∃ d, ds[ds.length - 1]? = some d ∧ Q (.dat d) (x0 :: x1 :: x2 :: some (.lst ds.dropLast) :: l)) := rfl
theorem r_popAt3 (x0 x1 x2 : Option Ob) (ds : List D) (l : Reg) (i : Int) (Q : Vl → Reg → Prop) : metW .popAt (.ptr 3) [.dat (.int i)] (x0 :: x1 :: x2 :: some (.lst ds) :: l) Q = (∃ d, (0 ≤ i ∧ i < 2 ^ 63) ∧ ds[i.toNat]? = some d ∧ Q (.dat d) (x0 :: x1 :: x2 :: some (.lst (ds.eraseIdx i.toNat)) :: l)) := rfl
theorem r_ext3 (x0 x1 x2 : Option Ob) (ds ys : List D) (l : Reg) (Q : Vl → Reg → Prop) : metW .extend (.ptr 3) [.dat (.list ys)] (x0 :: x1 :: x2 :: some (.lst ds) :: l) Q = (ds.length + ys.length ≤ sizeLine ∧ Q (.dat .none) (x0 :: x1 :: x2 :: some (.lst (ds ++ ys)) :: l)) := rfl
theorem r_outs3 (o0 o1 o2 : Ob) (l : Reg) : outs 3 (some o0 :: some o1 :: some o2 :: l) = some [o0, o1, o2] := rfl
theorem r_tyd (d : D) (η : Reg) : tyV' (.dat d) η = some (tyD d) := rfl
theorem r_mapp  : mtTy .append (some "list") = true := rfl
theorem r_mpop  : mtTy .pop (some "list") = true := rfl
theorem r_mpopAt  : mtTy .popAt (some "list") = true := rfl
theorem r_mext  : mtTy .extend (some "list") = true := rfl
theorem r_midxl  : mtTy .index (some "list") = true := rfl
theorem r_midxt  : mtTy .index (some "tuple") = true := rfl
theorem r_mspl  : mtTy .split (some "str") = true := rfl
theorem r_mbit  : mtTy .bitlen (some "int") = true := rfl
theorem r_npd (d : D) : Vl.noPtr (.dat d) = True := rfl
theorem r_npf (o : Ob) : Vl.noPtr (.fr o) = True := rfl
theorem r_ty_int (i : Int) : tyD (.int i) = "int" := rfl
theorem r_ty_str (i : Str) : tyD (.str i) = "str" := rfl
theorem r_ty_list (i : List D) : tyD (.list i) = "list" := rfl
theorem r_ty_tuple (i : List D) : tyD (.tuple i) = "tuple" := rfl
theorem r_ty_bool (i : Bool) : tyD (.bool i) = "bool" := rfl
theorem r_ixli (ds : List D) (d : D) (η : Reg) (Q : Vl → Reg → Prop) : metW .index (.dat (.list ds)) [.dat d] η Q = firstAt ds d fun j => Q (.dat (.int (j : Nat))) η := rfl
theorem r_ixti (ds : List D) (d : D) (η : Reg) (Q : Vl → Reg → Prop) : metW .index (.dat (.tuple ds)) [.dat d] η Q = firstAt ds d fun j => Q (.dat (.int (j : Nat))) η := rfl
theorem r_asgd (i : Nat) (r : Option Nat) (d : D) (ρ : Sl) (η : Reg) (Q : Sl → Reg → Prop) : asgW i r (.dat d) ρ η Q = Q (ρ.set i (some (.dat d))) η := rfl
theorem r_asgp (i : Nat) (r : Option Nat) (n : Nat) (ρ : Sl) (η : Reg) (Q : Sl → Reg → Prop) : asgW i r (.ptr n) ρ η Q = Q (ρ.set i (some (.ptr n))) η := rfl
theorem r_asgf (i : Nat) (ds : List D) (ρ : Sl) (η : Reg) (Q : Sl → Reg → Prop) : asgW i none (.fr (.lst ds)) ρ η Q = Q (ρ.set i (some (.dat (.list ds)))) η := rfl
theorem r_asgn (i n : Nat) (o : Ob) (ρ : Sl) (η : Reg) (Q : Sl → Reg → Prop) : asgW i (some n) (.fr o) ρ η Q = (n < η.length ∧ Q ((clr n ρ).set i (some (.ptr n))) (η.set n (some o))) := rfl
theorem r_clr0 (n : Nat) : clr n [] = [] := rfl
theorem r_clr1 (n : Nat) (l : Sl) : clr n (none :: l) = none :: clr n l := rfl
theorem r_clr2 (n : Nat) (d : D) (l : Sl) : clr n (some (.dat d) :: l) = some (.dat d) :: clr n l := rfl
theorem r_clr3 (n m : Nat) (l : Sl) : clr n (some (.ptr m) :: l) = (if m = n then none else some (.ptr m)) :: clr n l := rfl
theorem r_clr4 (n : Nat) (x : Option Vl) (l : Sl) : clr n (x :: l) = clr1 n x :: clr n l := rfl
theorem r_sto0 (k : Int) (d : D) (ds : List D) (l : Reg) (Q : Reg → Prop) : stoW (.ptr 0) (.dat (.int k)) (.dat d) (some (.lst ds) :: l) Q = (∃ j, ixN ds.length k = some j ∧ Q (some (.lst (ds.set j d)) :: l)) := rfl
theorem r_ag0 (k : Int) (ds : List D) (l : Reg) (Q : D → Prop) : augGet (.ptr 0) (.dat (.int k)) (some (.lst ds) :: l) Q = (∃ d, atI ds k = some d ∧ Q d) := rfl
theorem r_sto1 (x0 : Option Ob) (k : Int) (d : D) (ds : List D) (l : Reg) (Q : Reg → Prop) : stoW (.ptr 1) (.dat (.int k)) (.dat d) (x0 :: some (.lst ds) :: l) Q = (∃ j, ixN ds.length k = some j ∧ Q (x0 :: some (.lst (ds.set j d)) :: l)) := rfl
theorem r_ag1 (x0 : Option Ob) (k : Int) (ds : List D) (l : Reg) (Q : D → Prop) : augGet (.ptr 1) (.dat (.int k)) (x0 :: some (.lst ds) :: l) Q = (∃ d, atI ds k = some d ∧ Q d) := rfl
theorem r_sto2 (x0 x1 : Option Ob) (k : Int) (d : D) (ds : List D) (l : Reg) (Q : Reg → Prop) : stoW (.ptr 2) (.dat (.int k)) (.dat d) (x0 :: x1 :: some (.lst ds) :: l) Q = (∃ j, ixN ds.length k = some j ∧ Q (x0 :: x1 :: some (.lst (ds.set j d)) :: l)) := rfl
theorem r_ag2 (x0 x1 : Option Ob) (k : Int) (ds : List D) (l : Reg) (Q : D → Prop) : augGet (.ptr 2) (.dat (.int k)) (x0 :: x1 :: some (.lst ds) :: l) Q = (∃ d, atI ds k = some d ∧ Q d) := rfl
theorem r_sto3 (x0 x1 x2 : Option Ob) (k : Int) (d : D) (ds : List D) (l : Reg) (Q : Reg → Prop) : stoW (.ptr 3) (.dat (.int k)) (.dat d) (x0 :: x1 :: x2 :: some (.lst ds) :: l) Q = (∃ j, ixN ds.length k = some j ∧ Q (x0 :: x1 :: x2 :: some (.lst (ds.set j d)) :: l)) := rfl
theorem r_ag3 (x0 x1 x2 : Option Ob) (k : Int) (ds : List D) (l : Reg) (Q : D → Prop) : augGet (.ptr 3) (.dat (.int k)) (x0 :: x1 :: x2 :: some (.lst ds) :: l) Q = (∃ d, atI ds k = some d ∧ Q d) := rfl
theorem ixN_pos {n : Nat} {i : Int} (h0 : 0 ≤ i) (h1 : i < n) : ixN n i = some i.toNat := by
  unfold ixN
  rw [if_pos h0, if_pos h1]
theorem pow_pos (n : Nat) : (0 : Int) < 2 ^ n := Int.pow_pos (by omega)
theorem eqv_int (i j : Int) : PyData.eqv (.int i) (.int j) = decide (i = j) := by
  rw [PyData.eqv]
  exact Bool.eq_iff_iff.mpr (by simp)
theorem eqv_str (i j : Str) : PyData.eqv (.str i) (.str j) = decide (i = j) := by
  rw [PyData.eqv]
  exact Bool.eq_iff_iff.mpr (by simp)
theorem dep_int (i : Int) : (PyData.int i).depth = 0 := by simp [PyData.depth]
theorem dep_str (i : Str) : (PyData.str i).depth = 0 := by simp [PyData.depth]
theorem ite_i {p : Prop} [Decidable p] {A B : Prop} (h1 : p → A) (h2 : ¬ p → B) : if p then A else B := by
  by_cases h : p
  · rw [if_pos h]; exact h1 h
  · rw [if_neg h]; exact h2 h
theorem r_c0 (n : Str) (sp : PSpec) (Γ : Env) (vs : List Vl) (η : Reg) (Q : Vl → Reg → Prop) : callN ((n, sp) :: Γ) 0 vs η Q = callW sp vs η Q := rfl
theorem r_c1 (x0 : Str × PSpec) (n : Str) (sp : PSpec) (Γ : Env) (vs : List Vl) (η : Reg) (Q : Vl → Reg → Prop) : callN (x0 :: (n, sp) :: Γ) 1 vs η Q = callW sp vs η Q := rfl
theorem r_c2 (x0 : Str × PSpec) (x1 : Str × PSpec) (n : Str) (sp : PSpec) (Γ : Env) (vs : List Vl) (η : Reg) (Q : Vl → Reg → Prop) : callN (x0 :: x1 :: (n, sp) :: Γ) 2 vs η Q = callW sp vs η Q := rfl
theorem r_c3 (x0 : Str × PSpec) (x1 : Str × PSpec) (x2 : Str × PSpec) (n : Str) (sp : PSpec) (Γ : Env) (vs : List Vl) (η : Reg) (Q : Vl → Reg → Prop) : callN (x0 :: x1 :: x2 :: (n, sp) :: Γ) 3 vs η Q = callW sp vs η Q := rfl
theorem r_c4 (x0 : Str × PSpec) (x1 : Str × PSpec) (x2 : Str × PSpec) (x3 : Str × PSpec) (n : Str) (sp : PSpec) (Γ : Env) (vs : List Vl) (η : Reg) (Q : Vl → Reg → Prop) : callN (x0 :: x1 :: x2 :: x3 :: (n, sp) :: Γ) 4 vs η Q = callW sp vs η Q := rfl
theorem r_c5 (x0 : Str × PSpec) (x1 : Str × PSpec) (x2 : Str × PSpec) (x3 : Str × PSpec) (x4 : Str × PSpec) (n : Str) (sp : PSpec) (Γ : Env) (vs : List Vl) (η : Reg) (Q : Vl → Reg → Prop) : callN (x0 :: x1 :: x2 :: x3 :: x4 :: (n, sp) :: Γ) 5 vs η Q = callW sp vs η Q := rfl
theorem r_c6 (x0 : Str × PSpec) (x1 : Str × PSpec) (x2 : Str × PSpec) (x3 : Str × PSpec) (x4 : Str × PSpec) (x5 : Str × PSpec) (n : Str) (sp : PSpec) (Γ : Env) (vs : List Vl) (η : Reg) (Q : Vl → Reg → Prop) : callN (x0 :: x1 :: x2 :: x3 :: x4 :: x5 :: (n, sp) :: Γ) 6 vs η Q = callW sp vs η Q := rfl
theorem r_c7 (x0 : Str × PSpec) (x1 : Str × PSpec) (x2 : Str × PSpec) (x3 : Str × PSpec) (x4 : Str × PSpec) (x5 : Str × PSpec) (x6 : Str × PSpec) (n : Str) (sp : PSpec) (Γ : Env) (vs : List Vl) (η : Reg) (Q : Vl → Reg → Prop) : callN (x0 :: x1 :: x2 :: x3 :: x4 :: x5 :: x6 :: (n, sp) :: Γ) 7 vs η Q = callW sp vs η Q := rfl
theorem r_c8 (x0 : Str × PSpec) (x1 : Str × PSpec) (x2 : Str × PSpec) (x3 : Str × PSpec) (x4 : Str × PSpec) (x5 : Str × PSpec) (x6 : Str × PSpec) (x7 : Str × PSpec) (n : Str) (sp : PSpec) (Γ : Env) (vs : List Vl) (η : Reg) (Q : Vl → Reg → Prop) : callN (x0 :: x1 :: x2 :: x3 :: x4 :: x5 :: x6 :: x7 :: (n, sp) :: Γ) 8 vs η Q = callW sp vs η Q := rfl
theorem r_c9 (x0 : Str × PSpec) (x1 : Str × PSpec) (x2 : Str × PSpec) (x3 : Str × PSpec) (x4 : Str × PSpec) (x5 : Str × PSpec) (x6 : Str × PSpec) (x7 : Str × PSpec) (x8 : Str × PSpec) (n : Str) (sp : PSpec) (Γ : Env) (vs : List Vl) (η : Reg) (Q : Vl → Reg → Prop) : callN (x0 :: x1 :: x2 :: x3 :: x4 :: x5 :: x6 :: x7 :: x8 :: (n, sp) :: Γ) 9 vs η Q = callW sp vs η Q := rfl
theorem r_c10 (x0 : Str × PSpec) (x1 : Str × PSpec) (x2 : Str × PSpec) (x3 : Str × PSpec) (x4 : Str × PSpec) (x5 : Str × PSpec) (x6 : Str × PSpec) (x7 : Str × PSpec) (x8 : Str × PSpec) (x9 : Str × PSpec) (n : Str) (sp : PSpec) (Γ : Env) (vs : List Vl) (η : Reg) (Q : Vl → Reg → Prop) : callN (x0 :: x1 :: x2 :: x3 :: x4 :: x5 :: x6 :: x7 :: x8 :: x9 :: (n, sp) :: Γ) 10 vs η Q = callW sp vs η Q := rfl
theorem r_c11 (x0 : Str × PSpec) (x1 : Str × PSpec) (x2 : Str × PSpec) (x3 : Str × PSpec) (x4 : Str × PSpec) (x5 : Str × PSpec) (x6 : Str × PSpec) (x7 : Str × PSpec) (x8 : Str × PSpec) (x9 : Str × PSpec) (x10 : Str × PSpec) (n : Str) (sp : PSpec) (Γ : Env) (vs : List Vl) (η : Reg) (Q : Vl → Reg → Prop) : callN (x0 :: x1 :: x2 :: x3 :: x4 :: x5 :: x6 :: x7 :: x8 :: x9 :: x10 :: (n, sp) :: Γ) 11 vs η Q = callW sp vs η Q := rfl
theorem r_put1 (n : Nat) (o : Ob) (η : Reg) : putAll [n] [o] η = η.set n (some o) := rfl
theorem r_put0 (os : List Ob) (η : Reg) : putAll [] os η = η := by cases os <;> rfl
theorem call_r {sp : PSpec} {vs vs' : List Vl} {η : Reg} {Q : Vl → Reg → Prop} {n : Nat} {o : Ob} (hv : regsOf vs = [n]) (hr : renum 0 vs = vs') (ho : η[n]? = some (some o)) (h : sp vs' [o] fun v os => os.length = 1 ∧ v.noPtr ∧ Q v (putAll [n] os η)) : callW sp vs η Q := by
  refine ⟨by rw [hv]; exact List.nodup_cons.mpr ⟨by simp, List.nodup_nil⟩, ?_⟩
  rw [hv, hr]
  simp only [obsAt, ho]
  exact h
theorem call_0 {sp : PSpec} {vs : List Vl} {η : Reg} {Q : Vl → Reg → Prop} (hv : regsOf vs = []) (hr : renum 0 vs = vs) (h : sp vs [] fun v os => os.length = 0 ∧ v.noPtr ∧ Q v η) : callW sp vs η Q := call_pure hv hr h
theorem r_ptuple0 (ds : List D) (l : Reg) (Q : Vl → Prop) : biW .tuple [.ptr 0] (some (.lst ds) :: l) Q = Q (.dat (.tuple ds)) := rfl
theorem r_plist0 (ds : List D) (l : Reg) (Q : Vl → Prop) : biW .list [.ptr 0] (some (.lst ds) :: l) Q = Q (.fr (.lst ds)) := rfl
theorem r_psum0 (ds : List D) (l : Reg) (Q : Vl → Prop) : biW .sum [.ptr 0] (some (.lst ds) :: l) Q = intsOf ds fun ns => Q (.dat (.int ns.sum)) := rfl
theorem r_pmin10 (ds : List D) (l : Reg) (Q : Vl → Prop) : biW .min1 [.ptr 0] (some (.lst ds) :: l) Q = intsOf ds fun ns => 0 < ns.length ∧ ∀ m ∈ ns, (∀ y ∈ ns, m ≤ y) → Q (.dat (.int m)) := rfl
theorem r_pmax10 (ds : List D) (l : Reg) (Q : Vl → Prop) : biW .max1 [.ptr 0] (some (.lst ds) :: l) Q = intsOf ds fun ns => 0 < ns.length ∧ ∀ m ∈ ns, (∀ y ∈ ns, y ≤ m) → Q (.dat (.int m)) := rfl
theorem r_pall0 (ds : List D) (l : Reg) (Q : Vl → Prop) : biW .all [.ptr 0] (some (.lst ds) :: l) Q = (∃ bs : List Bool, ds = bs.map PyData.bool ∧ Q (.dat (.bool (bs.all id)))) := rfl
theorem r_pany0 (ds : List D) (l : Reg) (Q : Vl → Prop) : biW .any [.ptr 0] (some (.lst ds) :: l) Q = (∃ bs : List Bool, ds = bs.map PyData.bool ∧ Q (.dat (.bool (bs.any id)))) := rfl
theorem r_psorted0 (ds : List D) (l : Reg) (Q : Vl → Prop) : biW .sorted [.ptr 0] (some (.lst ds) :: l) Q = ((PySem.W.AllAlike ds ∧ PySem.W.Sortable ds ∧ ∀ d ∈ ds, d.depth ≤ 50) ∧ Q (.fr (.lst (ds.mergeSort (PySem.W.dataLe false id))))) := rfl
theorem r_ptuple1 (x0 : Option Ob) (ds : List D) (l : Reg) (Q : Vl → Prop) : biW .tuple [.ptr 1] (x0 :: some (.lst ds) :: l) Q = Q (.dat (.tuple ds)) := rfl
theorem r_plist1 (x0 : Option Ob) (ds : List D) (l : Reg) (Q : Vl → Prop) : biW .list [.ptr 1] (x0 :: some (.lst ds) :: l) Q = Q (.fr (.lst ds)) := rfl
theorem r_psum1 (x0 : Option Ob) (ds : List D) (l : Reg) (Q : Vl → Prop) : biW .sum [.ptr 1] (x0 :: some (.lst ds) :: l) Q = intsOf ds fun ns => Q (.dat (.int ns.sum)) := rfl
theorem r_pmin11 (x0 : Option Ob) (ds : List D) (l : Reg) (Q : Vl → Prop) : biW .min1 [.ptr 1] (x0 :: some (.lst ds) :: l) Q = intsOf ds fun ns => 0 < ns.length ∧ ∀ m ∈ ns, (∀ y ∈ ns, m ≤ y) → Q (.dat (.int m)) := rfl
theorem r_pmax11 (x0 : Option Ob) (ds : List D) (l : Reg) (Q : Vl → Prop) : biW .max1 [.ptr 1] (x0 :: some (.lst ds) :: l) Q = intsOf ds fun ns => 0 < ns.length ∧ ∀ m ∈ ns, (∀ y ∈ ns, y ≤ m) → Q (.dat (.int m)) := rfl
theorem r_pall1 (x0 : Option Ob) (ds : List D) (l : Reg) (Q : Vl → Prop) : biW .all [.ptr 1] (x0 :: some (.lst ds) :: l) Q = (∃ bs : List Bool, ds = bs.map PyData.bool ∧ Q (.dat (.bool (bs.all id)))) := rfl
theorem r_pany1 (x0 : Option Ob) (ds : List D) (l : Reg) (Q : Vl → Prop) : biW .any [.ptr 1] (x0 :: some (.lst ds) :: l) Q = (∃ bs : List Bool, ds = bs.map PyData.bool ∧ Q (.dat (.bool (bs.any id)))) := rfl
theorem r_psorted1 (x0 : Option Ob) (ds : List D) (l : Reg) (Q : Vl → Prop) : biW .sorted [.ptr 1] (x0 :: some (.lst ds) :: l) Q = ((PySem.W.AllAlike ds ∧ PySem.W.Sortable ds ∧ ∀ d ∈ ds, d.depth ≤ 50) ∧ Q (.fr (.lst (ds.mergeSort (PySem.W.dataLe false id))))) := rfl
theorem r_ptuple2 (x0 x1 : Option Ob) (ds : List D) (l : Reg) (Q : Vl → Prop) : biW .tuple [.ptr 2] (x0 :: x1 :: some (.lst ds) :: l) Q = Q (.dat (.tuple ds)) := rfl
theorem r_plist2 (x0 x1 : Option Ob) (ds : List D) (l : Reg) (Q : Vl → Prop) : biW .list [.ptr 2] (x0 :: x1 :: some (.lst ds) :: l) Q = Q (.fr (.lst ds)) := rfl
theorem r_psum2 (x0 x1 : Option Ob) (ds : List D) (l : Reg) (Q : Vl → Prop) : biW .sum [.ptr 2] (x0 :: x1 :: some (.lst ds) :: l) Q = intsOf ds fun ns => Q (.dat (.int ns.sum)) := rfl
theorem r_pmin12 (x0 x1 : Option Ob) (ds : List D) (l : Reg) (Q : Vl → Prop) : biW .min1 [.ptr 2] (x0 :: x1 :: some (.lst ds) :: l) Q = intsOf ds fun ns => 0 < ns.length ∧ ∀ m ∈ ns, (∀ y ∈ ns, m ≤ y) → Q (.dat (.int m)) := rfl
theorem r_pmax12 (x0 x1 : Option Ob) (ds : List D) (l : Reg) (Q : Vl → Prop) : biW .max1 [.ptr 2] (x0 :: x1 :: some (.lst ds) :: l) Q = intsOf ds fun ns => 0 < ns.length ∧ ∀ m ∈ ns, (∀ y ∈ ns, y ≤ m) → Q (.dat (.int m)) := rfl
theorem r_pall2 (x0 x1 : Option Ob) (ds : List D) (l : Reg) (Q : Vl → Prop) : biW .all [.ptr 2] (x0 :: x1 :: some (.lst ds) :: l) Q = (∃ bs : List Bool, ds = bs.map PyData.bool ∧ Q (.dat (.bool (bs.all id)))) := rfl
theorem r_pany2 (x0 x1 : Option Ob) (ds : List D) (l : Reg) (Q : Vl → Prop) : biW .any [.ptr 2] (x0 :: x1 :: some (.lst ds) :: l) Q = (∃ bs : List Bool, ds = bs.map PyData.bool ∧ Q (.dat (.bool (bs.any id)))) := rfl
theorem r_psorted2 (x0 x1 : Option Ob) (ds : List D) (l : Reg) (Q : Vl → Prop) : biW .sorted [.ptr 2] (x0 :: x1 :: some (.lst ds) :: l) Q = ((PySem.W.AllAlike ds ∧ PySem.W.Sortable ds ∧ ∀ d ∈ ds, d.depth ≤ 50) ∧ Q (.fr (.lst (ds.mergeSort (PySem.W.dataLe false id))))) := rfl
theorem r_ptuple3 (x0 x1 x2 : Option Ob) (ds : List D) (l : Reg) (Q : Vl → Prop) : biW .tuple [.ptr 3] (x0 :: x1 :: x2 :: some (.lst ds) :: l) Q = Q (.dat (.tuple ds)) := rfl
theorem r_plist3 (x0 x1 x2 : Option Ob) (ds : List D) (l : Reg) (Q : Vl → Prop) : biW .list [.ptr 3] (x0 :: x1 :: x2 :: some (.lst ds) :: l) Q = Q (.fr (.lst ds)) := rfl
theorem r_psum3 (x0 x1 x2 : Option Ob) (ds : List D) (l : Reg) (Q : Vl → Prop) : biW .sum [.ptr 3] (x0 :: x1 :: x2 :: some (.lst ds) :: l) Q = intsOf ds fun ns => Q (.dat (.int ns.sum)) := rfl
theorem r_pmin13 (x0 x1 x2 : Option Ob) (ds : List D) (l : Reg) (Q : Vl → Prop) : biW .min1 [.ptr 3] (x0 :: x1 :: x2 :: some (.lst ds) :: l) Q = intsOf ds fun ns => 0 < ns.length ∧ ∀ m ∈ ns, (∀ y ∈ ns, m ≤ y) → Q (.dat (.int m)) := rfl
theorem r_pmax13 (x0 x1 x2 : Option Ob) (ds : List D) (l : Reg) (Q : Vl → Prop) : biW .max1 [.ptr 3] (x0 :: x1 :: x2 :: some (.lst ds) :: l) Q = intsOf ds fun ns => 0 < ns.length ∧ ∀ m ∈ ns, (∀ y ∈ ns, y ≤ m) → Q (.dat (.int m)) := rfl
theorem r_pall3 (x0 x1 x2 : Option Ob) (ds : List D) (l : Reg) (Q : Vl → Prop) : biW .all [.ptr 3] (x0 :: x1 :: x2 :: some (.lst ds) :: l) Q = (∃ bs : List Bool, ds = bs.map PyData.bool ∧ Q (.dat (.bool (bs.all id)))) := rfl
theorem r_pany3 (x0 x1 x2 : Option Ob) (ds : List D) (l : Reg) (Q : Vl → Prop) : biW .any [.ptr 3] (x0 :: x1 :: x2 :: some (.lst ds) :: l) Q = (∃ bs : List Bool, ds = bs.map PyData.bool ∧ Q (.dat (.bool (bs.any id)))) := rfl
theorem r_psorted3 (x0 x1 x2 : Option Ob) (ds : List D) (l : Reg) (Q : Vl → Prop) : biW .sorted [.ptr 3] (x0 :: x1 :: x2 :: some (.lst ds) :: l) Q = ((PySem.W.AllAlike ds ∧ PySem.W.Sortable ds ∧ ∀ d ∈ ds, d.depth ≤ 50) ∧ Q (.fr (.lst (ds.mergeSort (PySem.W.dataLe false id))))) := rfl
theorem r_stab (d : D) (ds : List D) (η : Reg) : stab (.dat d) ds η = True := rfl
theorem r_wipe0 (ρ : Sl) : wipeL ρ [] = ρ := rfl
theorem r_wipe1 (ρ : Sl) (v : Nat) (vs : List Nat) : wipeL ρ (v :: vs) = (wipeL ρ vs).set v none := rfl
mutual
theorem eqv_refl : ∀ d : D, d.plain = true → PyData.eqv d d = true
  | .none, _ => by rw [PyData.eqv]
  | .bool b, _ => by rw [PyData.eqv]; simp
  | .int i, _ => by rw [PyData.eqv]; simp
  | .str x, _ => by rw [PyData.eqv]; simp
  | .list xs, h => by rw [PyData.eqv]; rw [PyData.plain] at h; exact eqvAll_refl xs h
  | .tuple xs, h => by rw [PyData.eqv]; rw [PyData.plain] at h; exact eqvAll_refl xs h
  | .dict _, h => by rw [PyData.plain] at h; cases h
theorem eqvAll_refl : ∀ xs : List D, PyData.plainAll xs = true → PyData.eqvAll xs xs = true
  | [], _ => by rw [PyData.eqvAll]
  | x :: xs, h => by
    rw [PyData.plainAll, Bool.and_eq_true] at h
    rw [PyData.eqvAll, eqv_refl x h.1, eqvAll_refl xs h.2]; rfl
end
theorem plain_strs : ∀ xs : List Str, PyData.plainAll (xs.map PyData.str) = true
  | [] => by rw [List.map_nil, PyData.plainAll]
  | x :: xs => by rw [List.map_cons, PyData.plainAll, plain_strs xs, PyData.plain]; rfl
theorem dep_strs : ∀ xs : List Str, PyData.depthAll (xs.map PyData.str) ≤ 1
  | [] => by rw [List.map_nil, PyData.depthAll]; omega
  | x :: xs => by
    have := dep_strs xs
    rw [List.map_cons, PyData.depthAll, dep_str]
    omega
theorem atI_neg1 {α : Type} {xs : List α} {z : α} (h : xs.getLast? = some z) : atI xs (-1) = some z := by
  have hl : 0 < xs.length := by
    cases xs with
    | nil => cases h
    | cons a b => simp
  rw [List.getLast?_eq_getElem?] at h
  unfold atI ixN
  rw [if_neg (by omega), if_pos (by omega)]
  show xs[(-1 + (xs.length : Int)).toNat]? = some z
  rw [← h]
  congr 1
  omega
/-! comprehensions -/
def stepLc (tg : Tg) (own : List Nat) (ct : LTT) (elt : LTE) (ρ : Sl) (d : D) (η : Reg) (K : Option D → Reg → Prop) : Prop :=
  wTg tg d (wipeL ρ own) fun ρ' => ct ρ' η fun b η1 => if b = true then elt ρ' η1 fun v η2 => v.fz.onD fun e => K (some e) η2 else K none η1
theorem wLc_cons {tg : Tg} {own : List Nat} {ct : LTT} {elt : LTE} {ok : Reg → Prop} {ρ : Sl} {d : D} {r : List D} {η : Reg} {Q : List D → Reg → Prop}
    (h : stepLc tg own ct elt ρ d η fun o η' => match o with
      | some e => ok η' ∧ wLc tg own ct elt ok ρ r η' fun es η3 => Q (e :: es) η3
      | none => ok η' ∧ wLc tg own ct elt ok ρ r η' Q) : wLc tg own ct elt ok ρ (d :: r) η Q := h
/-- nothing changes but the new list -/
theorem lc_pure {tg : Tg} {own : List Nat} {ct : LTT} {elt : LTE} {ok : Reg → Prop} {ρ : Sl} {η : Reg} (f : D → Option D) (hok : ok η) : ∀ (ds : List D) {Q : List D → Reg → Prop}, (∀ d ∈ ds, ∀ K : Option D → Reg → Prop, K (f d) η → stepLc tg own ct elt ρ d η K) →
    Q (ds.filterMap f) η → wLc tg own ct elt ok ρ ds η Q
  | [], Q, _, q => q
  | d :: r, Q, h, q => by
    refine wLc_cons (h d List.mem_cons_self _ ?_)
    rw [List.filterMap_cons] at q
    cases e : f d with
    | none =>
      rw [e] at q
      exact ⟨hok, lc_pure f hok r (fun d hd => h d (List.mem_cons_of_mem _ hd)) q⟩
    | some x =>
      rw [e] at q
      exact ⟨hok, lc_pure f hok r (fun d hd => h d (List.mem_cons_of_mem _ hd)) (Q := fun es η3 => Q (x :: es) η3) q⟩
/-- with an invariant of the registers; R: what an item's place holds -/
inductive Outs (R : D → Option D → Prop) : List D → List D → Prop
  | nil : Outs R [] []
  | put {d e : D} {ds es : List D} : R d (some e) → Outs R ds es → Outs R (d :: ds) (e :: es)
  | skip {d : D} {ds es : List D} : R d none → Outs R ds es → Outs R (d :: ds) es
theorem lc_inv {tg : Tg} {own : List Nat} {ct : LTT} {elt : LTE} {ok : Reg → Prop} {ρ : Sl} (I : Reg → Prop) (R : D → Option D → Prop) (hok : ∀ η, I η → ok η) : ∀ (ds : List D) {η : Reg} {Q : List D → Reg → Prop}, I η →
    (∀ d ∈ ds, ∀ (η : Reg) (K : Option D → Reg → Prop), I η → (∀ o η', I η' → R d o → K o η') → stepLc tg own ct elt ρ d η K) →
    (∀ es η', I η' → Outs R ds es → Q es η') → wLc tg own ct elt ok ρ ds η Q
  | [], η, Q, hi, _, q => q [] η hi .nil
  | d :: r, η, Q, hi, h, q => by
    refine wLc_cons (h d List.mem_cons_self _ _ hi fun o η' hi' hr => ?_)
    cases o with
    | none => exact ⟨hok _ hi', lc_inv I R hok r hi' (fun d hd => h d (List.mem_cons_of_mem _ hd)) fun es η2 hi2 ho => q es η2 hi2 (.skip hr ho)⟩
    | some x => exact ⟨hok _ hi', lc_inv I R hok r hi' (fun d hd => h d (List.mem_cons_of_mem _ hd)) fun es η2 hi2 ho => q (x :: es) η2 hi2 (.put hr ho)⟩
/-! loops -/
theorem for_inv {tg : Tg} {body : LTS} {ok : Reg → Prop} {P : LEnds} (I : List D → Sl → Reg → Prop)
    (step : ∀ d r ρ η (N : Sl → Reg → Prop), I (d :: r) ρ η → (∀ ρ η, I r ρ η → N ρ η) → wTg tg d ρ fun ρ' => body { P with nx := fun ρ η => ok η ∧ N ρ η, ct := fun ρ η => ok η ∧ N ρ η, bk := P.nx } ρ' η) (fin : ∀ ρ η, I [] ρ η → P.nx ρ η) :
    ∀ (ds : List D) {ρ : Sl} {η : Reg}, I ds ρ η → wFor tg body ok ds P ρ η
  | [], ρ, η, h => fin ρ η h
  | d :: r, ρ, η, h => step d r ρ η _ h fun ρ η h => for_inv I step fin r h
theorem wFn_of {Γ : Env} {body : Ss} {m n : Nat} {vs : List Vl} {obs : List Ob} {Q : Vl → List Ob → Prop} {P : LEnds} (hP : P = ⟨fun _ η => (match outs obs.length η with
      | some os => Q (.dat .none) os
      | none => False),
    fun v η => (match outs obs.length η with
      | some os => v.noPtr ∧ Q v os
      | none => False), fun _ _ => False, fun _ _ => False⟩) (h : wSs Γ body P (vs.map some ++ List.replicate (m - vs.length) none) (obs.map some ++ List.replicate n none)) : wFn Γ body m n vs obs Q := by
  subst hP; exact h

theorem divOk_j {i j : Int} (h : j.natAbs < 2 ^ 4000) : DivOk i j := by
  refine .inr ?_
  unfold Builtin.divisionGoesByPylong
  dsimp only
  have hx : (if (j == 0) = true then 0 else j.natAbs.log2 / 30 + 1) ≤ 134 := by
    split
    · omega
    · have : j.natAbs.log2 < 4000 := (Nat.log2_lt (by rename_i h; intro z; exact h (by simp; omega))).mpr h
      omega
  simp only [Bool.and_eq_false_iff, decide_eq_false_iff_not]
  left
  omega
theorem divOk_d {i j : Int} (h0 : 0 < j) (h1 : j < 10000000000000000000000000000000000000000) : DivOk i j := divOk_j (by
  have : (2 : Nat) ^ 200 ≤ 2 ^ 4000 := Nat.pow_le_pow_right (by omega) (by omega)
  have e : (10000000000000000000000000000000000000000 : Nat) < 2 ^ 200 := by decide
  omega)
/-! ## the draw -/
/-- the stand of the draw: cells, place, what is left of a large cell, seed -/
def Std (o : Ob) : Prop := ∃ (cells : List Int) (i pend seed : Int), o = .lst [cellsD cells, .int i, .int pend, .int seed, .int 3] ∧ 0 ≤ i
theorem Std.first (cells : List Int) : Std (stand cells) := ⟨cells, 0, 0, 7, rfl, by omega⟩
def spDraw : PSpec := fun vs obs Q => ∃ (many : Int) (o : Ob), vs = [.ptr 0, .dat (.int many)] ∧ obs = [o] ∧ Std o ∧ 0 < many ∧ many < 10000000000000000000000000000000000000000 ∧ ∀ (r : Int) (o' : Ob), 0 ≤ r → r < many → Std o' → Q (.dat (.int r)) [o']
theorem draw_w {η : Reg} {n : Nat} {o : Ob} {many : Int} {Q : Vl → Reg → Prop} (ho : η[n]? = some (some o)) (hs : Std o) (h0 : 0 < many) (h1 : many < 10000000000000000000000000000000000000000)
    (k : ∀ (r : Int) (o' : Ob), 0 ≤ r → r < many → Std o' → Q (.dat (.int r)) (η.set n (some o'))) : callW spDraw [.ptr n, .dat (.int many)] η Q := by
  refine ⟨by simp [regsOf], ?_⟩
  simp only [regsOf, obsAt, ho]
  exact ⟨many, o, rfl, rfl, hs, h0, h1, fun r o' a b c => ⟨rfl, trivial, k r o' a b c⟩⟩
end Pl

namespace Pl
open PySem PySem.Spec PyProof.Rows L2

/-! ## whole numbers, ranges, lists of numbers -/
abbrev iD (ns : List Int) : List D := ns.map PyData.int
theorem rng_zero (n : Nat) : rangeD 0 n = (List.range n).map fun k => PyData.int (k : Nat) := by
  unfold rangeD
  simp
theorem rng_mem {lo : Int} {n : Nat} {d : D} (h : d ∈ rangeD lo n) : ∃ k : Nat, k < n ∧ d = .int (lo + (k : Nat)) := by
  unfold rangeD at h
  obtain ⟨k, hk, rfl⟩ := List.mem_map.mp h
  exact ⟨k, List.mem_range.mp hk, rfl⟩
theorem rng_size (lo : Int) (n : Nat) : (rangeD lo n).length = n := by unfold rangeD; rw [List.length_map, List.length_range]
theorem iD_add (ns : List Int) (i : Int) : iD ns ++ [.int i] = iD (ns ++ [i]) := by
  show _ = (ns ++ [i]).map PyData.int
  rw [List.map_append]
  rfl
theorem rng_cons (lo : Int) (n : Nat) : rangeD lo (n + 1) = .int lo :: rangeD (lo + 1) n := by
  unfold rangeD
  rw [List.range_succ_eq_map, List.map_cons, List.map_map]
  congr 1
  · simp
  · refine List.map_congr_left fun k _ => ?_
    show PyData.int (lo + ((k + 1 : Nat) : Int)) = .int (lo + 1 + (k : Int))
    congr 1
    omega
/-- a loop over a range -/
theorem for_rng {i : Nat} {body : LTS} {ok : Reg → Prop} {P : LEnds} (I : Nat → Sl → Reg → Prop) (lo n : Nat)
    (step : ∀ k ρ η (N : Sl → Reg → Prop), lo ≤ k → k < lo + n → I k ρ η → (∀ ρ η, I (k + 1) ρ η → N ρ η) → body { P with nx := fun ρ η => ok η ∧ N ρ η, ct := fun ρ η => ok η ∧ N ρ η, bk := P.nx } (ρ.set i (some (.dat (.int (k : Nat))))) η)
    (fin : ∀ ρ η, I (lo + n) ρ η → P.nx ρ η) {ρ : Sl} {η : Reg} (h : I lo ρ η) : wFor (.one i) body ok (rangeD lo n) P ρ η := by
  have go : ∀ (m k : Nat) (ρ : Sl) (η : Reg), lo ≤ k → k + m = lo + n → I k ρ η → wFor (.one i) body ok (rangeD k m) P ρ η := by
    intro m
    induction m with
    | zero =>
      intro k ρ η _ e h
      have : k = lo + n := by omega
      subst this
      exact fin ρ η h
    | succ m ih =>
      intro k ρ η hk e h
      rw [rng_cons]
      refine step k ρ η _ hk (by omega) h fun ρ η h => ?_
      have := ih (k + 1) ρ η (by omega) (by omega) h
      exact this
  exact go n lo ρ η (Nat.le_refl _) rfl h
theorem for_rng0 {i : Nat} {body : LTS} {ok : Reg → Prop} {P : LEnds} (I : Nat → Sl → Reg → Prop) (n : Nat)
    (step : ∀ k ρ η (N : Sl → Reg → Prop), k < n → I k ρ η → (∀ ρ η, I (k + 1) ρ η → N ρ η) → body { P with nx := fun ρ η => ok η ∧ N ρ η, ct := fun ρ η => ok η ∧ N ρ η, bk := P.nx } (ρ.set i (some (.dat (.int (k : Nat))))) η)
    (fin : ∀ ρ η, I n ρ η → P.nx ρ η) {ρ : Sl} {η : Reg} (h : I 0 ρ η) : wFor (.one i) body ok (rangeD 0 n) P ρ η :=
  for_rng I 0 n (fun k ρ η N _ hk => step k ρ η N (by omega)) (fun ρ η h => fin ρ η (by rw [Nat.zero_add] at h; exact h)) h
theorem at_ints {ns : List Int} {k : Nat} (h : k < ns.length) : atI (iD ns) (k : Int) = some (.int (ns.getD k 0)) := by
  refine atI_nat ?_
  rw [List.getElem?_map, List.getElem?_eq_getElem h, List.getD_eq_getElem?_getD, List.getElem?_eq_getElem h]
  rfl
theorem ix_ints {ns : List Int} {k : Nat} (h : k < ns.length) (Q : D → Prop) (q : Q (.int (ns.getD k 0))) : ∃ d, atI (iD ns) (k : Int) = some d ∧ Q d := ⟨_, at_ints h, q⟩
theorem outs_ints {R : D → Option D → Prop} {P : Int → Prop} (hR : ∀ d o, R d o → ∃ r, o = some (.int r) ∧ P r) : ∀ {ds es : List D}, Outs R ds es → ∃ ns : List Int, es = iD ns ∧ ns.length = ds.length ∧ ∀ r ∈ ns, P r
  | _, _, .nil => ⟨[], rfl, rfl, fun _ h => nomatch h⟩
  | _, _, .put r t => by
    obtain ⟨ns, rfl, hl, hp⟩ := outs_ints hR t
    obtain ⟨i, e, p⟩ := hR _ _ r
    cases e
    exact ⟨i :: ns, rfl, by rw [List.length_cons, List.length_cons, hl], fun x hx => by
      rcases List.mem_cons.mp hx with rfl | hx
      · exact p
      · exact hp x hx⟩
  | _, _, .skip r t => by
    obtain ⟨i, e, p⟩ := hR _ _ r
    cases e
theorem ints_of : ∀ {xs : List D}, (∀ d ∈ xs, ∃ i : Int, d = .int i) → ∃ ns : List Int, xs = iD ns
  | [], _ => ⟨[], rfl⟩
  | x :: xs, h => by
    obtain ⟨i, rfl⟩ := h x List.mem_cons_self
    obtain ⟨ns, rfl⟩ := ints_of fun d hd => h d (List.mem_cons_of_mem _ hd)
    exact ⟨i :: ns, rfl⟩
/-- several numbers sorted -/
theorem sort_ints (ns : List Int) : (PySem.W.AllAlike (iD ns) ∧ PySem.W.Sortable (iD ns) ∧ ∀ d ∈ iD ns, d.depth ≤ 50) ∧ ∃ ms : List Int, (iD ns).mergeSort (PySem.W.dataLe false id) = iD ms ∧ ms.length = ns.length := by
  have isI : ∀ d ∈ iD ns, ∃ i : Int, d = .int i := fun d hd => by
    obtain ⟨i, _, rfl⟩ := List.mem_map.mp hd
    exact ⟨i, rfl⟩
  have pm := List.mergeSort_perm (iD ns) (PySem.W.dataLe false id)
  refine ⟨⟨fun d hd e he => ?_, .inr fun d hd => ?_, fun d hd => ?_⟩, ?_⟩
  · obtain ⟨i, rfl⟩ := isI d hd
    obtain ⟨j, rfl⟩ := isI e he
    rfl
  · obtain ⟨i, rfl⟩ := isI d hd
    exact ⟨fun e => (nomatch e), fun xs e => (nomatch e)⟩
  · obtain ⟨i, rfl⟩ := isI d hd
    rw [dep_int]; omega
  · obtain ⟨ms, e⟩ := ints_of fun d hd => isI d (pm.mem_iff.mp hd)
    refine ⟨ms, e, ?_⟩
    have := pm.length_eq
    rw [e, List.length_map, List.length_map] at this
    exact this
/-! bits -/
theorem n_shl (n : Nat) : (1 : Int) * 2 ^ (Int.toNat (n : Nat)) = ((2 ^ n : Nat) : Int) := by
  rw [Int.toNat_natCast, Int.one_mul]
  simp
theorem n_band (a b : Nat) : Builtin.bitAnd (a : Int) (b : Int) = ((a &&& b : Nat) : Int) := by
  unfold Builtin.bitAnd
  rw [decide_eq_true (Int.natCast_nonneg a), decide_eq_true (Int.natCast_nonneg b)]
  rfl
theorem n_not (a : Nat) : Builtin.bitNot (a : Int) = -((a : Int) + 1) := by
  unfold Builtin.bitNot
  omega
theorem n_bor (a b : Nat) : Builtin.bitOr (a : Int) (b : Int) = ((a ||| b : Nat) : Int) := by
  have e : ∀ c : Nat, Builtin.bitNot (-((c : Int) + 1)) = c := fun c => by unfold Builtin.bitNot; omega
  unfold Builtin.bitOr
  rw [n_not, n_not]
  unfold Builtin.bitAnd
  rw [decide_eq_false (by omega), decide_eq_false (by omega)]
  dsimp only
  rw [e, e, n_not]
  unfold Builtin.bitNot
  rw [Int.toNat_natCast, Int.toNat_natCast]
  omega
theorem n_bit (m j : Nat) : Builtin.bitAnd ((m : Int) / 2 ^ (Int.toNat (j : Nat))) 1 = ((m / 2 ^ j % 2 : Nat) : Int) := by
  have e : (m : Int) / 2 ^ (Int.toNat (j : Nat)) = ((m / 2 ^ j : Nat) : Int) := by
    rw [Int.toNat_natCast]
    simp
  rw [e, show (1 : Int) = ((1 : Nat) : Int) from rfl, n_band, Nat.and_one_is_mod]
theorem n_bitq (m j : Nat) : PyData.eqv (.int ((m / 2 ^ j % 2 : Nat) : Int)) (.int 1) = m.testBit j := by
  rw [eqv_int, Nat.testBit_eq_decide_div_mod_eq]
  exact decide_eq_decide.mpr (by omega)
theorem sh_small {j : Nat} (h : j ≤ 1000) : ShOk 1 (j : Int) := ⟨by omega, .inl ⟨by omega, by decide⟩⟩
theorem nat_nn (j : Nat) : (0 : Int) ≤ (j : Int) := Int.natCast_nonneg j
theorem cut_ints (ns : List Int) (lo hi : Option Int) : cutL (iD ns) lo hi = iD (cutL ns lo hi) := by
  unfold cutL iD
  rw [List.length_map, List.map_take, List.map_drop]
theorem intsOf_ints {ns : List Int} {Q : List Int → Prop} (q : Q ns) : intsOf (iD ns) Q := ⟨ns, rfl, q⟩
theorem eqvAll_ints (xs ys : List Int) : PyData.eqvAll (iD xs) (iD ys) = decide (xs = ys) := by
  induction xs generalizing ys with
  | nil =>
    cases ys with
    | nil => rw [PyData.eqvAll.eq_def]; rfl
    | cons y ys => rw [PyData.eqvAll.eq_def]; rfl
  | cons x xs ih =>
    cases ys with
    | nil => rw [PyData.eqvAll.eq_def]; rfl
    | cons y ys =>
      show PyData.eqvAll (.int x :: iD xs) (.int y :: iD ys) = _
      rw [PyData.eqvAll, eqv_int, ih]
      rw [Bool.eq_iff_iff]
      simp
/-! math.gcd -/
def spGcd : PSpec := fun vs obs Q => ∃ a b : Int, vs = [.dat (.int a), .dat (.int b)] ∧ obs = [] ∧ Q (.dat (.int ((Nat.gcd a.natAbs b.natAbs : Nat) : Int))) []
theorem gcd_kn {P : Program} {w : World} {K : PySem.W.Frag} {mg : Str → Option Value} {base : Heap} {k : Nat} {x : Str} (h : mg x = some (.builtin "math.gcd")) : Kn P w K mg base k x spGcd := by
  refine ⟨.inr ⟨"math.gcd", h, fun Y pins s σ H xs us Q I r q => cr_gcd pins s σ H xs us Q I r ?_, fun obs Q q => ?_⟩⟩
  · obtain ⟨G, L, Z, obs, vs, Qp, h1, h2, S, rv, ⟨a, b, rfl, rfl, q⟩, k⟩ := q
    obtain ⟨u, v, rfl, ru, rb⟩ := RepVs.two rv
    cases Rp.int_inv ru
    cases Rp.int_inv rb
    exact ⟨a, b, rfl, k _ (.dat _) L Z [] H S rfl (show Rp Z (.int _) (.int _) from .int _) trivial q⟩
  · obtain ⟨a, b, e, _⟩ := q
    cases e
theorem gcd_w {a b : Int} {η : Reg} {Q : Vl → Reg → Prop} (q : Q (.dat (.int ((Nat.gcd a.natAbs b.natAbs : Nat) : Int))) η) : callW spGcd [.dat (.int a), .dat (.int b)] η Q :=
  call_0 rfl rfl ⟨a, b, rfl, rfl, rfl, trivial, q⟩
theorem r_putc (n : Nat) (ns : List Nat) (o : Ob) (os : List Ob) (η : Reg) : putAll (n :: ns) (o :: os) η = putAll ns os (η.set n (some o)) := rfl
theorem ixN_nat {n k : Nat} (h : k < n) : ixN n (k : Int) = some k := by
  rw [ixN_pos (by omega) (by omega), Int.toNat_natCast]
/-- a call that hands on two registers -/
theorem call_2 {sp : PSpec} {vs vs' : List Vl} {η : Reg} {Q : Vl → Reg → Prop} {n k : Nat} {o p : Ob} (hv : regsOf vs = [n, k]) (hr : renum 0 vs = vs') (hn : n ≠ k) (ho : η[n]? = some (some o)) (hp : η[k]? = some (some p))
    (h : sp vs' [o, p] fun v os => os.length = 2 ∧ v.noPtr ∧ Q v (putAll [n, k] os η)) : callW sp vs η Q := by
  refine ⟨by rw [hv]; simpa using hn, ?_⟩
  rw [hv, hr]
  simp only [obsAt, ho, hp]
  exact h
/-- a slot that never holds a register -/
abbrev sd (x : Option D) : Option Vl := x.map Vl.dat
theorem r_clrD (n : Nat) (x : Option D) (l : Sl) : clr n (Option.map Vl.dat x :: l) = Option.map Vl.dat x :: clr n l := by cases x <;> rfl
theorem r_frzD (n : Nat) (d : D) (x : Option D) : frz1 n d (Option.map Vl.dat x) = Option.map Vl.dat x := by cases x <;> rfl
theorem r_sumt (xs : List D) (η : Reg) (Q : Vl → Prop) : biW .sum [.dat (.tuple xs)] η Q = intsOf xs fun ns => Q (.dat (.int ns.sum)) := rfl
theorem r_min1t (xs : List D) (η : Reg) (Q : Vl → Prop) : biW .min1 [.dat (.tuple xs)] η Q = intsOf xs fun ns => 0 < ns.length ∧ ∀ m ∈ ns, (∀ y ∈ ns, m ≤ y) → Q (.dat (.int m)) := rfl
theorem r_max1t (xs : List D) (η : Reg) (Q : Vl → Prop) : biW .max1 [.dat (.tuple xs)] η Q = intsOf xs fun ns => 0 < ns.length ∧ ∀ m ∈ ns, (∀ y ∈ ns, y ≤ m) → Q (.dat (.int m)) := rfl
/-! several values made into a tuple, a list -/
theorem r_ex0 (P : List D → Prop) : (∃ ds : List D, [] = ds.map Vl.dat ∧ P ds) = P [] := by
  refine propext ⟨?_, fun h => ⟨[], rfl, h⟩⟩
  rintro ⟨ds, e, h⟩
  cases ds with
  | nil => exact h
  | cons d ds => cases e
theorem r_exc (a : D) (vs : List Vl) (P : List D → Prop) : (∃ ds : List D, Vl.dat a :: vs = ds.map Vl.dat ∧ P ds) = ∃ ds : List D, vs = ds.map Vl.dat ∧ P (a :: ds) := by
  refine propext ⟨?_, ?_⟩
  · rintro ⟨ds, e, h⟩
    cases ds with
    | nil => cases e
    | cons d ds =>
      rw [List.map_cons] at e
      injection e with e1 e2
      cases e1
      exact ⟨ds, e2, h⟩
  · rintro ⟨ds, e, h⟩
    exact ⟨a :: ds, by rw [List.map_cons, ← e], h⟩
theorem r_sz0 : (0 ≤ sizeLine) = True := eq_true (by unfold sizeLine; omega)
theorem r_sz1 : (1 ≤ sizeLine) = True := eq_true (by unfold sizeLine; omega)
theorem r_sz2 : (2 ≤ sizeLine) = True := eq_true (by unfold sizeLine; omega)
theorem r_sz3 : (3 ≤ sizeLine) = True := eq_true (by unfold sizeLine; omega)
theorem r_sz4 : (4 ≤ sizeLine) = True := eq_true (by unfold sizeLine; omega)
theorem r_sz5 : (5 ≤ sizeLine) = True := eq_true (by unfold sizeLine; omega)
theorem r_sz6 : (6 ≤ sizeLine) = True := eq_true (by unfold sizeLine; omega)
theorem r_sz7 : (7 ≤ sizeLine) = True := eq_true (by unfold sizeLine; omega)
theorem r_sz8 : (8 ≤ sizeLine) = True := eq_true (by unfold sizeLine; omega)
theorem r_sz9 : (9 ≤ sizeLine) = True := eq_true (by unfold sizeLine; omega)
theorem r_sz10 : (10 ≤ sizeLine) = True := eq_true (by unfold sizeLine; omega)
theorem r_sz11 : (11 ≤ sizeLine) = True := eq_true (by unfold sizeLine; omega)
theorem r_sz12 : (12 ≤ sizeLine) = True := eq_true (by unfold sizeLine; omega)
theorem r_sz13 : (13 ≤ sizeLine) = True := eq_true (by unfold sizeLine; omega)
theorem r_sz14 : (14 ≤ sizeLine) = True := eq_true (by unfold sizeLine; omega)
theorem r_sz15 : (15 ≤ sizeLine) = True := eq_true (by unfold sizeLine; omega)
theorem r_sz16 : (16 ≤ sizeLine) = True := eq_true (by unfold sizeLine; omega)
theorem r_sz17 : (17 ≤ sizeLine) = True := eq_true (by unfold sizeLine; omega)
theorem r_sz18 : (18 ≤ sizeLine) = True := eq_true (by unfold sizeLine; omega)
theorem r_sz19 : (19 ≤ sizeLine) = True := eq_true (by unfold sizeLine; omega)
theorem r_sz20 : (20 ≤ sizeLine) = True := eq_true (by unfold sizeLine; omega)
end Pl

namespace Pl
open PySem PySem.Spec PyProof.Rows L2

/-! ## columns, atoms, lists of whole numbers: plain laws -/
theorem perm_map {α β : Type} {f : α → β} {l es : List β} (h : l.Perm es) : ∀ {as : List α}, l = as.map f → ∃ bs : List α, es = bs.map f ∧ bs.Perm as := by
  induction h with
  | nil => exact fun {as} e => ⟨as, e, List.Perm.refl _⟩
  | cons x _ ih =>
    intro as e
    cases as with
    | nil => cases e
    | cons a as =>
      rw [List.map_cons] at e
      injection e with e1 e2
      obtain ⟨bs, h1, h2⟩ := ih e2
      exact ⟨a :: bs, by rw [List.map_cons, ← h1, e1], h2.cons a⟩
  | swap x y l =>
    intro as e
    cases as with
    | nil => cases e
    | cons a as =>
      cases as with
      | nil => rw [List.map_cons] at e; injection e with _ e2; cases e2
      | cons b as =>
        rw [List.map_cons, List.map_cons] at e
        injection e with e1 e2
        injection e2 with e2 e3
        exact ⟨b :: a :: as, by rw [List.map_cons, List.map_cons, ← e1, ← e2, ← e3], List.Perm.swap _ _ _⟩
  | trans _ _ i1 i2 =>
    intro as e
    obtain ⟨bs, h1, h2⟩ := i1 e
    obtain ⟨cs, h3, h4⟩ := i2 h1
    exact ⟨cs, h3, h4.trans h2⟩
theorem sub_map {α β : Type} {f : α → β} {es l : List β} (h : es.Sublist l) : ∀ {as : List α}, l = as.map f → ∃ bs : List α, es = bs.map f ∧ bs.Sublist as := by
  induction h with
  | slnil => exact fun {as} e => ⟨[], rfl, List.nil_sublist _⟩
  | cons x _ ih =>
    intro as e
    cases as with
    | nil => cases e
    | cons a as =>
      rw [List.map_cons] at e
      injection e with e1 e2
      obtain ⟨bs, h1, h2⟩ := ih e2
      exact ⟨bs, h1, h2.cons a⟩
  | cons_cons x _ ih =>
    intro as e
    cases as with
    | nil => cases e
    | cons a as =>
      rw [List.map_cons] at e
      injection e with e1 e2
      obtain ⟨bs, h1, h2⟩ := ih e2
      exact ⟨a :: bs, by rw [List.map_cons, ← h1, e1], h2.cons_cons a⟩
theorem erase_perm {α : Type} : ∀ {l : List α} {j : Nat} {d : α}, l[j]? = some d → (d :: l.eraseIdx j).Perm l
  | [], j, d, h => by simp at h
  | a :: l, 0, d, h => by
    rw [List.getElem?_cons_zero] at h
    cases h
    exact List.Perm.refl _
  | a :: l, j + 1, d, h => by
    rw [List.getElem?_cons_succ] at h
    rw [List.eraseIdx_cons_succ]
    exact (List.Perm.swap _ _ _).trans ((erase_perm h).cons a)
def rI (m : Nat) : List Int := (List.range m).map fun k : Nat => (k : Int)
theorem mem_rI {m : Nat} {c : Int} : c ∈ rI m ↔ 0 ≤ c ∧ c < m := by
  unfold rI
  rw [List.mem_map]
  constructor
  · rintro ⟨k, hk, rfl⟩
    rw [List.mem_range] at hk
    omega
  · rintro ⟨h0, h1⟩
    exact ⟨c.toNat, List.mem_range.mpr (by omega), by omega⟩
theorem nd_rI (m : Nat) : (rI m).Nodup := by
  unfold rI
  refine List.Pairwise.map (R := (· ≠ ·)) _ (fun a b h e => h ?_) List.nodup_range
  omega
theorem len_rI (m : Nat) : (rI m).length = m := by unfold rI; rw [List.length_map, List.length_range]
/-- different columns of m -/
def Cols (m : Nat) (a : List Int) : Prop := a.Nodup ∧ ∀ c ∈ a, 0 ≤ c ∧ c < (m : Int)
theorem Cols.len {m : Nat} {a : List Int} (h : Cols m a) : a.length ≤ m := by
  have := h.1.length_le_of_subset (l₂ := rI m) fun c hc => mem_rI.mpr (h.2 c hc)
  rwa [len_rI] at this
theorem cols_rI (m : Nat) : Cols m (rI m) := ⟨nd_rI m, fun _ h => mem_rI.mp h⟩
theorem Cols.perm {m : Nat} {a b : List Int} (h : Cols m a) (p : b.Perm a) : Cols m b := ⟨p.symm.nodup h.1, fun c hc => h.2 c (p.mem_iff.mp hc)⟩
theorem Cols.sub {m : Nat} {a b : List Int} (h : Cols m a) (p : b.Sublist a) : Cols m b := ⟨h.1.sublist p, fun c hc => h.2 c (p.subset hc)⟩
theorem Cols.up {m n : Nat} {a : List Int} (h : Cols m a) (hn : m ≤ n) : Cols n a := ⟨h.1, fun c hc => by have := h.2 c hc; omega⟩
theorem Cols.nil (m : Nat) : Cols m [] := ⟨List.nodup_nil, fun _ h => nomatch h⟩
theorem Cols.one {m : Nat} {c : Int} (h0 : 0 ≤ c) (h1 : c < m) : Cols m [c] := ⟨by simp, fun x hx => by rw [List.mem_singleton.mp hx]; exact ⟨h0, h1⟩⟩
theorem Cols.snoc {m : Nat} {a : List Int} {c : Int} (h : Cols m a) (h0 : 0 ≤ c) (h1 : c < m) (hc : c ∉ a) : Cols m (a ++ [c]) := by
  refine ⟨?_, fun x hx => ?_⟩
  · rw [List.nodup_append]
    refine ⟨h.1, by simp, fun x hx y hy e => hc ?_⟩
    rw [List.mem_singleton] at hy
    rw [← hy, ← e]
    exact hx
  · rcases List.mem_append.mp hx with hx | hx
    · exact h.2 x hx
    · rw [List.mem_singleton.mp hx]; exact ⟨h0, h1⟩
theorem Cols.app {m : Nat} {a b : List Int} (ha : Cols m a) (hb : Cols m b) (h : ∀ c ∈ a, c ∉ b) : Cols m (a ++ b) := by
  refine ⟨List.nodup_append.mpr ⟨ha.1, hb.1, fun x hx y hy e => h x hx (e ▸ hy)⟩, fun x hx => ?_⟩
  rcases List.mem_append.mp hx with hx | hx
  · exact ha.2 x hx
  · exact hb.2 x hx
/-- the number at a place -/
def nth (ns : List Int) (c : Int) : Int := ns.getD c.toNat 0
theorem nth_mem {ns : List Int} {c : Int} (h0 : 0 ≤ c) (h1 : c < (ns.length : Int)) : nth ns c ∈ ns := by
  unfold nth
  have : c.toNat < ns.length := by omega
  rw [List.getD_eq_getElem?_getD, List.getElem?_eq_getElem this]
  exact List.getElem_mem this
/-- columns, named anew -/
theorem Cols.rename {m : Nat} {a ns : List Int} (h : Cols m a) (p : ns.Perm (rI m)) : Cols m (a.map (nth ns)) := by
  have hl : ns.length = m := by rw [p.length_eq, len_rI]
  have nd : ns.Nodup := p.symm.nodup (nd_rI m)
  refine ⟨?_, fun c hc => ?_⟩
  · rw [List.nodup_iff_pairwise_ne, List.pairwise_map]
    refine List.Pairwise.imp_of_mem (R := (· ≠ ·)) (fun {x y} hx hy hne e => hne ?_) h.1
    have bx := h.2 x hx
    have by' := h.2 y hy
    unfold nth at e
    have lx : x.toNat < ns.length := by omega
    have ly : y.toNat < ns.length := by omega
    rw [List.getD_eq_getElem?_getD, List.getElem?_eq_getElem lx, List.getD_eq_getElem?_getD, List.getElem?_eq_getElem ly, Option.getD_some, Option.getD_some, List.getElem_inj nd] at e
    omega
  · obtain ⟨x, hx, rfl⟩ := List.mem_map.mp hc
    have bx := h.2 x hx
    exact mem_rI.mp (p.mem_iff.mp (nth_mem bx.1 (by omega)))
/-- the columns of an order that an atom has -/
theorem line_len {m : Nat} {a od : List Int} (h : Cols m a) (p : od.Perm (rI m)) : (od.filter fun c => decide (c ∈ a)).length = a.length := by
  refine List.Perm.length_eq ((List.perm_ext_iff_of_nodup ((p.symm.nodup (nd_rI m)).sublist List.filter_sublist) h.1).mpr fun c => ?_)
  rw [List.mem_filter, decide_eq_true_iff]
  exact ⟨fun z => z.2, fun z => ⟨p.mem_iff.mpr (mem_rI.mpr (h.2 c z)), z⟩⟩
/-! sums -/
theorem sum_cons (x : Int) (xs : List Int) : (x :: xs).sum = x + xs.sum := List.sum_cons
theorem sum_app (xs ys : List Int) : (xs ++ ys).sum = xs.sum + ys.sum := List.sum_append
/-- one number of several exchanged: a sum over different places -/
theorem sum_set : ∀ (cs : List Int) (ns : List Int) (c v : Int), cs.Nodup → (∀ x ∈ cs, 0 ≤ x ∧ x < (ns.length : Int)) → 0 ≤ c → c < (ns.length : Int) →
    (cs.map (nth (ns.set c.toNat v))).sum = (cs.map (nth ns)).sum + if c ∈ cs then v - nth ns c else 0
  | [], _, _, _, _, _, _, _ => rfl
  | x :: cs, ns, c, v, nd, hb, h0, h1 => by
    rw [List.nodup_cons] at nd
    have bx := hb x List.mem_cons_self
    have ih := sum_set cs ns c v nd.2 (fun y hy => hb y (List.mem_cons_of_mem _ hy)) h0 h1
    rw [List.map_cons, List.map_cons, sum_cons, sum_cons, ih]
    by_cases e : c = x
    · subst e
      rw [if_neg nd.1, if_pos List.mem_cons_self]
      have : nth (ns.set c.toNat v) c = v := by
        unfold nth
        rw [List.getD_eq_getElem?_getD, List.getElem?_set_self (by omega)]
        rfl
      rw [this]
      omega
    · have e2 : nth (ns.set c.toNat v) x = nth ns x := by
        unfold nth
        rw [List.getD_eq_getElem?_getD, List.getElem?_set_ne (by omega), List.getD_eq_getElem?_getD]
      rw [e2]
      have : (c ∈ x :: cs) ↔ c ∈ cs := by rw [List.mem_cons]; exact ⟨fun h => h.resolve_left e, .inr⟩
      by_cases hc : c ∈ cs
      · rw [if_pos hc, if_pos (this.mpr hc)]; omega
      · rw [if_neg hc, if_neg (fun z => hc (this.mp z))]; omega
end Pl

namespace Pl
open PySem PySem.Spec PyProof.Rows L2

/-! new_columns(term): registers  -/
abbrev N_new_columns : List Str := ["term", "column"]
def c_new_columns_1 : Eo := (.so (.cmp .notin (.var 1) (.idx (.var 0) (.lit (.int 1)))))
def e_new_columns_1 : E := (.var 1)
def b_new_columns : Ss :=
 (.cons (.ret (.bi .tuple (.cons (.lc (.one 1) [1] (.seq (.idx (.var 0) (.lit (.int 2)))) c_new_columns_1 e_new_columns_1) .nil))) .nil)
-- calls: ; np 0, n 0; slots 0:term 1:column

/-! ratio(p, q): registers  -/
abbrev N_ratio : List Str := ["p", "q", "common"]
def r_ratio_1 : Ss :=
 (.cons (.asg 2 none (.call 0 (.cons (.var 0) (.cons (.var 1) .nil))))
 (.cons (.ret (.tup (.cons (.bop .fdiv (.var 0) (.var 2)) (.cons (.bop .fdiv (.var 1) (.var 2)) .nil)))) .nil))
def b_ratio : Ss :=
 (.cons (.iff (.cmp .lt (.var 1) (.lit (.int 0))) (
  (.cons (.asg 0 none (.neg (.var 0)))
  (.cons (.asg 1 none (.neg (.var 1))) .nil))) ( .nil)) r_ratio_1)
-- calls: gcd; np 0, n 0; slots 0:p 1:q 2:common

/-! in_bounds(paper, many, most): registers  -/
abbrev N_in_bounds : List Str := ["paper", "many", "most", "part", "numbers", "number"]
def e_in_bounds_1 : E := (.chn .le .le (.lit (.int 0)) (.var 5) (.var 2))
def b_in_bounds : Ss :=
 (.cons (.asgT [3, 4] (.var 0))
 (.cons (.iff (.or (.not (.chn .le .le (.lit (.int 1)) (.var 3) (.con ("MOST_PART" : Str) (.int 60)))) (.cons (.cmp .ne (.bi .len (.cons (.var 4) .nil)) (.var 1)) .nil)) (
  (.cons (.ret (.lit (.bool false))) .nil)) ( .nil))
 (.cons (.ret (.bi .all (.cons (.lc (.one 5) [5] (.seq (.var 4)) .no e_in_bounds_1) .nil))) .nil)))
-- calls: ; np 0, n 0; slots 0:paper 1:many 2:most 3:part 4:numbers 5:number

/-! _law_draw(d, many): registers d=0 -/
abbrev N__law_draw : List Str := ["d", "many", "size", "found", "cell"]
def b__law_draw : Ss :=
 (.cons (.iff (.cmp .gt (.idx (.var 0) (.lit (.int 2))) (.lit (.int 0))) (
  (.cons (.asg 3 none (.idx (.var 0) (.lit (.int 2))))
  (.cons (.sto (.var 0) (.lit (.int 2)) (.bop .fdiv (.var 3) (.var 1)))
  (.cons (.ret (.bop .mod (.bi .int (.cons (.var 3) .nil)) (.var 1))) .nil)))) ( .nil))
 (.cons (.asg 2 none (.lit (.int 0)))
 (.cons (.iff (.cmp .lt (.idx (.var 0) (.lit (.int 1))) (.bi .len (.cons (.idx (.var 0) (.lit (.int 0))) .nil))) (
  (.cons (.asg 4 none (.idx (.idx (.var 0) (.lit (.int 0))) (.idx (.var 0) (.lit (.int 1)))))
  (.cons (.asg 2 none (.bop .add (.bop .mul (.lit (.int 2)) (.bi .abs (.cons (.var 4) .nil))) (.bi .int (.cons (.cmp .lt (.var 4) (.lit (.int 0))) .nil)))) .nil))) ( .nil))
 (.cons (.augS (.var 0) (.lit (.int 1)) (.lit (.int 1)))
 (.cons (.iff (.cmp .ge (.var 2) (.bop .mul (.lit (.int 2)) (.bop .pow (.lit (.int 10)) (.lit (.int 18))))) (
  (.cons (.asg 3 none (.bop .mod (.bi .int (.cons (.bop .fdiv (.var 2) (.lit (.int 2))) .nil)) (.bop .shl (.lit (.int 1)) (.lit (.int 6000)))))
  (.cons (.sto (.var 0) (.lit (.int 2)) (.bop .fdiv (.var 3) (.var 1)))
  (.cons (.ret (.bop .mod (.bi .int (.cons (.var 3) .nil)) (.var 1))) .nil)))) ( .nil))
 (.cons (.sto (.var 0) (.lit (.int 3)) (.bop .mod (.bi .int (.cons (.bop .add (.bop .add (.bop .add (.bop .mul (.idx (.var 0) (.lit (.int 3))) (.lit (.int 48271))) (.bop .mul (.bop .mod (.bi .int (.cons (.var 2) .nil)) (.lit (.int 2147483629))) (.lit (.int 16807)))) (.bop .mul (.idx (.var 0) (.lit (.int 1))) (.lit (.int 69621)))) (.lit (.int 11))) .nil)) (.lit (.int 2147483647))))
 (.cons (.ret (.bop .mod (.bi .int (.cons (.bop .fdiv (.idx (.var 0) (.lit (.int 3))) (.lit (.int 16))) .nil)) (.var 1))) .nil)))))))
-- calls: ; np 1, n 0; slots 0:d 1:many 2:size 3:found 4:cell

/-! _law_pick(d, row): registers d=0 -/
abbrev N__law_pick : List Str := ["d", "row"]
def b__law_pick : Ss :=
 (.cons (.ret (.idx (.var 1) (.call 0 (.cons (.var 0) (.cons (.bi .len (.cons (.var 1) .nil)) .nil))))) .nil)
-- calls: _law_draw; np 1, n 0; slots 0:d 1:row

/-! _law_pop(d, row): registers d=0, row=1 -/
abbrev N__law_pop : List Str := ["d", "row"]
def b__law_pop : Ss :=
 (.cons (.ret (.met .popAt (.var 1) (.cons (.call 0 (.cons (.var 0) (.cons (.bi .len (.cons (.var 1) .nil)) .nil))) .nil))) .nil)
-- calls: _law_draw; np 2, n 0; slots 0:d 1:row

/-! _law_rare(d, many): registers d=0 -/
abbrev N__law_rare : List Str := ["d", "many"]
def b__law_rare : Ss :=
 (.cons (.ret (.cmp .eq (.call 0 (.cons (.var 0) (.cons (.var 1) .nil))) (.bop .fdiv (.var 1) (.lit (.int 2))))) .nil)
-- calls: _law_draw; np 1, n 0; slots 0:d 1:many

/-! _law_shuffled(d, row): registers d=0, left=1, found=2 -/
abbrev N__law_shuffled : List Str := ["d", "row", "left", "found", "k"]
def l__law_shuffled_1 : Ss :=
 (.cons (.exp (.met .append (.var 3) (.cons (.met .popAt (.var 2) (.cons (.call 0 (.cons (.var 0) (.cons (.bi .len (.cons (.var 2) .nil)) .nil))) .nil)) .nil))) .nil)
def r__law_shuffled_1 : Ss :=
 (.cons (.for [] (.one 4) (.rng1 (.bi .len (.cons (.var 2) .nil))) l__law_shuffled_1)
 (.cons (.retP 3 2) .nil))
def b__law_shuffled : Ss :=
 (.cons (.asg 2 (some 1) (.bi .list (.cons (.var 1) .nil)))
 (.cons (.asg 3 (some 2) (.lst .nil)) r__law_shuffled_1))
-- calls: _law_draw; np 1, n 2; slots 0:d 1:row 2:left 3:found 4:k

/-! _law_is_int(thing): registers  -/
abbrev N__law_is_int : List Str := ["thing"]
def b__law_is_int : Ss :=
 (.cons (.ret (.and (.bi (.isi "int") (.cons (.var 0) .nil)) (.cons (.not (.bi (.isi "bool") (.cons (.var 0) .nil))) .nil))) .nil)
-- calls: ; np 0, n 0; slots 0:thing

/-! _law_are_ints(row): registers  -/
abbrev N__law_are_ints : List Str := ["row", "part"]
def e__law_are_ints_1 : E := (.call 0 (.cons (.var 1) .nil))
def b__law_are_ints : Ss :=
 (.cons (.ret (.and (.bi (.isi "tuple") (.cons (.var 0) .nil)) (.cons (.bi .all (.cons (.lc (.one 1) [1] (.seq (.var 0)) .no e__law_are_ints_1) .nil)) .nil))) .nil)
-- calls: _law_is_int; np 0, n 0; slots 0:row 1:part

/-! _law_is_ratio(thing): registers  -/
abbrev N__law_is_ratio : List Str := ["thing"]
def b__law_is_ratio : Ss :=
 (.cons (.iff (.or (.not (.call 0 (.cons (.var 0) .nil))) (.cons (.cmp .ne (.bi .len (.cons (.var 0) .nil)) (.lit (.int 2))) (.cons (.cmp .lt (.idx (.var 0) (.lit (.int 1))) (.lit (.int 1))) .nil))) (
  (.cons (.ret (.lit (.bool false))) .nil)) ( .nil))
 (.cons (.ret (.cmp .eq (.call 1 (.cons (.bi .abs (.cons (.idx (.var 0) (.lit (.int 0))) .nil)) (.cons (.idx (.var 0) (.lit (.int 1))) .nil))) (.lit (.int 1)))) .nil))
-- calls: _law_are_ints, _law_gcd; np 0, n 0; slots 0:thing

/-! _law_gcd(one, other): registers  -/
abbrev N__law_gcd : List Str := ["one", "other", "left", "right", "rest"]
def t__law_gcd_1 : E := (.cmp .gt (.var 3) (.lit (.int 0)))
def l__law_gcd_1 : Ss :=
 (.cons (.asg 4 none (.bop .mod (.bi .int (.cons (.var 2) .nil)) (.var 3)))
 (.cons (.asg 2 none (.var 3))
 (.cons (.asg 3 none (.var 4)) .nil)))
def b__law_gcd : Ss :=
 (.cons (.asg 2 none (.var 0))
 (.cons (.asg 3 none (.var 1))
 (.cons (.whl t__law_gcd_1 l__law_gcd_1)
 (.cons (.ret (.var 2)) .nil))))
-- calls: ; np 0, n 0; slots 0:one 1:other 2:left 3:right 4:rest

/-! _law_some(d, row): registers d=0 -/
abbrev N__law_some : List Str := ["d", "row", "thing"]
def c__law_some_1 : Eo := (.so (.cmp .eq (.call 0 (.cons (.var 0) (.cons (.lit (.int 2)) .nil))) (.lit (.int 1))))
def e__law_some_1 : E := (.var 2)
def b__law_some : Ss :=
 (.cons (.ret (.lc (.one 2) [2] (.seq (.var 1)) c__law_some_1 e__law_some_1)) .nil)
-- calls: _law_draw; np 1, n 0; slots 0:d 1:row 2:thing

/-! _law_query(d, most_columns, most_atoms, widest): registers d=0, atoms=1, left=2, atom=3 -/
abbrev N__law_query : List Str := ["d", "most_columns", "most_atoms", "widest", "many", "atoms", "k", "column", "left", "atom", "j", "at"]
def l__law_query_1 : Ss :=
 (.cons (.exp (.met .append (.var 9) (.cons (.call 1 (.cons (.var 0) (.cons (.var 8) .nil))) .nil))) .nil)
def r__law_query_1 : Ss :=
 (.cons (.for [] (.one 10) (.rng1 (.bi .min2 (.cons (.var 4) (.cons (.bop .add (.lit (.int 1)) (.call 0 (.cons (.var 0) (.cons (.var 3) .nil)))) .nil)))) l__law_query_1)
 (.cons (.exp (.met .append (.var 5) (.cons (.bi .tuple (.cons (.bi .sorted (.cons (.var 9) .nil)) .nil)) .nil))) .nil))
def l__law_query_2 : Ss :=
 (.cons (.asg 8 (some 2) (.bi .rlist1 (.cons (.var 4) .nil)))
 (.cons (.asg 9 (some 3) (.lst .nil)) r__law_query_1))
def e__law_query_1 : E := (.cmp .isin (.var 7) (.var 9))
def l__law_query_3 : Ss :=
 (.cons (.iff (.not (.bi .any (.cons (.lc (.one 9) [9] (.seq (.var 5)) .no e__law_query_1) .nil))) (
  (.cons (.asg 11 none (.call 0 (.cons (.var 0) (.cons (.bi .len (.cons (.var 5) .nil)) .nil))))
  (.cons (.sto (.var 5) (.var 11) (.bi .tuple (.cons (.bi .sorted (.cons (.bop .add (.idx (.var 5) (.var 11)) (.tup (.cons (.var 7) .nil))) .nil)) .nil))) .nil))) ( .nil)) .nil)
def b__law_query : Ss :=
 (.cons (.asg 4 none (.bop .add (.lit (.int 1)) (.call 0 (.cons (.var 0) (.cons (.var 1) .nil)))))
 (.cons (.asg 5 (some 1) (.lst .nil))
 (.cons (.for [] (.one 6) (.rng1 (.bop .add (.lit (.int 1)) (.call 0 (.cons (.var 0) (.cons (.var 2) .nil))))) l__law_query_2)
 (.cons (.for [] (.one 7) (.rng1 (.var 4)) l__law_query_3)
 (.cons (.ret (.tup (.cons (.lit (.str ("query" : Str))) (.cons (.var 4) (.cons (.bi .tuple (.cons (.var 5) .nil)) (.cons (.bi .rtup1 (.cons (.var 4) .nil)) .nil)))))) .nil)))))
-- calls: _law_draw, _law_pop; np 1, n 3; slots 0:d 1:most_columns 2:most_atoms 3:widest 4:many 5:atoms 6:k 7:column 8:left 9:atom 10:j 11:at

/-! _law_renamed(d, atoms, many): registers d=0 -/
abbrev N__law_renamed : List Str := ["d", "atoms", "many", "news", "atom", "column"]
def e__law_renamed_1 : E := (.idx (.var 3) (.var 5))
def e__law_renamed_2 : E := (.bi .tuple (.cons (.bi .sorted (.cons (.lc (.one 5) [5] (.seq (.var 4)) .no e__law_renamed_1) .nil)) .nil))
def b__law_renamed : Ss :=
 (.cons (.asg 3 none (.call 0 (.cons (.var 0) (.cons (.bi .rlist1 (.cons (.var 2) .nil)) .nil))))
 (.cons (.ret (.bi .tuple (.cons (.lc (.one 4) [4] (.seq (.call 0 (.cons (.var 0) (.cons (.var 1) .nil)))) .no e__law_renamed_2) .nil))) .nil))
-- calls: _law_shuffled; np 1, n 0; slots 0:d 1:atoms 2:many 3:news 4:atom 5:column

/-! _law_tree_query(d, most_columns, most_atoms): registers d=0, atoms=1, atom=2 -/
abbrev N__law_tree_query : List Str := ["d", "most_columns", "most_atoms", "many", "atoms", "k", "atom", "j"]
def l__law_tree_query_1 : Ss :=
 (.cons (.iff (.cmp .lt (.var 3) (.var 1)) (
  (.cons (.exp (.met .append (.var 6) (.cons (.var 3) .nil)))
  (.cons (.augN 3 (.lit (.int 1))) .nil))) ( .nil)) .nil)
def r__law_tree_query_1 : Ss :=
 (.cons (.for [] (.one 7) (.rng1 (.call 0 (.cons (.var 0) (.cons (.lit (.int 3)) .nil)))) l__law_tree_query_1)
 (.cons (.iff (.cmp .eq (.bi .len (.cons (.var 6) .nil)) (.lit (.int 0))) (
  (.cons (.asg 6 (some 2) (.lst (.cons (.call 0 (.cons (.var 0) (.cons (.var 3) .nil))) .nil))) .nil)) ( .nil))
 (.cons (.exp (.met .append (.var 4) (.cons (.bi .tuple (.cons (.bi .sorted (.cons (.var 6) .nil)) .nil)) .nil))) .nil)))
def l__law_tree_query_2 : Ss :=
 (.cons (.asg 6 (some 2) (.call 1 (.cons (.var 0) (.cons (.call 2 (.cons (.var 0) (.cons (.var 4) .nil))) .nil)))) r__law_tree_query_1)
def b__law_tree_query : Ss :=
 (.cons (.asg 3 none (.bi .min2 (.cons (.var 1) (.cons (.bop .add (.lit (.int 1)) (.call 0 (.cons (.var 0) (.cons (.lit (.int 3)) .nil)))) .nil))))
 (.cons (.asg 4 (some 1) (.lst (.cons (.bi .rtup1 (.cons (.var 3) .nil)) .nil)))
 (.cons (.for [] (.one 5) (.rng1 (.call 0 (.cons (.var 0) (.cons (.var 2) .nil)))) l__law_tree_query_2)
 (.cons (.frz 4 1)
 (.cons (.ret (.tup (.cons (.lit (.str ("query" : Str))) (.cons (.var 3) (.cons (.call 3 (.cons (.var 0) (.cons (.var 4) (.cons (.var 3) .nil)))) (.cons (.bi .rtup1 (.cons (.var 3) .nil)) .nil)))))) .nil)))))
-- calls: _law_draw, _law_some, _law_pick, _law_renamed; np 1, n 2; slots 0:d 1:most_columns 2:most_atoms 3:many 4:atoms 5:k 6:atom 7:j

/-! _law_ring_query(d, size, more): registers d=0, atoms=1 -/
abbrev N__law_ring_query : List Str := ["d", "size", "more", "atoms", "many", "k"]
def e__law_ring_query_1 : E := (.bi .tuple (.cons (.bi .sorted (.cons (.lst (.cons (.var 5) (.cons (.bop .mod (.bi .int (.cons (.bop .add (.var 5) (.lit (.int 1))) .nil)) (.var 1)) .nil))) .nil)) .nil))
def r__law_ring_query_1 : Ss :=
 (.cons (.frz 3 1)
 (.cons (.ret (.tup (.cons (.lit (.str ("query" : Str))) (.cons (.var 4) (.cons (.call 1 (.cons (.var 0) (.cons (.var 3) (.cons (.var 4) .nil)))) (.cons (.bi .rtup1 (.cons (.var 4) .nil)) .nil)))))) .nil))
def r__law_ring_query_2 : Ss :=
 (.cons (.iff (.cmp .gt (.var 2) (.lit (.int 1))) (
  (.cons (.exp (.met .append (.var 3) (.cons (.tup (.cons (.call 0 (.cons (.var 0) (.cons (.var 4) .nil))) .nil)) .nil))) .nil)) ( .nil)) r__law_ring_query_1)
def b__law_ring_query : Ss :=
 (.cons (.asg 3 (some 1) (.lc (.one 5) [5] (.rng1 (.var 1)) .no e__law_ring_query_1))
 (.cons (.asg 4 none (.var 1))
 (.cons (.iff (.and (.cmp .gt (.var 2) (.lit (.int 0))) (.cons (.cmp .eq (.call 0 (.cons (.var 0) (.cons (.lit (.int 2)) .nil))) (.lit (.int 1))) .nil)) (
  (.cons (.exp (.met .append (.var 3) (.cons (.tup (.cons (.call 0 (.cons (.var 0) (.cons (.var 1) .nil))) (.cons (.var 4) .nil))) .nil)))
  (.cons (.augN 4 (.lit (.int 1))) .nil))) ( .nil)) r__law_ring_query_2)))
-- calls: _law_draw, _law_renamed; np 1, n 1; slots 0:d 1:size 2:more 3:atoms 4:many 5:k

/-! _law_clique_query(d, size, more): registers d=0, atoms=1 -/
abbrev N__law_clique_query : List Str := ["d", "size", "more", "atoms", "many", "k", "c"]
def c__law_clique_query_1 : Eo := (.so (.cmp .ne (.var 6) (.var 5)))
def e__law_clique_query_1 : E := (.var 6)
def e__law_clique_query_2 : E := (.bi .tuple (.cons (.lc (.one 6) [6] (.rng1 (.var 1)) c__law_clique_query_1 e__law_clique_query_1) .nil))
def r__law_clique_query_1 : Ss :=
 (.cons (.frz 3 1)
 (.cons (.ret (.tup (.cons (.lit (.str ("query" : Str))) (.cons (.var 4) (.cons (.call 1 (.cons (.var 0) (.cons (.var 3) (.cons (.var 4) .nil)))) (.cons (.bi .rtup1 (.cons (.var 4) .nil)) .nil)))))) .nil))
def b__law_clique_query : Ss :=
 (.cons (.asg 3 (some 1) (.lc (.one 5) [5] (.rng1 (.var 1)) .no e__law_clique_query_2))
 (.cons (.asg 4 none (.var 1))
 (.cons (.iff (.cmp .gt (.var 2) (.lit (.int 0))) (
  (.cons (.exp (.met .append (.var 3) (.cons (.bi .tuple (.cons (.bi .sorted (.cons (.lst (.cons (.call 0 (.cons (.var 0) (.cons (.var 1) .nil))) (.cons (.var 4) .nil))) .nil)) .nil)) .nil)))
  (.cons (.augN 4 (.lit (.int 1))) .nil))) ( .nil)) r__law_clique_query_1)))
-- calls: _law_draw, _law_renamed; np 1, n 1; slots 0:d 1:size 2:more 3:atoms 4:many 5:k 6:c

/-! _law_nested_query(d, most_columns): registers d=0, parents=1, ways=2 -/
abbrev N__law_nested_query : List Str := ["d", "most_columns", "many", "parents", "column", "ways", "atoms", "way", "k"]
def l__law_nested_query_1 : Ss :=
 (.cons (.exp (.met .append (.var 3) (.cons (.bop .sub (.call 0 (.cons (.var 0) (.cons (.bop .add (.var 4) (.lit (.int 1))) .nil))) (.lit (.int 1))) .nil))) .nil)
def l__law_nested_query_2 : Ss :=
 (.cons (.asg 7 none (.lst (.cons (.var 4) .nil)))
 (.cons (.iff (.cmp .ge (.idx (.var 3) (.var 4)) (.lit (.int 0))) (
  (.cons (.asg 7 none (.bop .add (.idx (.var 5) (.idx (.var 3) (.var 4))) (.lst (.cons (.var 4) .nil)))) .nil)) ( .nil))
 (.cons (.exp (.met .append (.var 5) (.cons (.var 7) .nil))) .nil)))
def c__law_nested_query_1 : Eo := (.so (.cmp .notin (.var 4) (.var 3)))
def e__law_nested_query_1 : E := (.bi .tuple (.cons (.bi .sorted (.cons (.idx (.var 5) (.var 4)) .nil)) .nil))
def e__law_nested_query_2 : E := (.bi .tuple (.cons (.bi .sorted (.cons (.idx (.var 5) (.call 0 (.cons (.var 0) (.cons (.var 2) .nil)))) .nil)) .nil))
def b__law_nested_query : Ss :=
 (.cons (.asg 2 none (.bop .add (.lit (.int 1)) (.call 0 (.cons (.var 0) (.cons (.var 1) .nil)))))
 (.cons (.asg 3 (some 1) (.lst (.cons (.neg (.lit (.int 1))) .nil)))
 (.cons (.for [] (.one 4) (.rng2 (.lit (.int 1)) (.var 2)) l__law_nested_query_1)
 (.cons (.asg 5 (some 2) (.lst .nil))
 (.cons (.for [] (.one 4) (.rng1 (.var 2)) l__law_nested_query_2)
 (.cons (.asg 6 none (.lc (.one 4) [4] (.rng1 (.var 2)) c__law_nested_query_1 e__law_nested_query_1))
 (.cons (.asg 6 none (.bop .add (.var 6) (.lc (.one 8) [8] (.rng1 (.call 0 (.cons (.var 0) (.cons (.lit (.int 3)) .nil)))) .no e__law_nested_query_2)))
 (.cons (.ret (.tup (.cons (.lit (.str ("query" : Str))) (.cons (.var 2) (.cons (.call 1 (.cons (.var 0) (.cons (.sli (.var 6) .no (.so (.lit (.int 8)))) (.cons (.var 2) .nil)))) (.cons (.bi .rtup1 (.cons (.var 2) .nil)) .nil)))))) .nil))))))))
-- calls: _law_draw, _law_renamed; np 1, n 2; slots 0:d 1:most_columns 2:many 3:parents 4:column 5:ways 6:atoms 7:way 8:k

/-! _law_any_query(d, most_columns): registers d=0 -/
abbrev N__law_any_query : List Str := ["d", "most_columns", "way"]
def b__law_any_query : Ss :=
 (.cons (.asg 2 none (.call 0 (.cons (.var 0) (.cons (.lit (.int 8)) .nil))))
 (.cons (.iff (.cmp .lt (.var 2) (.lit (.int 3))) (
  (.cons (.ret (.call 1 (.cons (.var 0) (.cons (.var 1) (.cons (.lit (.int 3)) .nil))))) .nil)) ( .nil))
 (.cons (.iff (.cmp .eq (.var 2) (.lit (.int 3))) (
  (.cons (.ret (.call 2 (.cons (.var 0) (.cons (.bi .min2 (.cons (.var 1) (.cons (.bop .add (.lit (.int 3)) (.call 0 (.cons (.var 0) (.cons (.lit (.int 2)) .nil)))) .nil))) (.cons (.lit (.int 0)) .nil))))) .nil)) ( .nil))
 (.cons (.iff (.cmp .eq (.var 2) (.lit (.int 4))) (
  (.cons (.ret (.call 3 (.cons (.var 0) (.cons (.lit (.int 3)) (.cons (.bi .int (.cons (.cmp .gt (.var 1) (.lit (.int 3))) .nil)) .nil))))) .nil)) ( .nil))
 (.cons (.iff (.cmp .eq (.var 2) (.lit (.int 5))) (
  (.cons (.ret (.call 4 (.cons (.var 0) (.cons (.var 1) .nil)))) .nil)) ( .nil))
 (.cons (.ret (.call 5 (.cons (.var 0) (.cons (.var 1) (.cons (.lit (.int 4)) (.cons (.bop .add (.lit (.int 2)) (.call 0 (.cons (.var 0) (.cons (.lit (.int 2)) .nil)))) .nil)))))) .nil))))))
-- calls: _law_draw, _law_tree_query, _law_ring_query, _law_clique_query, _law_nested_query, _law_query; np 1, n 0; slots 0:d 1:most_columns 2:way

/-! _law_news(term): registers  -/
abbrev N__law_news : List Str := ["term", "column"]
def c__law_news_1 : Eo := (.so (.cmp .notin (.var 1) (.idx (.var 0) (.lit (.int 1)))))
def e__law_news_1 : E := (.var 1)
def b__law_news : Ss :=
 (.cons (.ret (.lc (.one 1) [1] (.seq (.idx (.var 0) (.lit (.int 2)))) c__law_news_1 e__law_news_1)) .nil)
-- calls: ; np 0, n 0; slots 0:term 1:column

/-! _law_plain_terms(query): registers  -/
abbrev N__law_plain_terms : List Str := ["query", "k"]
def e__law_plain_terms_1 : E := (.tup (.cons (.var 1) (.cons (.tup .nil) (.cons (.idx (.idx (.var 0) (.lit (.int 2))) (.var 1)) .nil))))
def b__law_plain_terms : Ss :=
 (.cons (.ret (.bi .tuple (.cons (.lc (.one 1) [1] (.rng1 (.bi .len (.cons (.idx (.var 0) (.lit (.int 2))) .nil))) .no e__law_plain_terms_1) .nil))) .nil)
-- calls: ; np 0, n 0; slots 0:query 1:k

/-! _law_term_by(d, query, order): registers d=0 -/
abbrev N__law_term_by : List Str := ["d", "query", "order", "wide_ones", "k", "line", "cut", "known", "end", "column"]
def c__law_term_by_1 : Eo := (.so (.cmp .gt (.bi .len (.cons (.idx (.idx (.var 1) (.lit (.int 2))) (.var 4)) .nil)) (.lit (.int 1))))
def e__law_term_by_1 : E := (.var 4)
def c__law_term_by_2 : Eo := (.so (.cmp .isin (.var 9) (.idx (.idx (.var 1) (.lit (.int 2))) (.var 4))))
def e__law_term_by_2 : E := (.var 9)
def r__law_term_by_1 : Ss :=
 (.cons (.asg 8 none (.bop .add (.bop .add (.var 6) (.lit (.int 1))) (.call 1 (.cons (.var 0) (.cons (.bop .sub (.bi .len (.cons (.var 5) .nil)) (.var 6)) .nil)))))
 (.cons (.ret (.tup (.cons (.var 4) (.cons (.bi .tuple (.cons (.bi .sorted (.cons (.var 7) .nil)) .nil)) (.cons (.bi .tuple (.cons (.bi .sorted (.cons (.bop .add (.var 7) (.sli (.var 5) (.so (.var 6)) (.so (.var 8)))) .nil)) .nil)) .nil))))) .nil))
def b__law_term_by : Ss :=
 (.cons (.asg 3 none (.lc (.one 4) [4] (.rng1 (.bi .len (.cons (.idx (.var 1) (.lit (.int 2))) .nil))) c__law_term_by_1 e__law_term_by_1))
 (.cons (.iff (.cmp .eq (.bi .len (.cons (.var 3) .nil)) (.lit (.int 0))) (
  (.cons (.ret (.lit .none)) .nil)) ( .nil))
 (.cons (.asg 4 none (.call 0 (.cons (.var 0) (.cons (.var 3) .nil))))
 (.cons (.asg 5 none (.lc (.one 9) [9] (.seq (.var 2)) c__law_term_by_2 e__law_term_by_2))
 (.cons (.asg 6 none (.bop .add (.lit (.int 1)) (.call 1 (.cons (.var 0) (.cons (.bop .sub (.bi .len (.cons (.var 5) .nil)) (.lit (.int 1))) .nil)))))
 (.cons (.asg 7 none (.sli (.var 5) .no (.so (.var 6))))
 (.cons (.iff (.cmp .eq (.call 1 (.cons (.var 0) (.cons (.lit (.int 3)) .nil))) (.lit (.int 0))) (
  (.cons (.asg 7 none (.sli (.var 7) (.so (.lit (.int 1))) .no)) .nil)) ( .nil)) r__law_term_by_1)))))))
-- calls: _law_pick, _law_draw; np 1, n 0; slots 0:d 1:query 2:order 3:wide_ones 4:k 5:line 6:cut 7:known 8:end 9:column

/-! _law_is_worth(told, p, q): registers  -/
abbrev N__law_is_worth : List Str := ["told", "p", "q"]
def b__law_is_worth : Ss :=
 (.cons (.ret (.and (.call 0 (.cons (.var 0) .nil)) (.cons (.cmp .eq (.bop .mul (.idx (.var 0) (.lit (.int 0))) (.var 2)) (.bop .mul (.var 1) (.idx (.var 0) (.lit (.int 1))))) .nil))) .nil)
-- calls: _law_is_ratio; np 0, n 0; slots 0:told 1:p 2:q

-- constants: {'MOST_PART': 60, 'MOST_NUMBER': 240}; not covered 0

local macro_rules | `(tactic| decreasing_trivial) => `(tactic| try simp only [wSs, wS, wE, wEs, wEo, wCond, wSrc, wAnd, wOr, Bool.false_eq_true, if_false, Bool.not_true, Bool.not_false, asT, onView_dat, onD_dat, fz_dat, fz_ptr, fz_fr, settled_dat, settled_ptr,  List.getElem?_cons_zero, List.getElem?_cons_succ, List.set_cons_zero, List.set_cons_succ, List.length_cons, List.length_nil, Nat.reduceAdd, Option.some.injEq, exists_eq_left', true_and, and_true, if_true, decide_eq_true_eq, Int.reduceToNat, Int.reducePow, Int.reduceLE, Int.reduceLT, Int.reduceMul, Int.reduceAdd, Int.reduceSub, Int.reduceNeg, Nat.reduceLT, Nat.reduceLeDiff, Nat.reduceMul, Nat.reducePow, Int.reduceAbs, Nat.reduceSub, List.map, List.replicate, List.cons_append, List.nil_append, List.append_nil, regsOf, renum, List.nodup_nil, r_add, r_adds, r_addt, r_addl, r_sub, r_mul, r_mull, r_mult, r_fdiv, r_mod, r_pow, r_band, r_bor, r_bxor, r_shl, r_shr, r_lt, r_le, r_gt, r_ge, r_lts, r_eq, r_ne, r_isin, r_notin, r_isin_list, r_isin_tuple, r_notin_list, r_notin_tuple, r_isnone, r_notnone, r_ixl, r_ixt, r_ixs, r_sll, r_slt, r_sls, r_len, r_int, r_intb, r_abs, r_min2, r_max2, r_sum, r_min1, r_max1, r_all, r_any, r_list, r_listt, r_tup, r_tupt, r_rl1, r_rl2, r_rt1, r_rt2, r_sort, r_sortt, r_isi, r_lenl, r_lent, r_lens, r_augi, r_augs, r_bitl, r_split, r_wtg, r_wtgm, r_at0, r_at1, r_at2, r_at3, r_at4, r_at5, r_ix1_0, r_ix2_0, r_ix2_1, r_ix3_0, r_ix3_1, r_ix3_2, r_ix4_0, r_ix4_1, r_ix4_2, r_ix4_3, r_ix5_0, r_ix5_1, r_ix5_2, r_ix5_3, r_ix5_4, r_v0, r_lenp0, r_typ0, r_app0, r_pop0, r_popAt0, r_ext0, r_outs0, r_v1, r_lenp1, r_typ1, r_app1, r_pop1, r_popAt1, r_ext1, r_outs1, r_v2, r_lenp2, r_typ2, r_app2, r_pop2, r_popAt2, r_ext2, r_outs2, r_v3, r_lenp3, r_typ3, r_app3, r_pop3, r_popAt3, r_ext3, r_outs3, r_tyd, r_mapp, r_mpop, r_mpopAt, r_mext, r_midxl, r_midxt, r_mspl, r_mbit, r_npd, r_npf, r_ty_int, r_ty_str, r_ty_list, r_ty_tuple, r_ty_bool, r_ixli, r_ixti, r_asgd, r_asgp, r_asgf, r_asgn, r_clr0, r_clr1, r_clr2, r_clr3, r_sto0, r_ag0, r_sto1, r_ag1, r_sto2, r_ag2, r_sto3, r_ag3, r_c0, r_c1, r_c2, r_c3, r_c4, r_c5, r_c6, r_c7, r_c8, r_c9, r_c10, r_c11, r_put1, r_put0, r_ptuple0, r_plist0, r_psum0, r_pmin10, r_pmax10, r_pall0, r_pany0, r_psorted0, r_ptuple1, r_plist1, r_psum1, r_pmin11, r_pmax11, r_pall1, r_pany1, r_psorted1, r_ptuple2, r_plist2, r_psum2, r_pmin12, r_pmax12, r_pall2, r_pany2, r_psorted2, r_ptuple3, r_plist3, r_psum3, r_pmin13, r_pmax13, r_pall3, r_pany3, r_psorted3, r_stab, r_wipe0, r_wipe1, stepLc, r_putc, frz1, reduceCtorEq, Nat.reduceEqDiff, reduceIte, r_clrD, r_frzD, setMany, r_sumt, r_min1t, r_max1t, r_ex0, r_exc, r_sz0, r_sz1, r_sz2, r_sz3, r_sz4, r_sz5, r_sz6, r_sz7, r_sz8, r_sz9, r_sz10, r_sz11, r_sz12, r_sz13, r_sz14, r_sz15, r_sz16, r_sz17, r_sz18, r_sz19, r_sz20])
theorem rd_draw {vs : List Vl} {obs : List Ob} {Q : Vl → List Ob → Prop} (h : spDraw vs obs Q) : vs.length = 2 ∧ obs.length = 1 ∧ wFn [] b__law_draw 5 0 vs obs Q := by
  obtain ⟨many, o, rfl, rfl, ⟨cells, i, pend, seed, rfl, hi⟩, h0, h1, k⟩ := h
  refine ⟨rfl, rfl, wFn_of rfl ?_⟩
  simp only [List.map, List.length, List.replicate, List.cons_append, List.nil_append, List.append_nil, Nat.reduceSub, Nat.reduceAdd, b__law_draw]
  decreasing_trivial
  have hm : ∀ a b : Int, -(2 ^ 64) < b ∧ b < 2 ^ 64 → MulOk a b := fun a b h => .inr (.inl h)
  have sh : ShOk 1 6000 := ⟨by decide, .inl ⟨by decide, by decide⟩⟩
  have pw : (0 : Int) < 1 * 2 ^ 6000 := by rw [Int.one_mul]; exact pow_pos 6000
  have fin : ∀ (a : Int) (o' : Ob), Std o' → Q (.dat (.int (a % many))) [o'] := fun a o' s => k _ _ (Int.emod_nonneg _ (by omega)) (Int.emod_lt_of_pos _ h0) s
  refine ite_i (fun hp => ?_) (fun hp => ?_)
  · exact ⟨⟨h0, divOk_d h0 h1⟩, h0, fin _ _ ⟨cells, i, _, _, rfl, hi⟩⟩
  · unfold cellsD
    decreasing_trivial
    refine ite_i (fun hlt => ?_) (fun hlt => ?_)
    · obtain ⟨d, hd, he⟩ := atI_pos hi hlt
      rw [List.getElem?_map] at hd
      cases hc : cells[i.toNat]? with
      | none => rw [hc] at hd; cases hd
      | some n =>
        rw [hc] at hd
        cases hd
        refine ⟨_, he, ?_⟩
        decreasing_trivial
        refine ⟨.inl ⟨by decide, by decide⟩, .inl ⟨by decide, by decide⟩, ite_i (fun _ => ?_) fun _ => ?_⟩
        · exact ⟨.inl (by decide), sh, pw, ⟨h0, divOk_d h0 h1⟩, h0, fin _ _ ⟨cells, i + 1, _, _, rfl, by omega⟩⟩
        · exact ⟨hm _ _ (by decide), hm _ _ (by decide), hm _ _ (by decide), .inl (by decide), h0, fin _ _ ⟨cells, i + 1, _, _, rfl, by omega⟩⟩
    · refine ⟨.inl ⟨by decide, by decide⟩, ?_⟩
      · exact ⟨hm _ _ (by decide), hm _ _ (by decide), hm _ _ (by decide), .inl (by decide), h0, fin _ _ ⟨cells, i + 1, _, _, rfl, by omega⟩⟩
/-! ## shared readings: draws, picks, queries -/
def tD (as : List (List Int)) : List D := as.map fun a => .tuple (iD a)
def lD (as : List (List Int)) : List D := as.map fun a => .list (iD a)
def qD (m : Nat) (as : List (List Int)) : D := .tuple [.str ("query" : Str), .int (m : Nat), .tuple (tD as), .tuple (iD (rI m))]
theorem len_tD (as : List (List Int)) : (tD as).length = as.length := List.length_map ..
theorem len_lD (as : List (List Int)) : (lD as).length = as.length := List.length_map ..
theorem len_iD (as : List Int) : (iD as).length = as.length := List.length_map ..
theorem tD_app (as bs : List (List Int)) : tD as ++ tD bs = tD (as ++ bs) := by unfold tD; rw [List.map_append]
theorem tD_add (as : List (List Int)) (b : List Int) : tD as ++ [.tuple (iD b)] = tD (as ++ [b]) := tD_app as [b]
theorem rng_rI (m : Nat) : rangeD 0 m = iD (rI m) := by
  rw [rng_zero]
  unfold rI iD
  rw [List.map_map]
  rfl
structure Qry (m : Nat) (as : List (List Int)) : Prop where
  pos : 1 ≤ m
  few : m ≤ 100
  one : 1 ≤ as.length
  fewa : as.length ≤ 70
  cols : ∀ a ∈ as, Cols m a
theorem srt (ns : List Int) : (PySem.W.AllAlike (iD ns) ∧ PySem.W.Sortable (iD ns) ∧ ∀ d ∈ iD ns, d.depth ≤ 50) ∧ ∃ ms : List Int, (iD ns).mergeSort (PySem.W.dataLe false id) = iD ms ∧ ms.Perm ns := by
  refine ⟨(sort_ints ns).1, ?_⟩
  obtain ⟨ms, h1, h2⟩ := perm_map (List.mergeSort_perm (iD ns) (PySem.W.dataLe false id)).symm (as := ns) rfl
  exact ⟨ms, h1, h2⟩
theorem outs_map {α : Type} {g : α → D} {R : D → Option D → Prop} {P : α → Prop} (hR : ∀ d o, R d o → ∃ r, o = some (g r) ∧ P r) : ∀ {ds es : List D}, Outs R ds es → ∃ as : List α, es = as.map g ∧ as.length = ds.length ∧ ∀ r ∈ as, P r
  | _, _, .nil => ⟨[], rfl, rfl, fun _ h => nomatch h⟩
  | _, _, .put r t => by
    obtain ⟨ns, rfl, hl, hp⟩ := outs_map hR t
    obtain ⟨i, e, p⟩ := hR _ _ r
    cases e
    exact ⟨i :: ns, rfl, by rw [List.length_cons, List.length_cons, hl], fun x hx => by
      rcases List.mem_cons.mp hx with rfl | hx
      · exact p
      · exact hp x hx⟩
  | _, _, .skip r t => by
    obtain ⟨i, e, p⟩ := hR _ _ r
    cases e
theorem outs_opt {α : Type} {g : α → D} {R : D → Option D → Prop} {P : α → Prop} (hR : ∀ d o, R d o → o = none ∨ ∃ r, o = some (g r) ∧ P r) : ∀ {ds es : List D}, Outs R ds es → ∃ as : List α, es = as.map g ∧ as.length ≤ ds.length ∧ ∀ r ∈ as, P r
  | _, _, .nil => ⟨[], rfl, Nat.le_refl _, fun _ h => nomatch h⟩
  | _, _, .put r t => by
    obtain ⟨ns, rfl, hl, hp⟩ := outs_opt hR t
    rcases hR _ _ r with e | ⟨i, e, p⟩
    · cases e
    cases e
    exact ⟨i :: ns, rfl, by rw [List.length_cons, List.length_cons]; omega, fun x hx => by
      rcases List.mem_cons.mp hx with rfl | hx
      · exact p
      · exact hp x hx⟩
  | _, _, .skip r t => by
    obtain ⟨ns, rfl, hl, hp⟩ := outs_opt hR t
    exact ⟨ns, rfl, by rw [List.length_cons]; omega, hp⟩
theorem outs_sub {R : D → Option D → Prop} (hR : ∀ d o, R d o → o = none ∨ o = some d) : ∀ {ds es : List D}, Outs R ds es → es.Sublist ds
  | _, _, .nil => List.Sublist.slnil
  | _, _, .put r t => by
    rcases hR _ _ r with e | e
    · cases e
    cases e
    exact (outs_sub hR t).cons_cons _
  | _, _, .skip r t => (outs_sub hR t).cons _
/-- an item out of a comprehension, none left out -/
theorem fm_map {α β : Type} {f : β → Option D} {g : α → β} {e : α → D} (h : ∀ a, f (g a) = some (e a)) (as : List α) : (as.map g).filterMap f = as.map e := by
  induction as with
  | nil => rfl
  | cons a as ih => rw [List.map_cons, List.filterMap_cons, h, ih, List.map_cons]
theorem fm_tD {f : D → Option D} {e : List Int → D} (h : ∀ a, f (.tuple (iD a)) = some (e a)) (as : List (List Int)) : (tD as).filterMap f = as.map e := fm_map h as
theorem fm_iD {f : D → Option D} {e : Int → D} (h : ∀ a, f (.int a) = some (e a)) (as : List Int) : (iD as).filterMap f = as.map e := fm_map h as
theorem cond_or {A B : Prop} (a : A) : A ∨ B := .inl a
def spRare : PSpec := fun vs obs Q => ∃ (many : Int) (o : Ob), vs = [.ptr 0, .dat (.int many)] ∧ obs = [o] ∧ Std o ∧ 0 < many ∧ many < 1073741824 ∧ ∀ (b : Bool) (o' : Ob), Std o' → Q (.dat (.bool b)) [o']
theorem rd_rare {vs : List Vl} {obs : List Ob} {Q : Vl → List Ob → Prop} (h : spRare vs obs Q) : vs.length = 2 ∧ obs.length = 1 ∧ wFn [("_law_draw", spDraw)] b__law_rare 2 0 vs obs Q := by
  obtain ⟨many, o, rfl, rfl, hs, h0, h1, k⟩ := h
  refine ⟨rfl, rfl, wFn_of rfl ?_⟩
  unfold b__law_rare
  decreasing_trivial
  refine draw_w rfl hs h0 (by omega) fun r o' r0 r1 hs' => ?_
  decreasing_trivial
  exact ⟨.inl (by omega), .inl (by rw [dep_int]; omega), k _ _ hs'⟩
def spPick : PSpec := fun vs obs Q => ∃ (ds : List D) (o : Ob), Std o ∧ 0 < ds.length ∧ ds.length < 1000000000 ∧
  ((vs = [.ptr 0, .dat (.list ds)] ∧ obs = [o] ∧ ∀ d o', d ∈ ds → Std o' → Q (.dat d) [o']) ∨ (vs = [.ptr 0, .dat (.tuple ds)] ∧ obs = [o] ∧ ∀ d o', d ∈ ds → Std o' → Q (.dat d) [o']) ∨
    (vs = [.ptr 0, .ptr 1] ∧ obs = [o, .lst ds] ∧ ∀ d o', d ∈ ds → Std o' → Q (.dat d) [o', .lst ds]))
theorem rd_pick {vs : List Vl} {obs : List Ob} {Q : Vl → List Ob → Prop} (h : spPick vs obs Q) : vs.length = 2 ∧ obs.length ∈ [1, 2] ∧ wFn [("_law_draw", spDraw)] b__law_pick 2 0 vs obs Q := by
  obtain ⟨ds, o, hs, h0, h1, ⟨rfl, rfl, k⟩ | ⟨rfl, rfl, k⟩ | ⟨rfl, rfl, k⟩⟩ := h
  all_goals
    refine ⟨rfl, by simp, wFn_of rfl ?_⟩
    unfold b__law_pick
    decreasing_trivial
    refine draw_w rfl hs (by omega) (by omega) fun r o' r0 r1 hs' => ?_
    decreasing_trivial
    obtain ⟨d, hd, he⟩ := atI_pos r0 r1
    exact ⟨d, he, k d o' (List.mem_of_getElem? hd) hs'⟩
def spPop : PSpec := fun vs obs Q => ∃ (ds : List D) (o : Ob), vs = [.ptr 0, .ptr 1] ∧ obs = [o, .lst ds] ∧ Std o ∧ 0 < ds.length ∧ ds.length < 1000000 ∧ ∀ j d o', ds[j]? = some d → Std o' → Q (.dat d) [o', .lst (ds.eraseIdx j)]
theorem rd_pop {vs : List Vl} {obs : List Ob} {Q : Vl → List Ob → Prop} (h : spPop vs obs Q) : vs.length = 2 ∧ obs.length = 2 ∧ wFn [("_law_draw", spDraw)] b__law_pop 2 0 vs obs Q := by
  obtain ⟨ds, o, rfl, rfl, hs, h0, h1, k⟩ := h
  refine ⟨rfl, rfl, wFn_of rfl ?_⟩
  unfold b__law_pop
  decreasing_trivial
  refine draw_w rfl hs (by omega) (by omega) fun r o' r0 r1 hs' => ?_
  decreasing_trivial
  obtain ⟨d, hd, he⟩ := atI_pos r0 r1
  exact ⟨d, ⟨r0, by omega⟩, hd, k _ d o' hd hs'⟩
def spShuf : PSpec := fun vs obs Q => ∃ (ds : List D) (o : Ob), (vs = [.ptr 0, .dat (.list ds)] ∨ vs = [.ptr 0, .dat (.tuple ds)]) ∧ obs = [o] ∧ Std o ∧ ds.length < 1000000 ∧ ∀ (es : List D) (o' : Ob), es.Perm ds → Std o' → Q (.fr (.lst es)) [o']
theorem rd_shuf {vs : List Vl} {obs : List Ob} {Q : Vl → List Ob → Prop} (h : spShuf vs obs Q) : vs.length = 2 ∧ obs.length = 1 ∧ wFn [("_law_draw", spDraw)] b__law_shuffled 5 2 vs obs Q := by
  obtain ⟨ds, o, hv, rfl, hs, h1, k⟩ := h
  have main : ∀ v0 : Vl, wSs [("_law_draw", spDraw)] r__law_shuffled_1
      ⟨fun _ η => (match outs 1 η with
        | some os => Q (.dat .none) os
        | none => False), fun v η => (match outs 1 η with
        | some os => v.noPtr ∧ Q v os
        | none => False), fun _ _ => False, fun _ _ => False⟩ [some (.ptr 0), some v0, some (.ptr 1), some (.ptr 2), none] [some o, some (.lst ds), some (.lst [])] := by
    intro v0
    unfold r__law_shuffled_1
    decreasing_trivial
    refine ⟨by unfold sizeLine; omega, by omega, fun _ h => (nomatch h), ?_⟩
    rw [Int.toNat_natCast]
    refine for_rng0 (fun n ρ η => ∃ l f o x, ρ = [some (.ptr 0), some v0, some (.ptr 1), some (.ptr 2), x] ∧ η = [some o, some (.lst l), some (.lst f)] ∧ Std o ∧ (f ++ l).Perm ds ∧ f.length = n) _ ?_ ?_ ⟨ds, [], o, none, rfl, rfl, hs, List.Perm.refl _, rfl⟩
    · rintro n ρ η N hn ⟨l, f, o, x, rfl, rfl, ho, pm, hf⟩ go
      have hl := pm.length_eq
      rw [List.length_append] at hl
      unfold l__law_shuffled_1
      decreasing_trivial
      refine draw_w rfl ho (by omega) (by omega) fun r o' r0 r1 ho' => ?_
      decreasing_trivial
      obtain ⟨d, hd, he⟩ := atI_pos r0 r1
      refine ⟨d, ⟨r0, by omega⟩, hd, ?_⟩
      decreasing_trivial
      refine ⟨by unfold sizeLine; omega, go _ _ ⟨_, _, o', _, rfl, rfl, ho', ?_, by rw [List.length_append, List.length_singleton, hf]⟩⟩
      rw [List.append_assoc]
      exact ((erase_perm hd).append_left f).trans pm
    · rintro ρ η ⟨l, f, o, x, rfl, rfl, ho, pm, hf⟩
      have hl := pm.length_eq
      rw [List.length_append] at hl
      have : l = [] := List.eq_nil_of_length_eq_zero (by omega)
      subst this
      rw [List.append_nil] at pm
      decreasing_trivial
      exact k f o pm ho
  rcases hv with rfl | rfl
  all_goals
    refine ⟨rfl, rfl, wFn_of rfl ?_⟩
    unfold b__law_shuffled
    decreasing_trivial
    exact main _
def spSome : PSpec := fun vs obs Q => ∃ (ds : List D) (o : Ob), (vs = [.ptr 0, .dat (.list ds)] ∨ vs = [.ptr 0, .dat (.tuple ds)]) ∧ obs = [o] ∧ Std o ∧ ∀ (es : List D) (o' : Ob), es.Sublist ds → Std o' → Q (.fr (.lst es)) [o']
theorem rd_some {vs : List Vl} {obs : List Ob} {Q : Vl → List Ob → Prop} (h : spSome vs obs Q) : vs.length = 2 ∧ obs.length = 1 ∧ wFn [("_law_draw", spDraw)] b__law_some 3 0 vs obs Q := by
  obtain ⟨ds, o, hv, rfl, hs, k⟩ := h
  rcases hv with rfl | rfl
  all_goals
    refine ⟨rfl, rfl, wFn_of rfl ?_⟩
    unfold b__law_some
    decreasing_trivial
    refine lc_inv (fun η => ∃ o, η = [some o] ∧ Std o) (fun d o => o = none ∨ o = some d) (fun _ _ => trivial) ds ⟨o, rfl, hs⟩ ?_ ?_
    · rintro d _ η K ⟨o, rfl, ho⟩ kk
      unfold c__law_some_1 e__law_some_1
      decreasing_trivial
      refine draw_w rfl ho (by omega) (by omega) fun r o' r0 r1 ho' => ?_
      decreasing_trivial
      refine ⟨.inl (by rw [dep_int]; omega), ite_of (fun _ => kk _ _ ⟨o', rfl, ho'⟩ (.inr rfl)) fun _ => kk _ _ ⟨o', rfl, ho'⟩ (.inl rfl)⟩
    · rintro es η ⟨o', rfl, ho'⟩ hO
      decreasing_trivial
      exact k es o' (outs_sub (fun _ _ h => h) hO) ho'
end Pl

namespace Pl
open PySem PySem.Spec PyProof.Rows L2

local macro_rules | `(tactic| decreasing_trivial) => `(tactic| try simp only [wSs, wS, wE, wEs, wEo, wCond, wSrc, wAnd, wOr, Bool.false_eq_true, if_false, Bool.not_true, Bool.not_false, asT, onView_dat, onD_dat, fz_dat, fz_ptr, fz_fr, settled_dat, settled_ptr,  List.getElem?_cons_zero, List.getElem?_cons_succ, List.set_cons_zero, List.set_cons_succ, List.length_cons, List.length_nil, Nat.reduceAdd, Option.some.injEq, exists_eq_left', true_and, and_true, if_true, decide_eq_true_eq, Int.reduceToNat, Int.reducePow, Int.reduceLE, Int.reduceLT, Int.reduceMul, Int.reduceAdd, Int.reduceSub, Int.reduceNeg, Nat.reduceLT, Nat.reduceLeDiff, Nat.reduceMul, Nat.reducePow, Int.reduceAbs, Nat.reduceSub, List.map, List.replicate, List.cons_append, List.nil_append, List.append_nil, regsOf, renum, List.nodup_nil, r_add, r_adds, r_addt, r_addl, r_sub, r_mul, r_mull, r_mult, r_fdiv, r_mod, r_pow, r_band, r_bor, r_bxor, r_shl, r_shr, r_lt, r_le, r_gt, r_ge, r_lts, r_eq, r_ne, r_isin, r_notin, r_isin_list, r_isin_tuple, r_notin_list, r_notin_tuple, r_isnone, r_notnone, r_ixl, r_ixt, r_ixs, r_sll, r_slt, r_sls, r_len, r_int, r_intb, r_abs, r_min2, r_max2, r_sum, r_min1, r_max1, r_all, r_any, r_list, r_listt, r_tup, r_tupt, r_rl1, r_rl2, r_rt1, r_rt2, r_sort, r_sortt, r_isi, r_lenl, r_lent, r_lens, r_augi, r_augs, r_bitl, r_split, r_wtg, r_wtgm, r_at0, r_at1, r_at2, r_at3, r_at4, r_at5, r_ix1_0, r_ix2_0, r_ix2_1, r_ix3_0, r_ix3_1, r_ix3_2, r_ix4_0, r_ix4_1, r_ix4_2, r_ix4_3, r_ix5_0, r_ix5_1, r_ix5_2, r_ix5_3, r_ix5_4, r_v0, r_lenp0, r_typ0, r_app0, r_pop0, r_popAt0, r_ext0, r_outs0, r_v1, r_lenp1, r_typ1, r_app1, r_pop1, r_popAt1, r_ext1, r_outs1, r_v2, r_lenp2, r_typ2, r_app2, r_pop2, r_popAt2, r_ext2, r_outs2, r_v3, r_lenp3, r_typ3, r_app3, r_pop3, r_popAt3, r_ext3, r_outs3, r_tyd, r_mapp, r_mpop, r_mpopAt, r_mext, r_midxl, r_midxt, r_mspl, r_mbit, r_npd, r_npf, r_ty_int, r_ty_str, r_ty_list, r_ty_tuple, r_ty_bool, r_ixli, r_ixti, r_asgd, r_asgp, r_asgf, r_asgn, r_clr0, r_clr1, r_clr2, r_clr3, r_sto0, r_ag0, r_sto1, r_ag1, r_sto2, r_ag2, r_sto3, r_ag3, r_c0, r_c1, r_c2, r_c3, r_c4, r_c5, r_c6, r_c7, r_c8, r_c9, r_c10, r_c11, r_put1, r_put0, r_ptuple0, r_plist0, r_psum0, r_pmin10, r_pmax10, r_pall0, r_pany0, r_psorted0, r_ptuple1, r_plist1, r_psum1, r_pmin11, r_pmax11, r_pall1, r_pany1, r_psorted1, r_ptuple2, r_plist2, r_psum2, r_pmin12, r_pmax12, r_pall2, r_pany2, r_psorted2, r_ptuple3, r_plist3, r_psum3, r_pmin13, r_pmax13, r_pall3, r_pany3, r_psorted3, r_stab, r_wipe0, r_wipe1, stepLc, r_putc, frz1, reduceCtorEq, Nat.reduceEqDiff, reduceIte, r_clrD, r_frzD, setMany, r_sumt, r_min1t, r_max1t, r_ex0, r_exc, r_sz0, r_sz1, r_sz2, r_sz3, r_sz4, r_sz5, r_sz6, r_sz7, r_sz8, r_sz9, r_sz10, r_sz11, r_sz12, r_sz13, r_sz14, r_sz15, r_sz16, r_sz17, r_sz18, r_sz19, r_sz20])
/-! ### queries -/
theorem nat_of {z : Int} (h : 0 ≤ z) : ∃ n : Nat, z = (n : Int) := Int.eq_ofNat_of_zero_le h
/-- is the column in the atom -/
theorem eqv_mem (c : Int) (a : List Int) : ((iD a).any fun y => PyData.eqv y (.int c)) = decide (c ∈ a) := by
  induction a with
  | nil => simp
  | cons x a ih =>
    show (PyData.eqv (.int x) (.int c) || (iD a).any fun y => PyData.eqv y (.int c)) = _
    rw [ih, eqv_int]
    rw [Bool.eq_iff_iff]
    simp only [Bool.or_eq_true, decide_eq_true_eq, List.mem_cons]
    constructor
    · rintro (h | h)
      · exact .inl h.symm
      · exact .inr h
    · rintro (h | h)
      · exact .inl h.symm
      · exact .inr h
theorem dep_iD (a : List Int) : PyData.depthAll (iD a) ≤ 60 ∨ (PyData.int 0).depth ≤ 60 := .inr (by rw [dep_int]; omega)
theorem erase_map {α β : Type} (f : α → β) : ∀ (l : List α) (j : Nat), (l.map f).eraseIdx j = (l.eraseIdx j).map f
  | [], _ => rfl
  | a :: l, 0 => rfl
  | a :: l, j + 1 => by rw [List.map_cons, List.eraseIdx_cons_succ, List.eraseIdx_cons_succ, List.map_cons, erase_map f l j]
theorem cov_set {as : List (List Int)} {z : Nat} {ms : List Int} {x : Int} (hz : z < as.length) (hm : ∀ y ∈ as[z], y ∈ ms) (h : ∃ a ∈ as, x ∈ a) : ∃ a ∈ as.set z ms, x ∈ a := by
  obtain ⟨a, ha, hx⟩ := h
  obtain ⟨i, hi, rfl⟩ := List.mem_iff_getElem.mp ha
  by_cases e : i = z
  · subst e
    exact ⟨ms, List.mem_iff_getElem.mpr ⟨i, by rw [List.length_set]; exact hi, by rw [List.getElem_set_self]⟩, hm x hx⟩
  · exact ⟨as[i], List.mem_iff_getElem.mpr ⟨i, by rw [List.length_set]; exact hi, by rw [List.getElem_set_ne (fun h => e h.symm)]⟩, hx⟩
def spQuery : PSpec := fun vs obs Q => ∃ (mc ma w : Int) (o : Ob), vs = [.ptr 0, .dat (.int mc), .dat (.int ma), .dat (.int w)] ∧ obs = [o] ∧ Std o ∧ 1 ≤ mc ∧ mc ≤ 50 ∧ 1 ≤ ma ∧ ma ≤ 50 ∧ 1 ≤ w ∧ w ≤ 50 ∧
  ∀ (m : Nat) (as : List (List Int)) (o' : Ob), Qry m as → (m : Int) ≤ mc → ((as.length : Int) ≤ ma ∧ ∀ c : Int, 0 ≤ c → c < (m : Int) → ∃ a ∈ as, c ∈ a) → Std o' → Q (.dat (qD m as)) [o']
theorem rd_query {vs : List Vl} {obs : List Ob} {Q : Vl → List Ob → Prop} (h : spQuery vs obs Q) : vs.length = 4 ∧ obs.length = 1 ∧ wFn [("_law_draw", spDraw), ("_law_pop", spPop)] b__law_query 12 3 vs obs Q := by
  obtain ⟨mc, ma, w, o, rfl, rfl, hs, c0, c1, a0, a1, w0, w1, k⟩ := h
  refine ⟨rfl, rfl, wFn_of rfl ?_⟩
  unfold b__law_query
  decreasing_trivial
  refine draw_w rfl hs (by omega) (by omega) fun r o' r0 r1 hs' => ?_
  decreasing_trivial
  decreasing_trivial
  refine draw_w rfl hs' (by omega) (by omega) fun r2 o2 q0 q1 hs2 => ?_
  obtain ⟨m, hm⟩ := nat_of (z := 1 + r) (by omega)
  obtain ⟨n, hn⟩ := nat_of (z := 1 + r2) (by omega)
  decreasing_trivial
  rw [hm, hn]
  refine ⟨by unfold sizeLine; omega, by omega, fun _ h => (nomatch h), ?_⟩
  rw [Int.toNat_natCast]
  refine for_rng0 (fun j ρ η => ∃ (as : List (List Int)) (o : Ob) (x6 x10 : Option D) (x8 x9 : Option Vl) (y2 y3 : Option Ob), ρ = [some (.ptr 0), some (.dat (.int mc)), some (.dat (.int ma)), some (.dat (.int w)), some (.dat (.int (m : Nat))), some (.ptr 1), sd x6, none, x8, x9, sd x10, none] ∧ (x8 = none ∨ x8 = some (.ptr 2)) ∧ (x9 = none ∨ x9 = some (.ptr 3)) ∧
      η = [some o, some (.lst (tD as)), y2, y3] ∧ Std o ∧ as.length = j ∧ ∀ a ∈ as, Cols m a) _ ?_ ?_ ⟨[], o2, none, none, none, none, none, none, rfl, .inl rfl, .inl rfl, rfl, hs2, rfl, fun _ h => (nomatch h)⟩
  · rintro j ρ η N hj ⟨as, o, x6, x10, x8, x9, y2, y3, rfl, h8, h9, rfl, ho, hl, hc⟩ go
    unfold l__law_query_2
    have step : ∀ P : LEnds, (∀ (ms : List Int) (o : Ob) (x10 : Option D) (y2 y3 : Option Ob), Cols m ms → Std o → P.nx [some (.ptr 0), some (.dat (.int mc)), some (.dat (.int ma)), some (.dat (.int w)), some (.dat (.int (m : Nat))), some (.ptr 1), some (.dat (.int (j : Nat))), none, some (.ptr 2), some (.ptr 3), sd x10, none] [some o, some (.lst (tD (as ++ [ms]))), y2, y3]) →
        wSs [("_law_draw", spDraw), ("_law_pop", spPop)] r__law_query_1
        P [some (.ptr 0), some (.dat (.int mc)), some (.dat (.int ma)), some (.dat (.int w)), some (.dat (.int (m : Nat))), some (.ptr 1), some (.dat (.int (j : Nat))), none, some (.ptr 2), some (.ptr 3), sd x10, none] [some o, some (.lst (tD as)), some (.lst (iD (rI m))), some (.lst [])] := by
      intro P hP
      unfold r__law_query_1
      decreasing_trivial
      refine draw_w rfl ho (by omega) (by omega) fun r3 o3 s0 s1 ho3 => ?_
      decreasing_trivial
      obtain ⟨t, ht⟩ := nat_of (z := if 1 + r3 < (m : Int) then 1 + r3 else (m : Int)) (by split <;> omega)
      have tm : t ≤ m := by split at ht <;> omega
      rw [ht]
      refine ⟨by unfold sizeLine; omega, by omega, fun _ h => (nomatch h), ?_⟩
      rw [Int.toNat_natCast]
      refine for_rng0 (fun i ρ η => ∃ (l a : List Int) (o : Ob) (x10 : Option D), ρ = [some (.ptr 0), some (.dat (.int mc)), some (.dat (.int ma)), some (.dat (.int w)), some (.dat (.int (m : Nat))), some (.ptr 1), some (.dat (.int (j : Nat))), none, some (.ptr 2), some (.ptr 3), sd x10, none] ∧
        η = [some o, some (.lst (tD as)), some (.lst (iD l)), some (.lst (iD a))] ∧ Std o ∧ a.length = i ∧ (a ++ l).Perm (rI m)) _ ?_ ?_ ⟨rI m, [], o3, x10, rfl, rfl, ho3, rfl, List.Perm.refl _⟩
      · rintro i ρ η N2 hi ⟨l, a, o, x10, rfl, rfl, ho, hl2, pm⟩ go2
        have hl3 := pm.length_eq
        rw [List.length_append, len_rI] at hl3
        unfold l__law_query_1
        decreasing_trivial
        refine call_2 (n := 0) (k := 2) rfl rfl (by decide) rfl rfl ⟨iD l, o, rfl, rfl, ho, by rw [len_iD]; omega, by rw [len_iD]; omega, fun q d o' hd ho' => ⟨rfl, trivial, ?_⟩⟩
        rw [List.getElem?_map] at hd
        cases e : l[q]? with
        | none => rw [e] at hd; cases hd
        | some c =>
          rw [e] at hd
          cases hd
          decreasing_trivial
          refine ⟨by rw [len_iD]; unfold sizeLine; omega, go2 _ _ ⟨l.eraseIdx q, a ++ [c], o', some _, rfl, ?_, ho', by rw [List.length_append, List.length_singleton, hl2], ?_⟩⟩
          · rw [← iD_add]
            rw [erase_map]
          · rw [List.append_assoc]
            exact ((erase_perm e).append_left a).trans pm
      · rintro ρ η ⟨l, a, o, x10, rfl, rfl, ho, hl2, pm⟩
        decreasing_trivial
        obtain ⟨sc, ms, e, pm2⟩ := srt a
        refine ⟨sc, ?_⟩
        rw [e]
        decreasing_trivial
        have ca : Cols m a := (cols_rI m |>.perm pm).sub (List.sublist_append_left a l)
        refine ⟨by rw [len_tD]; unfold sizeLine; omega, by rw [tD_add]; exact hP ms o x10 _ _ (ca.perm pm2) ho⟩
    rcases h8 with rfl | rfl <;> rcases h9 with rfl | rfl <;>
    · decreasing_trivial
      refine ⟨⟨by omega, by omega⟩, ?_⟩
      rw [Int.toNat_natCast, rng_rI]
      decreasing_trivial
      refine step _ ?_
      intro ms o x10 y2 y3 cm ho
      exact go _ _ ⟨as ++ [ms], o, some _, x10, _, _, _, _, rfl, .inr rfl, .inr rfl, rfl, ho, by rw [List.length_append, List.length_singleton, hl], fun b hb => by
        rcases List.mem_append.mp hb with hb | hb
        · exact hc b hb
        · rw [List.mem_singleton.mp hb]; exact cm⟩
  · rintro ρ η ⟨as, o, x6, x10, x8, x9, y2, y3, rfl, h8, h9, rfl, ho, hl, hc⟩
    decreasing_trivial
    refine ⟨by unfold sizeLine; omega, by omega, fun _ h => (nomatch h), ?_⟩
    rw [Int.toNat_natCast]
    refine for_rng0 (fun c ρ η => ∃ (as : List (List Int)) (o : Ob) (x7 x9 x11 : Option Vl), ρ = [some (.ptr 0), some (.dat (.int mc)), some (.dat (.int ma)), some (.dat (.int w)), some (.dat (.int (m : Nat))), some (.ptr 1), sd x6, x7, x8, x9, sd x10, x11] ∧
      η = [some o, some (.lst (tD as)), y2, y3] ∧ Std o ∧ as.length = n ∧ (∀ a ∈ as, Cols m a) ∧ ∀ j : Nat, j < c → ∃ a ∈ as, ((j : Nat) : Int) ∈ a) _ ?_ ?_ ⟨as, o, none, x9, none, rfl, rfl, ho, hl, hc, fun j h => absurd h (by omega)⟩
    · rintro c ρ η N hcm ⟨as, o, x7, x9, x11, rfl, rfl, ho, hl, hc, cov⟩ go
      unfold l__law_query_3
      decreasing_trivial
      refine lc_pure (fun d => match d with
        | .tuple xs => some (.bool (xs.any fun y => PyData.eqv y (.int (c : Nat))))
        | _ => none) (by exact rfl) _ (fun d hd K hK => ?_) ?_
      · obtain ⟨a, ha, rfl⟩ := List.mem_map.mp hd
        unfold e__law_query_1
        decreasing_trivial
        exact ⟨.inr (by rw [dep_int]; omega), hK⟩
      · rw [fm_tD (e := fun a => PyData.bool (decide (((c : Nat) : Int) ∈ a))) (fun a => by dsimp only; rw [eqv_mem])]
        decreasing_trivial
        refine ⟨as.map fun a => decide (((c : Nat) : Int) ∈ a), by rw [List.map_map]; rfl, ?_⟩
        refine ite_of (fun hb => ?_) fun hb => ?_
        · decreasing_trivial
          refine draw_w rfl ho (by rw [len_tD]; omega) (by rw [len_tD]; omega) fun r4 o4 u0 u1 ho4 => ?_
          rw [len_tD] at u1
          obtain ⟨z, rfl⟩ := nat_of u0
          have hz : z < as.length := by omega
          have hg : (tD as)[z]? = some (.tuple (iD as[z])) := by unfold tD; rw [List.getElem?_map, List.getElem?_eq_getElem hz]; rfl
          have cz : Cols m as[z] := hc _ (List.getElem_mem hz)
          decreasing_trivial
          refine ⟨_, atI_nat hg, ?_⟩
          decreasing_trivial
          have lz := cz.len
          refine ⟨by rw [len_iD]; unfold sizeLine; omega, ?_⟩
          rw [iD_add]
          obtain ⟨sc, ms, e, pm2⟩ := srt (as[z] ++ [((c : Nat) : Int)])
          refine ⟨sc, ?_⟩
          rw [e]
          decreasing_trivial
          refine ⟨z, by rw [len_tD]; exact ixN_nat hz, go _ _ ⟨as.set z ms, o4, _, _, _, rfl, ?_, ho4, by rw [List.length_set, hl], fun b hb2 => ?_, fun j hj => ?_⟩⟩
          · unfold tD
            rw [List.map_set]
          · rcases List.mem_or_eq_of_mem_set hb2 with h | h
            · exact hc b h
            · subst h
              refine (cz.snoc (by omega) (by omega) fun hin => ?_).perm pm2
              have : ((as.map fun a => decide (((c : Nat) : Int) ∈ a)).any id) = true := by
                rw [List.any_map, List.any_eq_true]
                exact ⟨as[z], List.getElem_mem hz, by simpa using hin⟩
              rw [this] at hb
              cases hb
          · have sup : ∀ y ∈ as[z], y ∈ ms := fun y hy => pm2.mem_iff.mpr (List.mem_append_left _ hy)
            by_cases e : j = c
            · subst e
              exact ⟨ms, List.mem_iff_getElem.mpr ⟨z, by rw [List.length_set]; exact hz, by rw [List.getElem_set_self]⟩, pm2.mem_iff.mpr (by simp)⟩
            · exact cov_set hz sup (cov j (by omega))
        · refine go _ _ ⟨as, o, _, _, _, rfl, rfl, ho, hl, hc, fun j hj => ?_⟩
          by_cases e : j = c
          · subst e
            have hb' : ((as.map fun a => decide (((j : Nat) : Int) ∈ a)).any id) = true := by simpa using hb
            rw [List.any_map, List.any_eq_true] at hb'
            obtain ⟨a, ha, hm⟩ := hb'
            exact ⟨a, ha, by simpa using hm⟩
          · exact cov j (by omega)
    · rintro ρ η ⟨as, o, x7, x9, x11, rfl, rfl, ho, hl, hc, cov⟩
      decreasing_trivial
      refine ⟨⟨by omega, by omega⟩, ?_⟩
      rw [Int.toNat_natCast, rng_rI]
      exact k m as o ⟨by omega, by omega, by omega, by omega, hc⟩ (by omega) ⟨by omega, fun c h0 h1 => by obtain ⟨j, rfl⟩ := nat_of h0; exact cov j (by omega)⟩ ho
end Pl

namespace Pl
open PySem PySem.Spec PyProof.Rows L2

local macro_rules | `(tactic| decreasing_trivial) => `(tactic| try simp only [wSs, wS, wE, wEs, wEo, wCond, wSrc, wAnd, wOr, Bool.false_eq_true, if_false, Bool.not_true, Bool.not_false, asT, onView_dat, onD_dat, fz_dat, fz_ptr, fz_fr, settled_dat, settled_ptr,  List.getElem?_cons_zero, List.getElem?_cons_succ, List.set_cons_zero, List.set_cons_succ, List.length_cons, List.length_nil, Nat.reduceAdd, Option.some.injEq, exists_eq_left', true_and, and_true, if_true, decide_eq_true_eq, Int.reduceToNat, Int.reducePow, Int.reduceLE, Int.reduceLT, Int.reduceMul, Int.reduceAdd, Int.reduceSub, Int.reduceNeg, Nat.reduceLT, Nat.reduceLeDiff, Nat.reduceMul, Nat.reducePow, Int.reduceAbs, Nat.reduceSub, List.map, List.replicate, List.cons_append, List.nil_append, List.append_nil, regsOf, renum, List.nodup_nil, r_add, r_adds, r_addt, r_addl, r_sub, r_mul, r_mull, r_mult, r_fdiv, r_mod, r_pow, r_band, r_bor, r_bxor, r_shl, r_shr, r_lt, r_le, r_gt, r_ge, r_lts, r_eq, r_ne, r_isin, r_notin, r_isin_list, r_isin_tuple, r_notin_list, r_notin_tuple, r_isnone, r_notnone, r_ixl, r_ixt, r_ixs, r_sll, r_slt, r_sls, r_len, r_int, r_intb, r_abs, r_min2, r_max2, r_sum, r_min1, r_max1, r_all, r_any, r_list, r_listt, r_tup, r_tupt, r_rl1, r_rl2, r_rt1, r_rt2, r_sort, r_sortt, r_isi, r_lenl, r_lent, r_lens, r_augi, r_augs, r_bitl, r_split, r_wtg, r_wtgm, r_at0, r_at1, r_at2, r_at3, r_at4, r_at5, r_ix1_0, r_ix2_0, r_ix2_1, r_ix3_0, r_ix3_1, r_ix3_2, r_ix4_0, r_ix4_1, r_ix4_2, r_ix4_3, r_ix5_0, r_ix5_1, r_ix5_2, r_ix5_3, r_ix5_4, r_v0, r_lenp0, r_typ0, r_app0, r_pop0, r_popAt0, r_ext0, r_outs0, r_v1, r_lenp1, r_typ1, r_app1, r_pop1, r_popAt1, r_ext1, r_outs1, r_v2, r_lenp2, r_typ2, r_app2, r_pop2, r_popAt2, r_ext2, r_outs2, r_v3, r_lenp3, r_typ3, r_app3, r_pop3, r_popAt3, r_ext3, r_outs3, r_tyd, r_mapp, r_mpop, r_mpopAt, r_mext, r_midxl, r_midxt, r_mspl, r_mbit, r_npd, r_npf, r_ty_int, r_ty_str, r_ty_list, r_ty_tuple, r_ty_bool, r_ixli, r_ixti, r_asgd, r_asgp, r_asgf, r_asgn, r_clr0, r_clr1, r_clr2, r_clr3, r_sto0, r_ag0, r_sto1, r_ag1, r_sto2, r_ag2, r_sto3, r_ag3, r_c0, r_c1, r_c2, r_c3, r_c4, r_c5, r_c6, r_c7, r_c8, r_c9, r_c10, r_c11, r_put1, r_put0, r_ptuple0, r_plist0, r_psum0, r_pmin10, r_pmax10, r_pall0, r_pany0, r_psorted0, r_ptuple1, r_plist1, r_psum1, r_pmin11, r_pmax11, r_pall1, r_pany1, r_psorted1, r_ptuple2, r_plist2, r_psum2, r_pmin12, r_pmax12, r_pall2, r_pany2, r_psorted2, r_ptuple3, r_plist3, r_psum3, r_pmin13, r_pmax13, r_pall3, r_pany3, r_psorted3, r_stab, r_wipe0, r_wipe1, stepLc, r_putc, frz1, reduceCtorEq, Nat.reduceEqDiff, reduceIte, r_clrD, r_frzD, setMany, r_sumt, r_min1t, r_max1t, r_ex0, r_exc, r_sz0, r_sz1, r_sz2, r_sz3, r_sz4, r_sz5, r_sz6, r_sz7, r_sz8, r_sz9, r_sz10, r_sz11, r_sz12, r_sz13, r_sz14, r_sz15, r_sz16, r_sz17, r_sz18, r_sz19, r_sz20])
def spRenamed : PSpec := fun vs obs Q => ∃ (m : Nat) (as : List (List Int)) (o : Ob), vs = [.ptr 0, .dat (.list (tD as)), .dat (.int (m : Nat))] ∧ obs = [o] ∧ Std o ∧ m ≤ 1000 ∧ as.length ≤ 1000 ∧ (∀ a ∈ as, Cols m a) ∧
  ∀ (bs : List (List Int)) (o' : Ob), bs.length = as.length → (∀ b ∈ bs, Cols m b) → Std o' → Q (.dat (.tuple (tD bs))) [o']
theorem rd_renamed {vs : List Vl} {obs : List Ob} {Q : Vl → List Ob → Prop} (h : spRenamed vs obs Q) : vs.length = 3 ∧ obs.length = 1 ∧ wFn [("_law_shuffled", spShuf)] b__law_renamed 6 0 vs obs Q := by
  obtain ⟨m, as, o, rfl, rfl, hs, hm, hl, hc, k⟩ := h
  refine ⟨rfl, rfl, wFn_of rfl ?_⟩
  unfold b__law_renamed
  decreasing_trivial
  refine ⟨⟨by omega, by omega⟩, ?_⟩
  rw [Int.toNat_natCast, rng_rI]
  decreasing_trivial
  refine call_r rfl rfl rfl ⟨_, _, .inl rfl, rfl, hs, by rw [len_iD, len_rI]; omega, fun es o' pm hs' => ⟨rfl, trivial, ?_⟩⟩
  obtain ⟨ns, rfl, pn⟩ := perm_map pm.symm (as := rI m) rfl
  have hln : ns.length = m := by rw [pn.length_eq, len_rI]
  decreasing_trivial
  refine call_r rfl rfl rfl ⟨_, _, .inl rfl, rfl, hs', by rw [len_tD]; omega, fun es o' pm hs' => ⟨rfl, trivial, ?_⟩⟩
  obtain ⟨bs, rfl, pb⟩ := perm_map pm.symm (as := as) rfl
  have hcb : ∀ b ∈ bs, Cols m b := fun b hb => hc b (pb.mem_iff.mp hb)
  decreasing_trivial
  refine lc_inv (fun η => η = [some o']) (fun d e => ∃ b, e = some (.tuple (iD b)) ∧ Cols m b) (fun _ _ => trivial) _ rfl ?_ ?_
  · rintro d hd η K rfl kk
    obtain ⟨a, ha, rfl⟩ := List.mem_map.mp hd
    have ca := hcb a ha
    unfold e__law_renamed_2
    decreasing_trivial
    refine lc_pure (fun d => match d with
      | .int c => some (.int (nth ns c))
      | _ => none) trivial _ (fun d hd K hK => ?_) ?_
    · obtain ⟨c, hcc, rfl⟩ := List.mem_map.mp hd
      have bc := ca.2 c hcc
      obtain ⟨z, rfl⟩ := nat_of bc.1
      unfold e__law_renamed_1
      decreasing_trivial
      exact ix_ints (by omega) _ hK
    · rw [fm_iD (e := fun c => PyData.int (nth ns c)) (fun _ => rfl)]
      rw [show a.map (fun c => PyData.int (nth ns c)) = iD (a.map (nth ns)) from (List.map_map ..).symm]
      obtain ⟨sc, ms, e, pm2⟩ := srt (a.map (nth ns))
      decreasing_trivial
      refine ⟨sc, ?_⟩
      rw [e]
      decreasing_trivial
      exact kk _ _ rfl ⟨ms, rfl, (ca.rename pn).perm pm2⟩
  · rintro es η rfl hO
    obtain ⟨cs, rfl, hl2, hc2⟩ := outs_map (g := fun b => PyData.tuple (iD b)) (P := Cols m) (fun d o h => h) hO
    decreasing_trivial
    refine k cs o' ?_ hc2 hs'
    rw [hl2]
    exact (len_tD bs).trans pb.length_eq
theorem qry_tup {Q : Vl → Reg → Prop} {m : Nat} {as : List (List Int)} {η : Reg} (h : Q (.dat (qD m as)) η) : ([Vl.dat (.str ("query" : Str)), .dat (.int (m : Nat)), .dat (.tuple (tD as)), .dat (.tuple (iD (rI m)))]).length ≤ sizeLine ∧ ∃ ds : List D, [Vl.dat (.str ("query" : Str)), .dat (.int (m : Nat)), .dat (.tuple (tD as)), .dat (.tuple (iD (rI m)))] = ds.map Vl.dat ∧ Q (.dat (.tuple ds)) η :=
  ⟨by unfold sizeLine; simp, [_, _, _, _], rfl, h⟩
def spTree : PSpec := fun vs obs Q => ∃ (mc ma : Int) (o : Ob), vs = [.ptr 0, .dat (.int mc), .dat (.int ma)] ∧ obs = [o] ∧ Std o ∧ 1 ≤ mc ∧ mc ≤ 50 ∧ 1 ≤ ma ∧ ma ≤ 20 ∧
  ∀ (m : Nat) (as : List (List Int)) (o' : Ob), Qry m as → (m : Int) ≤ mc → Std o' → Q (.dat (qD m as)) [o']
theorem rd_tree {vs : List Vl} {obs : List Ob} {Q : Vl → List Ob → Prop} (h : spTree vs obs Q) : vs.length = 3 ∧ obs.length = 1 ∧ wFn [("_law_draw", spDraw), ("_law_some", spSome), ("_law_pick", spPick), ("_law_renamed", spRenamed)] b__law_tree_query 8 2 vs obs Q := by
  obtain ⟨mc, ma, o, rfl, rfl, hs, c0, c1, a0, a1, k⟩ := h
  refine ⟨rfl, rfl, wFn_of rfl ?_⟩
  unfold b__law_tree_query
  decreasing_trivial
  refine draw_w rfl hs (by omega) (by omega) fun r o1 r0 r1 hs1 => ?_
  decreasing_trivial
  obtain ⟨m, hm⟩ := nat_of (z := if 1 + r < mc then 1 + r else mc) (by split <;> omega)
  have m1 : 1 ≤ m ∧ (m : Int) ≤ mc := by split at hm <;> omega
  rw [hm]
  refine ⟨⟨by omega, by omega⟩, ?_⟩
  rw [Int.toNat_natCast, rng_rI]
  decreasing_trivial
  refine draw_w rfl hs1 (by omega) (by omega) fun r2 o2 q0 q1 hs2 => ?_
  decreasing_trivial
  refine ⟨by unfold sizeLine; omega, by omega, fun _ h => (nomatch h), ?_⟩
  obtain ⟨t, rfl⟩ := nat_of q0
  rw [Int.toNat_natCast]
  refine for_rng0 (fun j ρ η => ∃ (m : Nat) (as : List (List Int)) (o : Ob) (x5 x7 : Option D) (x6 : Option Vl) (y : Option Ob), ρ = [some (.ptr 0), some (.dat (.int mc)), some (.dat (.int ma)), some (.dat (.int (m : Nat))), some (.ptr 1), sd x5, x6, sd x7] ∧ (x6 = none ∨ x6 = some (.ptr 2)) ∧
    η = [some o, some (.lst (tD as)), y] ∧ Std o ∧ as.length = j + 1 ∧ 1 ≤ m ∧ (m : Int) ≤ mc ∧ ∀ a ∈ as, Cols m a) _ ?_ ?_ ⟨m, [rI m], o2, none, none, none, none, rfl, .inl rfl, rfl, hs2, rfl, m1.1, m1.2, fun a ha => by rw [List.mem_singleton.mp ha]; exact cols_rI m⟩
  · rintro j ρ η N hj ⟨m, as, o, x5, x7, x6, y, rfl, h6, rfl, ho, hl, m0, m1, hc⟩ go
    unfold l__law_tree_query_2
    have hlen : (tD as).length = j + 1 := by rw [len_tD, hl]
    decreasing_trivial
    refine call_2 (n := 0) (k := 1) rfl rfl (by decide) rfl rfl ⟨tD as, o, ho, by omega, by omega, .inr (.inr ⟨rfl, rfl, fun d o3 hd ho3 => ⟨rfl, trivial, ?_⟩⟩)⟩
    obtain ⟨a, ha, rfl⟩ := List.mem_map.mp hd
    have ca := hc a ha
    decreasing_trivial
    refine call_r rfl rfl rfl ⟨iD a, o3, .inr rfl, rfl, ho3, fun es o4 hsub ho4 => ⟨rfl, trivial, ?_⟩⟩
    obtain ⟨b, rfl, hsb⟩ := sub_map hsub (as := a) rfl
    have cb := ca.sub hsb
    -- the rest, whatever stood in the slot
    have step : ∀ P : LEnds, (∀ (m : Nat) (ms : List Int) (o : Ob) (x7 : Option D) (y : Option Ob), 1 ≤ m → (m : Int) ≤ mc → (∀ a ∈ as, Cols m a) → Cols m ms → Std o → P.nx [some (.ptr 0), some (.dat (.int mc)), some (.dat (.int ma)), some (.dat (.int (m : Nat))), some (.ptr 1), some (.dat (.int (j : Nat))), some (.ptr 2), sd x7] [some o, some (.lst (tD (as ++ [ms]))), y]) →
        wSs [("_law_draw", spDraw), ("_law_some", spSome), ("_law_pick", spPick), ("_law_renamed", spRenamed)] r__law_tree_query_1 P [some (.ptr 0), some (.dat (.int mc)), some (.dat (.int ma)), some (.dat (.int (m : Nat))), some (.ptr 1), some (.dat (.int (j : Nat))), some (.ptr 2), sd x7] [some o4, some (.lst (tD as)), some (.lst (iD b))] := by
      intro P hP
      unfold r__law_tree_query_1
      decreasing_trivial
      refine draw_w rfl ho4 (by omega) (by omega) fun r5 o5 s0 s1 ho5 => ?_
      decreasing_trivial
      refine ⟨by unfold sizeLine; omega, by omega, fun _ h => (nomatch h), ?_⟩
      obtain ⟨t5, rfl⟩ := nat_of s0
      rw [Int.toNat_natCast]
      refine for_rng0 (fun i ρ η => ∃ (m : Nat) (b : List Int) (x7 : Option D), ρ = [some (.ptr 0), some (.dat (.int mc)), some (.dat (.int ma)), some (.dat (.int (m : Nat))), some (.ptr 1), some (.dat (.int (j : Nat))), some (.ptr 2), sd x7] ∧
        η = [some o5, some (.lst (tD as)), some (.lst (iD b))] ∧ 1 ≤ m ∧ (m : Int) ≤ mc ∧ Cols m b ∧ ∀ a ∈ as, Cols m a) _ ?_ ?_ ⟨m, b, x7, rfl, rfl, m0, m1, cb, hc⟩
      · rintro i ρ η N2 hi ⟨m, b, x7, rfl, rfl, m0, m1, cb, hc⟩ go2
        unfold l__law_tree_query_1
        decreasing_trivial
        have lb := cb.len
        refine ite_i (fun hlt => ?_) fun _ => go2 _ _ ⟨m, b, some _, rfl, rfl, m0, m1, cb, hc⟩
        decreasing_trivial
        refine ⟨by rw [len_iD]; unfold sizeLine; omega, go2 _ _ ⟨m + 1, b ++ [(m : Int)], some _, rfl, by rw [iD_add], by omega, by omega, (cb.up (Nat.le_succ m)).snoc (by omega) (by omega) fun hin => ?_, fun a ha => (hc a ha).up (Nat.le_succ m)⟩⟩
        have := cb.2 _ hin
        omega
      · rintro ρ η ⟨m, b, x7, rfl, rfl, m0, m1, cb, hc⟩
        have lb := cb.len
        have fin : ∀ (o : Ob) (ms : List Int), Cols m ms → Std o → _ := fun o ms cm ho => hP m ms o x7 (some (.lst (iD ms))) m0 m1 hc cm ho
        have add : ∀ (b : List Int) (o : Ob), Cols m b → Std o → ∃ ms, Cols m ms ∧ ((PySem.W.AllAlike (iD b) ∧ PySem.W.Sortable (iD b) ∧ ∀ d ∈ iD b, d.depth ≤ 50) ∧ (iD b).mergeSort (PySem.W.dataLe false id) = iD ms) := fun b o cb ho => by
          obtain ⟨sc, ms, e, pm⟩ := srt b
          exact ⟨ms, cb.perm pm, sc, e⟩
        decreasing_trivial
        refine ⟨.inl (by rw [dep_int]; omega), ite_of (fun _ => ?_) fun _ => ?_⟩
        · refine draw_w rfl ho5 (by omega) (by omega) fun r6 o6 u0 u1 ho6 => ?_
          decreasing_trivial
          skip
          obtain ⟨ms, cm, sc, e⟩ := add [r6] o6 (Cols.one u0 u1) ho6
          refine ⟨sc, ?_⟩
          rw [show ([PyData.int r6] : List D) = iD [r6] from rfl, e]
          decreasing_trivial
          refine ⟨by unfold sizeLine; omega, ?_⟩
          rw [tD_add]
          exact hP m ms o6 x7 _ m0 m1 hc cm ho6
        · decreasing_trivial
          obtain ⟨ms, cm, sc, e⟩ := add b o5 cb ho5
          refine ⟨sc, ?_⟩
          rw [e]
          decreasing_trivial
          refine ⟨by unfold sizeLine; omega, ?_⟩
          rw [tD_add]
          exact hP m ms o5 x7 _ m0 m1 hc cm ho5
    have last : ∀ (m' : Nat) (ms : List Int) (o : Ob) (x7 : Option D) (y : Option Ob), 1 ≤ m' → (m' : Int) ≤ mc → (∀ a ∈ as, Cols m' a) → Cols m' ms → Std o → N [some (.ptr 0), some (.dat (.int mc)), some (.dat (.int ma)), some (.dat (.int (m' : Nat))), some (.ptr 1), some (.dat (.int (j : Nat))), some (.ptr 2), sd x7] [some o, some (.lst (tD (as ++ [ms]))), y] := fun m' ms o x7 y m0 m1 hc cm ho =>
      go _ _ ⟨m', as ++ [ms], o, some _, x7, _, _, rfl, .inr rfl, rfl, ho, by rw [List.length_append, List.length_singleton, hl], m0, m1, fun b hb => by
        rcases List.mem_append.mp hb with hb | hb
        · exact hc b hb
        · rw [List.mem_singleton.mp hb]; exact cm⟩
    rcases h6 with rfl | rfl <;>
    · decreasing_trivial
      refine step _ ?_
      intro m' ms o x7 y a b c d e
      exact last m' ms o x7 y a b c d e
  · rintro ρ η ⟨m, as, o, x5, x7, x6, y, rfl, h6, rfl, ho, hl, m0, m1, hc⟩
    decreasing_trivial
    refine call_r rfl rfl rfl ⟨m, as, o, rfl, rfl, ho, by omega, by omega, hc, fun bs o' hlb hcb ho' => ⟨rfl, trivial, ?_⟩⟩
    decreasing_trivial
    refine ⟨⟨by omega, by omega⟩, ?_⟩
    rw [Int.toNat_natCast, rng_rI]
    exact k m bs o' ⟨m0, by omega, by omega, by omega, hcb⟩ m1 ho'
end Pl

namespace Pl
open PySem PySem.Spec PyProof.Rows L2

local macro_rules | `(tactic| decreasing_trivial) => `(tactic| try simp only [wSs, wS, wE, wEs, wEo, wCond, wSrc, wAnd, wOr, Bool.false_eq_true, if_false, Bool.not_true, Bool.not_false, asT, onView_dat, onD_dat, fz_dat, fz_ptr, fz_fr, settled_dat, settled_ptr,  List.getElem?_cons_zero, List.getElem?_cons_succ, List.set_cons_zero, List.set_cons_succ, List.length_cons, List.length_nil, Nat.reduceAdd, Option.some.injEq, exists_eq_left', true_and, and_true, if_true, decide_eq_true_eq, Int.reduceToNat, Int.reducePow, Int.reduceLE, Int.reduceLT, Int.reduceMul, Int.reduceAdd, Int.reduceSub, Int.reduceNeg, Nat.reduceLT, Nat.reduceLeDiff, Nat.reduceMul, Nat.reducePow, Int.reduceAbs, Nat.reduceSub, List.map, List.replicate, List.cons_append, List.nil_append, List.append_nil, regsOf, renum, List.nodup_nil, r_add, r_adds, r_addt, r_addl, r_sub, r_mul, r_mull, r_mult, r_fdiv, r_mod, r_pow, r_band, r_bor, r_bxor, r_shl, r_shr, r_lt, r_le, r_gt, r_ge, r_lts, r_eq, r_ne, r_isin, r_notin, r_isin_list, r_isin_tuple, r_notin_list, r_notin_tuple, r_isnone, r_notnone, r_ixl, r_ixt, r_ixs, r_sll, r_slt, r_sls, r_len, r_int, r_intb, r_abs, r_min2, r_max2, r_sum, r_min1, r_max1, r_all, r_any, r_list, r_listt, r_tup, r_tupt, r_rl1, r_rl2, r_rt1, r_rt2, r_sort, r_sortt, r_isi, r_lenl, r_lent, r_lens, r_augi, r_augs, r_bitl, r_split, r_wtg, r_wtgm, r_at0, r_at1, r_at2, r_at3, r_at4, r_at5, r_ix1_0, r_ix2_0, r_ix2_1, r_ix3_0, r_ix3_1, r_ix3_2, r_ix4_0, r_ix4_1, r_ix4_2, r_ix4_3, r_ix5_0, r_ix5_1, r_ix5_2, r_ix5_3, r_ix5_4, r_v0, r_lenp0, r_typ0, r_app0, r_pop0, r_popAt0, r_ext0, r_outs0, r_v1, r_lenp1, r_typ1, r_app1, r_pop1, r_popAt1, r_ext1, r_outs1, r_v2, r_lenp2, r_typ2, r_app2, r_pop2, r_popAt2, r_ext2, r_outs2, r_v3, r_lenp3, r_typ3, r_app3, r_pop3, r_popAt3, r_ext3, r_outs3, r_tyd, r_mapp, r_mpop, r_mpopAt, r_mext, r_midxl, r_midxt, r_mspl, r_mbit, r_npd, r_npf, r_ty_int, r_ty_str, r_ty_list, r_ty_tuple, r_ty_bool, r_ixli, r_ixti, r_asgd, r_asgp, r_asgf, r_asgn, r_clr0, r_clr1, r_clr2, r_clr3, r_sto0, r_ag0, r_sto1, r_ag1, r_sto2, r_ag2, r_sto3, r_ag3, r_c0, r_c1, r_c2, r_c3, r_c4, r_c5, r_c6, r_c7, r_c8, r_c9, r_c10, r_c11, r_put1, r_put0, r_ptuple0, r_plist0, r_psum0, r_pmin10, r_pmax10, r_pall0, r_pany0, r_psorted0, r_ptuple1, r_plist1, r_psum1, r_pmin11, r_pmax11, r_pall1, r_pany1, r_psorted1, r_ptuple2, r_plist2, r_psum2, r_pmin12, r_pmax12, r_pall2, r_pany2, r_psorted2, r_ptuple3, r_plist3, r_psum3, r_pmin13, r_pmax13, r_pall3, r_pany3, r_psorted3, r_stab, r_wipe0, r_wipe1, stepLc, r_putc, frz1, reduceCtorEq, Nat.reduceEqDiff, reduceIte, r_clrD, r_frzD, setMany, r_sumt, r_min1t, r_max1t, r_ex0, r_exc, r_sz0, r_sz1, r_sz2, r_sz3, r_sz4, r_sz5, r_sz6, r_sz7, r_sz8, r_sz9, r_sz10, r_sz11, r_sz12, r_sz13, r_sz14, r_sz15, r_sz16, r_sz17, r_sz18, r_sz19, r_sz20])
def spRing : PSpec := fun vs obs Q => ∃ (s : Nat) (more : Int) (o : Ob), vs = [.ptr 0, .dat (.int (s : Nat)), .dat (.int more)] ∧ obs = [o] ∧ Std o ∧ 2 ≤ s ∧ s ≤ 50 ∧
  ∀ (m : Nat) (as : List (List Int)) (o' : Ob), Qry m as → m ≤ s + 1 → (more ≤ 0 → m = s) → Std o' → Q (.dat (qD m as)) [o']
theorem rd_ring {vs : List Vl} {obs : List Ob} {Q : Vl → List Ob → Prop} (h : spRing vs obs Q) : vs.length = 3 ∧ obs.length = 1 ∧ wFn [("_law_draw", spDraw), ("_law_renamed", spRenamed)] b__law_ring_query 6 1 vs obs Q := by
  obtain ⟨s, more, o, rfl, rfl, hs, s0, s1, k⟩ := h
  refine ⟨rfl, rfl, wFn_of rfl ?_⟩
  have rest : ∀ (P : LEnds) (m : Nat) (as : List (List Int)) (o : Ob) (x5 : Option Vl), 1 ≤ m → m ≤ s + 1 → (more ≤ 0 → m = s) → 1 ≤ as.length → as.length ≤ 60 → (∀ a ∈ as, Cols m a) → Std o → (∀ (bs : List (List Int)) (o' : Ob), Qry m bs → Std o' → P.rt (.dat (qD m bs)) [some o', none]) →
      wSs [("_law_draw", spDraw), ("_law_renamed", spRenamed)] r__law_ring_query_2 P [some (.ptr 0), some (.dat (.int (s : Nat))), some (.dat (.int more)), some (.ptr 1), some (.dat (.int (m : Nat))), x5] [some o, some (.lst (tD as))] := by
    intro P m as o x5 m0 m1 mm l0 l1 hc ho kk
    have rest2 : ∀ (as : List (List Int)) (o : Ob), 1 ≤ as.length → as.length ≤ 70 → (∀ a ∈ as, Cols m a) → Std o → wSs [("_law_draw", spDraw), ("_law_renamed", spRenamed)] r__law_ring_query_1 P [some (.ptr 0), some (.dat (.int (s : Nat))), some (.dat (.int more)), some (.ptr 1), some (.dat (.int (m : Nat))), x5] [some o, some (.lst (tD as))] := by
      intro as o l0 l1 hc ho
      unfold r__law_ring_query_1
      decreasing_trivial
      refine call_r rfl rfl rfl ⟨m, as, o, rfl, rfl, ho, by omega, by omega, hc, fun bs o' hlb hcb ho' => ⟨rfl, trivial, ?_⟩⟩
      decreasing_trivial
      refine ⟨⟨by omega, by omega⟩, ?_⟩
      rw [Int.toNat_natCast, rng_rI]
      exact kk bs o' ⟨m0, by omega, by omega, by omega, hcb⟩ ho'
    unfold r__law_ring_query_2
    decreasing_trivial
    refine ite_i (fun _ => ?_) fun _ => ?_
    · decreasing_trivial
      refine draw_w rfl ho (by omega) (by omega) fun r o' r0 r1 ho' => ?_
      decreasing_trivial
      refine ⟨by rw [len_tD]; unfold sizeLine; omega, ?_⟩
      rw [show ([PyData.int r] : List D) = iD [r] from rfl, tD_add]
      refine rest2 (as ++ [[r]]) _ (by rw [List.length_append]; omega) (by rw [List.length_append, List.length_singleton]; omega) (fun a ha => ?_) ho'
      rcases List.mem_append.mp ha with ha | ha
      · exact hc a ha
      · rw [List.mem_singleton.mp ha]; exact Cols.one r0 r1
    · exact rest2 as o l0 (by omega) hc ho
  unfold b__law_ring_query
  decreasing_trivial
  refine ⟨by unfold sizeLine; omega, by omega, ?_⟩
  rw [Int.toNat_natCast]
  refine lc_inv (fun η => η = [some o, none]) (fun d e => ∃ b, e = some (.tuple (iD b)) ∧ Cols s b) (fun _ _ => trivial) _ rfl ?_ ?_
  · rintro d hd η K rfl kk
    obtain ⟨j, hj, rfl⟩ := rng_mem hd
    rw [Int.zero_add]
    unfold e__law_ring_query_1
    decreasing_trivial
    refine ⟨by omega, ?_⟩
    obtain ⟨sc, ms, e, pm⟩ := srt [((j : Nat) : Int), (((j : Nat) : Int) + 1) % ((s : Nat) : Int)]
    decreasing_trivial
    refine ⟨sc, ?_⟩
    rw [show ([PyData.int ((j : Nat) : Int), .int ((((j : Nat) : Int) + 1) % ((s : Nat) : Int))] : List D) = iD [((j : Nat) : Int), (((j : Nat) : Int) + 1) % ((s : Nat) : Int)] from rfl, e]
    decreasing_trivial
    refine kk _ _ rfl ⟨ms, rfl, Cols.perm ?_ pm⟩
    have e0 := Int.emod_nonneg (((j : Nat) : Int) + 1) (b := ((s : Nat) : Int)) (by omega)
    have e1 := Int.emod_lt_of_pos (((j : Nat) : Int) + 1) (b := ((s : Nat) : Int)) (by omega)
    refine Cols.app (a := [((j : Nat) : Int)]) (Cols.one (by omega) (by omega)) (Cols.one e0 e1) fun c h1 h2 => ?_
    rw [List.mem_singleton] at h1 h2
    rw [h1] at h2
    by_cases q : j + 1 = s
    · have : (((j : Nat) : Int) + 1) = ((s : Nat) : Int) := by omega
      rw [this, Int.emod_self] at h2
      omega
    · rw [Int.emod_eq_of_lt (by omega) (by omega)] at h2
      omega
  · rintro es η rfl hO
    obtain ⟨as, rfl, hl, hc⟩ := outs_map (g := fun b => PyData.tuple (iD b)) (P := Cols s) (fun d o h => h) hO
    rw [rng_size] at hl
    change ∀ r ∈ as, Cols s r at hc
    rw [show (as.map fun b => PyData.tuple (iD b)) = tD as from rfl]
    decreasing_trivial
    have no : ∀ o : Ob, Std o → (more ≤ 0 ∨ True) → wSs [("_law_draw", spDraw), ("_law_renamed", spRenamed)] r__law_ring_query_2 ⟨fun _ η => (match outs 1 η with
      | some os => Q (.dat .none) os
      | none => False),
    fun v η => (match outs 1 η with
      | some os => v.noPtr ∧ Q v os
      | none => False), fun _ _ => False, fun _ _ => False⟩ [some (.ptr 0), some (.dat (.int (s : Nat))), some (.dat (.int more)), some (.ptr 1), some (.dat (.int (s : Nat))), none] [some o, some (.lst (tD as))] := fun o ho _ =>
      rest _ s as o none (by omega) (by omega) (fun _ => rfl) (by omega) (by omega) hc ho fun bs o' hq ho' => ⟨trivial, k s bs o' hq (by omega) (fun _ => rfl) ho'⟩
    refine ite_i (fun hm => ?_) fun _ => no o hs (.inr trivial)
    decreasing_trivial
    refine draw_w rfl hs (by omega) (by omega) fun r o' r0 r1 hs' => ?_
    decreasing_trivial
    refine ⟨.inl (by rw [dep_int]; omega), ite_of (fun _ => ?_) fun _ => no o' hs' (.inr trivial)⟩
    decreasing_trivial
    refine draw_w rfl hs' (by omega) (by omega) fun r2 o2 q0 q1 hs2 => ?_
    decreasing_trivial
    refine ⟨by rw [len_tD]; unfold sizeLine; omega, ?_⟩
    rw [show ([PyData.int r2, .int ((s : Nat) : Int)] : List D) = iD [r2, ((s : Nat) : Int)] from rfl, tD_add]
    have hm' : ¬ more ≤ 0 := by omega
    refine rest _ (s + 1) _ o2 none (by omega) (by omega) (fun z => absurd z hm') (by rw [List.length_append]; omega) (by rw [List.length_append, List.length_singleton]; omega) (fun a ha => ?_) hs2 fun bs o' hq ho' => ⟨trivial, k (s + 1) bs o' hq (by omega) (fun z => absurd z hm') ho'⟩
    rcases List.mem_append.mp ha with ha | ha
    · exact (hc a ha).up (by omega)
    · rw [List.mem_singleton.mp ha]
      exact (Cols.one (m := s + 1) (c := r2) q0 (by omega)).snoc (c := ((s : Nat) : Int)) (by omega) (by omega) (by rw [List.mem_singleton]; omega)
end Pl

namespace Pl
open PySem PySem.Spec PyProof.Rows L2

local macro_rules | `(tactic| decreasing_trivial) => `(tactic| try simp only [wSs, wS, wE, wEs, wEo, wCond, wSrc, wAnd, wOr, Bool.false_eq_true, if_false, Bool.not_true, Bool.not_false, asT, onView_dat, onD_dat, fz_dat, fz_ptr, fz_fr, settled_dat, settled_ptr,  List.getElem?_cons_zero, List.getElem?_cons_succ, List.set_cons_zero, List.set_cons_succ, List.length_cons, List.length_nil, Nat.reduceAdd, Option.some.injEq, exists_eq_left', true_and, and_true, if_true, decide_eq_true_eq, Int.reduceToNat, Int.reducePow, Int.reduceLE, Int.reduceLT, Int.reduceMul, Int.reduceAdd, Int.reduceSub, Int.reduceNeg, Nat.reduceLT, Nat.reduceLeDiff, Nat.reduceMul, Nat.reducePow, Int.reduceAbs, Nat.reduceSub, List.map, List.replicate, List.cons_append, List.nil_append, List.append_nil, regsOf, renum, List.nodup_nil, r_add, r_adds, r_addt, r_addl, r_sub, r_mul, r_mull, r_mult, r_fdiv, r_mod, r_pow, r_band, r_bor, r_bxor, r_shl, r_shr, r_lt, r_le, r_gt, r_ge, r_lts, r_eq, r_ne, r_isin, r_notin, r_isin_list, r_isin_tuple, r_notin_list, r_notin_tuple, r_isnone, r_notnone, r_ixl, r_ixt, r_ixs, r_sll, r_slt, r_sls, r_len, r_int, r_intb, r_abs, r_min2, r_max2, r_sum, r_min1, r_max1, r_all, r_any, r_list, r_listt, r_tup, r_tupt, r_rl1, r_rl2, r_rt1, r_rt2, r_sort, r_sortt, r_isi, r_lenl, r_lent, r_lens, r_augi, r_augs, r_bitl, r_split, r_wtg, r_wtgm, r_at0, r_at1, r_at2, r_at3, r_at4, r_at5, r_ix1_0, r_ix2_0, r_ix2_1, r_ix3_0, r_ix3_1, r_ix3_2, r_ix4_0, r_ix4_1, r_ix4_2, r_ix4_3, r_ix5_0, r_ix5_1, r_ix5_2, r_ix5_3, r_ix5_4, r_v0, r_lenp0, r_typ0, r_app0, r_pop0, r_popAt0, r_ext0, r_outs0, r_v1, r_lenp1, r_typ1, r_app1, r_pop1, r_popAt1, r_ext1, r_outs1, r_v2, r_lenp2, r_typ2, r_app2, r_pop2, r_popAt2, r_ext2, r_outs2, r_v3, r_lenp3, r_typ3, r_app3, r_pop3, r_popAt3, r_ext3, r_outs3, r_tyd, r_mapp, r_mpop, r_mpopAt, r_mext, r_midxl, r_midxt, r_mspl, r_mbit, r_npd, r_npf, r_ty_int, r_ty_str, r_ty_list, r_ty_tuple, r_ty_bool, r_ixli, r_ixti, r_asgd, r_asgp, r_asgf, r_asgn, r_clr0, r_clr1, r_clr2, r_clr3, r_sto0, r_ag0, r_sto1, r_ag1, r_sto2, r_ag2, r_sto3, r_ag3, r_c0, r_c1, r_c2, r_c3, r_c4, r_c5, r_c6, r_c7, r_c8, r_c9, r_c10, r_c11, r_put1, r_put0, r_ptuple0, r_plist0, r_psum0, r_pmin10, r_pmax10, r_pall0, r_pany0, r_psorted0, r_ptuple1, r_plist1, r_psum1, r_pmin11, r_pmax11, r_pall1, r_pany1, r_psorted1, r_ptuple2, r_plist2, r_psum2, r_pmin12, r_pmax12, r_pall2, r_pany2, r_psorted2, r_ptuple3, r_plist3, r_psum3, r_pmin13, r_pmax13, r_pall3, r_pany3, r_psorted3, r_stab, r_wipe0, r_wipe1, stepLc, r_putc, frz1, reduceCtorEq, Nat.reduceEqDiff, reduceIte, r_clrD, r_frzD, setMany, r_sumt, r_min1t, r_max1t, r_ex0, r_exc, r_sz0, r_sz1, r_sz2, r_sz3, r_sz4, r_sz5, r_sz6, r_sz7, r_sz8, r_sz9, r_sz10, r_sz11, r_sz12, r_sz13, r_sz14, r_sz15, r_sz16, r_sz17, r_sz18, r_sz19, r_sz20])
theorem cols_snoc {m : Nat} {as : List (List Int)} {b : List Int} (h : ∀ a ∈ as, Cols m a) (hb : Cols m b) : ∀ a ∈ as ++ [b], Cols m a := fun a ha => by
  rcases List.mem_append.mp ha with ha | ha
  · exact h a ha
  · rw [List.mem_singleton.mp ha]; exact hb
theorem fm_filter (p : Int → Bool) {f : D → Option D} (h : ∀ c, f (.int c) = if p c = true then some (.int c) else none) (l : List Int) : (iD l).filterMap f = iD (l.filter p) := by
  induction l with
  | nil => rfl
  | cons c l ih =>
    show ((PyData.int c :: iD l).filterMap f) = _
    rw [List.filterMap_cons, List.filter_cons, ih, h]
    by_cases e : p c = true
    · rw [if_pos e, if_pos e]; rfl
    · rw [if_neg e, if_neg e]
def spClique : PSpec := fun vs obs Q => ∃ (s : Nat) (more : Int) (o : Ob), vs = [.ptr 0, .dat (.int (s : Nat)), .dat (.int more)] ∧ obs = [o] ∧ Std o ∧ 1 ≤ s ∧ s ≤ 50 ∧
  ∀ (m : Nat) (as : List (List Int)) (o' : Ob), Qry m as → m ≤ s + 1 → (more ≤ 0 → m = s) → Std o' → Q (.dat (qD m as)) [o']
theorem eqv_ne (c j : Int) : (!PyData.eqv (.int c) (.int j)) = decide (c ≠ j) := by
  rw [eqv_int]
  simp
theorem rd_clique {vs : List Vl} {obs : List Ob} {Q : Vl → List Ob → Prop} (h : spClique vs obs Q) : vs.length = 3 ∧ obs.length = 1 ∧ wFn [("_law_draw", spDraw), ("_law_renamed", spRenamed)] b__law_clique_query 7 1 vs obs Q := by
  obtain ⟨s, more, o, rfl, rfl, hs, s0, s1, k⟩ := h
  refine ⟨rfl, rfl, wFn_of rfl ?_⟩
  have rest : ∀ (P : LEnds) (m : Nat) (as : List (List Int)) (o : Ob) (x5 x6 : Option Vl), 1 ≤ m → m ≤ s + 1 → 1 ≤ as.length → as.length ≤ 60 → (∀ a ∈ as, Cols m a) → Std o → (∀ (bs : List (List Int)) (o' : Ob), Qry m bs → Std o' → P.rt (.dat (qD m bs)) [some o', none]) →
      wSs [("_law_draw", spDraw), ("_law_renamed", spRenamed)] r__law_clique_query_1 P [some (.ptr 0), some (.dat (.int (s : Nat))), some (.dat (.int more)), some (.ptr 1), some (.dat (.int (m : Nat))), x5, x6] [some o, some (.lst (tD as))] := by
    intro P m as o x5 x6 m0 m1 l0 l1 hc ho kk
    unfold r__law_clique_query_1
    decreasing_trivial
    refine call_r rfl rfl rfl ⟨m, as, o, rfl, rfl, ho, by omega, by omega, hc, fun bs o' hlb hcb ho' => ⟨rfl, trivial, ?_⟩⟩
    decreasing_trivial
    refine ⟨⟨by omega, by omega⟩, ?_⟩
    rw [Int.toNat_natCast, rng_rI]
    exact kk bs o' ⟨m0, by omega, by omega, by omega, hcb⟩ ho'
  unfold b__law_clique_query
  decreasing_trivial
  refine ⟨by unfold sizeLine; omega, by omega, ?_⟩
  rw [Int.toNat_natCast]
  refine lc_inv (fun η => η = [some o, none]) (fun d e => ∃ b, e = some (.tuple (iD b)) ∧ Cols s b) (fun _ _ => trivial) _ rfl ?_ ?_
  · rintro d hd η K rfl kk
    obtain ⟨j, hj, rfl⟩ := rng_mem hd
    rw [Int.zero_add]
    unfold e__law_clique_query_2
    decreasing_trivial
    refine ⟨by unfold sizeLine; omega, by omega, ?_⟩
    rw [Int.toNat_natCast, rng_rI]
    refine lc_pure (fun d => match d with
      | .int c => if c ≠ (j : Int) then some (.int c) else none
      | _ => none) trivial _ (fun d hd K hK => ?_) ?_
    · obtain ⟨c, hcc, rfl⟩ := List.mem_map.mp hd
      unfold c__law_clique_query_1 e__law_clique_query_1
      decreasing_trivial
      refine ⟨.inl (by rw [dep_int]; omega), ?_⟩
      rw [eqv_ne]
      by_cases e : c = (j : Int)
      · rw [decide_eq_false (by simpa using e), if_neg (by decide)]
        dsimp only at hK
        rw [if_neg (by simpa using e)] at hK
        exact hK
      · rw [decide_eq_true (by simpa using e), if_pos rfl]
        dsimp only at hK
        rw [if_pos (by simpa using e)] at hK
        exact hK
    · rw [fm_filter (fun c => decide (c ≠ (j : Int))) (fun c => by dsimp only; simp only [decide_eq_true_eq])]
      decreasing_trivial
      exact kk _ _ rfl ⟨_, rfl, (cols_rI s).sub List.filter_sublist⟩
  · rintro es η rfl hO
    obtain ⟨as, rfl, hl, hc⟩ := outs_map (g := fun b => PyData.tuple (iD b)) (P := Cols s) (fun d o h => h) hO
    rw [rng_size] at hl
    change ∀ r ∈ as, Cols s r at hc
    rw [show (as.map fun b => PyData.tuple (iD b)) = tD as from rfl]
    decreasing_trivial
    refine ite_i (fun hm => ?_) fun _ => rest _ s as o none none (by omega) (by omega) (by omega) (by omega) hc hs fun bs o' hq ho' => ⟨trivial, k s bs o' hq (by omega) (fun _ => rfl) ho'⟩
    decreasing_trivial
    refine draw_w rfl hs (by omega) (by omega) fun r o' r0 r1 hs' => ?_
    decreasing_trivial
    obtain ⟨sc, ms, e, pm⟩ := srt [r, ((s : Nat) : Int)]
    refine ⟨sc, ?_⟩
    rw [show ([PyData.int r, .int ((s : Nat) : Int)] : List D) = iD [r, ((s : Nat) : Int)] from rfl, e]
    decreasing_trivial
    refine ⟨by rw [len_tD]; unfold sizeLine; omega, ?_⟩
    rw [tD_add]
    refine rest _ (s + 1) (as ++ [ms]) o' none none (by omega) (by omega) (by rw [List.length_append]; omega) (by rw [List.length_append, List.length_singleton]; omega) (cols_snoc (fun a ha => (hc a ha).up (by omega)) (Cols.perm ?_ pm)) hs' fun bs o2 hq ho' => ⟨trivial, k (s + 1) bs o2 hq (by omega) (fun z => absurd z (by omega)) ho'⟩
    exact (Cols.one (m := s + 1) (c := r) r0 (by omega)).snoc (c := ((s : Nat) : Int)) (by omega) (by omega) (by rw [List.mem_singleton]; omega)
def spNested : PSpec := fun vs obs Q => ∃ (mc : Int) (o : Ob), vs = [.ptr 0, .dat (.int mc)] ∧ obs = [o] ∧ Std o ∧ 1 ≤ mc ∧ mc ≤ 50 ∧
  ∀ (m : Nat) (as : List (List Int)) (o' : Ob), Qry m as → (m : Int) ≤ mc → Std o' → Q (.dat (qD m as)) [o']
/-- a nested column's way -/
def WayOk (c : Nat) (w : List Int) : Prop := w.Nodup ∧ ∀ x ∈ w, 0 ≤ x ∧ x ≤ (c : Int)
theorem WayOk.cols {c m : Nat} {w : List Int} (h : WayOk c w) (hm : c < m) : Cols m w := ⟨h.1, fun x hx => by have := h.2 x hx; omega⟩
theorem rd_nested {vs : List Vl} {obs : List Ob} {Q : Vl → List Ob → Prop} (h : spNested vs obs Q) : vs.length = 2 ∧ obs.length = 1 ∧ wFn [("_law_draw", spDraw), ("_law_renamed", spRenamed)] b__law_nested_query 9 2 vs obs Q := by
  obtain ⟨mc, o, rfl, rfl, hs, c0, c1, k⟩ := h
  refine ⟨rfl, rfl, wFn_of rfl ?_⟩
  unfold b__law_nested_query
  decreasing_trivial
  refine draw_w rfl hs (by omega) (by omega) fun r o1 r0 r1 hs1 => ?_
  decreasing_trivial
  obtain ⟨m, hm⟩ := nat_of (z := 1 + r) (by omega)
  rw [hm]
  have m0 : 1 ≤ m ∧ m ≤ 50 := by omega
  refine ⟨⟨by unfold sizeLine; omega, by omega⟩, fun _ h => (nomatch h), ?_⟩
  rw [show (((m : Nat) : Int) - 1).toNat = m - 1 by omega]
  refine for_rng (fun c ρ η => ∃ (ps : List Int) (o : Ob) (x4 : Option D), ρ = [some (.ptr 0), some (.dat (.int mc)), some (.dat (.int (m : Nat))), some (.ptr 1), sd x4, none, none, none, none] ∧ η = [some o, some (.lst (iD ps)), none] ∧ Std o ∧ ps.length = c ∧
    ∀ (j : Nat) (p : Int), ps[j]? = some p → -1 ≤ p ∧ p < (j : Int)) 1 (m - 1) ?_ ?_ ⟨[-1], o1, none, rfl, rfl, hs1, rfl, fun j p hp => ?_⟩
  · rintro c ρ η N hc0 hc1 ⟨ps, o, x4, rfl, rfl, ho, hl, hp⟩ go
    unfold l__law_nested_query_1
    decreasing_trivial
    refine draw_w rfl ho (by omega) (by omega) fun r2 o2 q0 q1 ho2 => ?_
    decreasing_trivial
    refine ⟨by rw [len_iD]; unfold sizeLine; omega, go _ _ ⟨ps ++ [r2 - 1], o2, some _, rfl, by rw [iD_add], ho2, by rw [List.length_append, List.length_singleton, hl], fun j p hjp => ?_⟩⟩
    by_cases hj : j < ps.length
    · rw [List.getElem?_append_left hj] at hjp
      exact hp j p hjp
    · rw [List.getElem?_append_right (by omega)] at hjp
      have : j - ps.length = 0 := by
        by_cases e : j - ps.length = 0
        · exact e
        · rw [List.getElem?_eq_none (by rw [List.length_singleton]; omega)] at hjp
          cases hjp
      rw [this] at hjp
      cases hjp
      omega
  · rintro ρ η ⟨ps, o, x4, rfl, rfl, ho, hl, hp⟩
    rw [show 1 + (m - 1) = m by omega] at hl
    decreasing_trivial
    refine ⟨by unfold sizeLine; omega, by omega, fun _ h => (nomatch h), ?_⟩
    rw [Int.toNat_natCast]
    have hps : ∀ j : Nat, j < m → ∃ p : Int, ps[j]? = some p ∧ -1 ≤ p ∧ p < (j : Int) := fun j hj => by
      have : j < ps.length := by omega
      exact ⟨ps[j], List.getElem?_eq_getElem this, hp j _ (List.getElem?_eq_getElem this)⟩
    refine for_rng0 (fun c ρ η => ∃ (ws : List (List Int)) (x4 x7 : Option D), ρ = [some (.ptr 0), some (.dat (.int mc)), some (.dat (.int (m : Nat))), some (.ptr 1), sd x4, some (.ptr 2), none, sd x7, none] ∧ η = [some o, some (.lst (iD ps)), some (.lst (lD ws))] ∧ ws.length = c ∧
      ∀ (j : Nat) (w : List Int), ws[j]? = some w → WayOk j w) m ?_ ?_ ⟨[], x4, none, rfl, rfl, rfl, fun j w h => by simp at h⟩
    · rintro c ρ η N hc ⟨ws, x4, x7, rfl, rfl, hlw, hw⟩ go
      unfold l__law_nested_query_2
      decreasing_trivial
      obtain ⟨p, hp1, hp2, hp3⟩ := hps c hc
      have hat : atI (iD ps) ((c : Nat) : Int) = some (.int p) := atI_nat (by rw [List.getElem?_map, hp1]; rfl)
      refine ⟨_, hat, ?_⟩
      decreasing_trivial
      have last : ∀ w : List Int, WayOk c w → N [some (.ptr 0), some (.dat (.int mc)), some (.dat (.int (m : Nat))), some (.ptr 1), some (.dat (.int (c : Nat))), some (.ptr 2), none, some (.dat (.list (iD w))), none] [some o, some (.lst (iD ps)), some (.lst (lD ws ++ [.list (iD w)]))] := fun w hw2 =>
        go _ _ ⟨ws ++ [w], some _, some _, rfl, by unfold lD; rw [List.map_append]; rfl, by rw [List.length_append, List.length_singleton, hlw], fun j v hv => by
          by_cases hj : j < ws.length
          · rw [List.getElem?_append_left hj] at hv
            exact hw j v hv
          · rw [List.getElem?_append_right (by omega)] at hv
            have e0 : j - ws.length = 0 := by
              by_cases e : j - ws.length = 0
              · exact e
              · rw [List.getElem?_eq_none (by rw [List.length_singleton]; omega)] at hv
                cases hv
            rw [e0] at hv
            cases hv
            have : j = c := by omega
            subst this
            exact hw2⟩
      have sz : (lD ws).length < sizeLine := by rw [len_lD]; unfold sizeLine; omega
      refine ite_i (fun h0 => ?_) fun _ => ?_
      · decreasing_trivial
        refine ⟨_, hat, ?_⟩
        decreasing_trivial
        obtain ⟨q, rfl⟩ := nat_of h0
        have hq : q < ws.length := by omega
        have hg : (lD ws)[q]? = some (.list (iD ws[q])) := by unfold lD; rw [List.getElem?_map, List.getElem?_eq_getElem hq]; rfl
        have wq := hw q _ (List.getElem?_eq_getElem hq)
        have cq : Cols m ws[q] := wq.cols (by omega)
        have lq := cq.len
        refine ⟨_, atI_nat hg, ?_⟩
        decreasing_trivial
        refine ⟨by rw [len_iD]; unfold sizeLine; omega, sz, ?_⟩
        rw [iD_add]
        refine last (ws[q] ++ [((c : Nat) : Int)]) ⟨?_, fun x hx => ?_⟩
        · rw [List.nodup_append]
          refine ⟨wq.1, by simp, fun x hx y hy e => ?_⟩
          rw [List.mem_singleton] at hy
          have := wq.2 x hx
          omega
        · rcases List.mem_append.mp hx with hx | hx
          · have := wq.2 x hx; omega
          · rw [List.mem_singleton.mp hx]; omega
      · decreasing_trivial
        refine ⟨sz, last [((c : Nat) : Int)] ⟨by simp, fun x hx => ?_⟩⟩
        rw [List.mem_singleton.mp hx]; omega
    · rintro ρ η ⟨ws, x4, x7, rfl, rfl, hlw, hw⟩
      decreasing_trivial
      refine ⟨by unfold sizeLine; omega, by omega, ?_⟩
      rw [Int.toNat_natCast]
      have wat : ∀ j : Nat, j < m → ∃ w, (lD ws)[j]? = some (.list (iD w)) ∧ Cols m w := fun j hj => by
        have : j < ws.length := by omega
        exact ⟨ws[j], by unfold lD; rw [List.getElem?_map, List.getElem?_eq_getElem this]; rfl, (hw j _ (List.getElem?_eq_getElem this)).cols hj⟩
      -- the ways that end
      refine lc_inv (fun η => η = [some o, some (.lst (iD ps)), some (.lst (lD ws))]) (fun d e => (d = .int (((m - 1 : Nat) : Nat) : Int) → e ≠ none) ∧ (e = none ∨ ∃ b, e = some (.tuple (iD b)) ∧ Cols m b)) (fun _ _ => trivial) _ rfl ?_ ?_
      · rintro d hd η K rfl kk
        obtain ⟨j, hj, rfl⟩ := rng_mem hd
        rw [Int.zero_add] at kk ⊢
        unfold c__law_nested_query_1 e__law_nested_query_1
        decreasing_trivial
        refine ⟨.inr (by rw [dep_int]; omega), ?_⟩
        rw [eqv_mem]
        refine ite_of (fun _ => ?_) fun hb => ?_
        · decreasing_trivial
          obtain ⟨w, hg, cw⟩ := wat j hj
          refine ⟨_, atI_nat hg, ?_⟩
          decreasing_trivial
          obtain ⟨sc, ms, e, pm⟩ := srt w
          refine ⟨sc, ?_⟩
          rw [e]
          decreasing_trivial
          exact kk _ _ rfl ⟨fun _ z => (nomatch z), .inr ⟨ms, rfl, cw.perm pm⟩⟩
        · refine kk _ _ rfl ⟨fun e => ?_, .inl rfl⟩
          have : ((j : Nat) : Int) ∈ ps := by simpa using hb
          obtain ⟨i, hi, hpi⟩ := List.mem_iff_getElem.mp this
          have := hp i _ (List.getElem?_eq_getElem hi)
          cases e
          omega
      · rintro es η rfl hO
        obtain ⟨as, rfl, hl2, hc2⟩ := outs_opt (g := fun b => PyData.tuple (iD b)) (P := Cols m) (fun d o h => h.2) hO
        have one : 1 ≤ as.length := by
          have key : ∀ {ds es : List D}, Outs (fun d e => (d = .int (((m - 1 : Nat) : Nat) : Int) → e ≠ none) ∧ (e = none ∨ ∃ b, e = some (.tuple (iD b)) ∧ Cols m b)) ds es → PyData.int (((m - 1 : Nat) : Nat) : Int) ∈ ds → 1 ≤ es.length := by
            intro ds es h
            induction h with
            | nil => intro h; cases h
            | put _ _ _ => intro _; rw [List.length_cons]; omega
            | skip r _ ih =>
              intro h
              rcases List.mem_cons.mp h with h | h
              · exact absurd rfl (r.1 h.symm)
              · exact ih h
          have := key hO (by rw [rng_zero]; exact List.mem_map.mpr ⟨m - 1, List.mem_range.mpr (by omega), rfl⟩)
          rwa [List.length_map] at this
        rw [rng_size] at hl2
        change ∀ r ∈ as, Cols m r at hc2
        rw [show (as.map fun b => PyData.tuple (iD b)) = tD as from rfl]
        decreasing_trivial
        refine draw_w rfl ho (by omega) (by omega) fun r3 o3 s0 s1 ho3 => ?_
        decreasing_trivial
        obtain ⟨t, rfl⟩ := nat_of s0
        refine ⟨by unfold sizeLine; omega, by omega, ?_⟩
        rw [Int.toNat_natCast]
        refine lc_inv (fun η => ∃ o, η = [some o, some (.lst (iD ps)), some (.lst (lD ws))] ∧ Std o) (fun d e => ∃ b, e = some (.tuple (iD b)) ∧ Cols m b) (fun _ _ => trivial) _ ⟨o3, rfl, ho3⟩ ?_ ?_
        · rintro d hd η K ⟨o, rfl, ho⟩ kk
          obtain ⟨j, hj, rfl⟩ := rng_mem hd
          unfold e__law_nested_query_2
          decreasing_trivial
          refine draw_w rfl ho (by omega) (by omega) fun r4 o4 u0 u1 ho4 => ?_
          decreasing_trivial
          obtain ⟨q, rfl⟩ := nat_of u0
          obtain ⟨w, hg, cw⟩ := wat q (by omega)
          refine ⟨_, atI_nat hg, ?_⟩
          decreasing_trivial
          obtain ⟨sc, ms, e, pm⟩ := srt w
          refine ⟨sc, ?_⟩
          rw [e]
          decreasing_trivial
          exact kk _ _ ⟨o4, rfl, ho4⟩ ⟨ms, rfl, cw.perm pm⟩
        · rintro es η ⟨o, rfl, ho⟩ hO
          obtain ⟨bs, rfl, hl3, hc3⟩ := outs_map (g := fun b => PyData.tuple (iD b)) (P := Cols m) (fun d o h => h) hO
          rw [rng_size] at hl3
          change ∀ r ∈ bs, Cols m r at hc3
          rw [show (bs.map fun b => PyData.tuple (iD b)) = tD bs from rfl]
          decreasing_trivial
          refine ⟨by rw [len_tD, len_tD]; unfold sizeLine; omega, ?_⟩
          rw [tD_app, show cutL (tD (as ++ bs)) none (some 8) = tD ((as ++ bs).take 8) by
            have e : HT.sIx (tD (as ++ bs)).length (tD (as ++ bs)).length (some ((8 : Nat) : Int)) = min 8 (tD (as ++ bs)).length := HT.sIx_nat _ _ _
            unfold cutL
            rw [HT.sIx_none]
            have e' : HT.sIx (tD (as ++ bs)).length (tD (as ++ bs)).length (some 8) = min 8 (tD (as ++ bs)).length := e
            rw [e', List.drop_zero, Nat.sub_zero]
            unfold tD
            rw [List.map_take]
            rw [List.length_map]
            by_cases h8 : 8 ≤ (as ++ bs).length
            · rw [Nat.min_eq_left h8]
            · rw [Nat.min_eq_right (by omega), List.take_of_length_le (by rw [List.length_map]; omega), List.take_of_length_le (by rw [List.length_map]; omega)]]
          have cab : ∀ a ∈ (as ++ bs).take 8, Cols m a := fun a ha => by
            rcases List.mem_append.mp (List.mem_of_mem_take ha) with h | h
            · exact hc2 a h
            · exact hc3 a h
          have lab : 1 ≤ ((as ++ bs).take 8).length ∧ ((as ++ bs).take 8).length ≤ 8 := by
            rw [List.length_take, List.length_append]
            omega
          refine call_r rfl rfl rfl ⟨m, _, o, rfl, rfl, ho, by omega, by omega, cab, fun cs o' hlb hcb ho' => ⟨rfl, trivial, ?_⟩⟩
          decreasing_trivial
          refine ⟨⟨by omega, by omega⟩, ?_⟩
          rw [rng_rI]
          exact k m cs o' ⟨by omega, by omega, by omega, by omega, hcb⟩ (by omega) ho'
  · by_cases hj : j = 0
    · subst hj
      cases hp
      omega
    · rw [List.getElem?_eq_none (by rw [List.length_singleton]; omega)] at hp
      cases hp
def spAny : PSpec := fun vs obs Q => ∃ (mc : Int) (o : Ob), vs = [.ptr 0, .dat (.int mc)] ∧ obs = [o] ∧ Std o ∧ 3 ≤ mc ∧ mc ≤ 50 ∧
  ∀ (m : Nat) (as : List (List Int)) (o' : Ob), Qry m as → (m : Int) ≤ mc → Std o' → Q (.dat (qD m as)) [o']
theorem rd_any {vs : List Vl} {obs : List Ob} {Q : Vl → List Ob → Prop} (h : spAny vs obs Q) : vs.length = 2 ∧ obs.length = 1 ∧
    wFn [("_law_draw", spDraw), ("_law_tree_query", spTree), ("_law_ring_query", spRing), ("_law_clique_query", spClique), ("_law_nested_query", spNested), ("_law_query", spQuery)] b__law_any_query 3 0 vs obs Q := by
  obtain ⟨mc, o, rfl, rfl, hs, c0, c1, k⟩ := h
  refine ⟨rfl, rfl, wFn_of rfl ?_⟩
  unfold b__law_any_query
  decreasing_trivial
  refine draw_w rfl hs (by omega) (by omega) fun r o1 r0 r1 hs1 => ?_
  decreasing_trivial
  refine ite_i (fun _ => ?_) fun _ => ?_
  · refine call_r rfl rfl rfl ⟨_, _, _, rfl, rfl, hs1, by omega, by omega, by omega, by omega, fun m as o' hq hm ho' => ⟨rfl, trivial, ?_⟩⟩
    decreasing_trivial
    exact k m as o' hq hm ho'
  refine ⟨.inl (by rw [dep_int]; omega), ite_of (fun _ => ?_) fun _ => ?_⟩
  · refine draw_w rfl hs1 (by omega) (by omega) fun r2 o2 q0 q1 hs2 => ?_
    decreasing_trivial
    obtain ⟨t, ht⟩ := nat_of (z := if 3 + r2 < mc then 3 + r2 else mc) (by split <;> omega)
    have t2 : 2 ≤ t ∧ (t : Int) ≤ mc := by split at ht <;> omega
    rw [ht]
    refine call_r rfl rfl rfl ⟨t, _, _, rfl, rfl, hs2, by omega, by omega, fun m as o' hq hm hm2 ho' => ⟨rfl, trivial, ?_⟩⟩
    decreasing_trivial
    exact k m as o' hq (by have := hm2 (Int.le_refl _); omega) ho'
  refine ⟨.inl (by rw [dep_int]; omega), ite_of (fun _ => ?_) fun _ => ?_⟩
  · decreasing_trivial
    refine call_r rfl rfl rfl ⟨3, _, _, rfl, rfl, hs1, by omega, by omega, fun m as o' hq hm hm2 ho' => ⟨rfl, trivial, ?_⟩⟩
    decreasing_trivial
    exact k m as o' hq (by omega) ho'
  refine ⟨.inl (by rw [dep_int]; omega), ite_of (fun _ => ?_) fun _ => ?_⟩
  · refine call_r rfl rfl rfl ⟨_, _, rfl, rfl, hs1, by omega, by omega, fun m as o' hq hm ho' => ⟨rfl, trivial, ?_⟩⟩
    decreasing_trivial
    exact k m as o' hq hm ho'
  · refine draw_w rfl hs1 (by omega) (by omega) fun r2 o2 q0 q1 hs2 => ?_
    decreasing_trivial
    refine call_r rfl rfl rfl ⟨_, _, _, _, rfl, rfl, hs2, by omega, by omega, by omega, by omega, by omega, by omega, fun m as o' hq hm _ ho' => ⟨rfl, trivial, ?_⟩⟩
    decreasing_trivial
    exact k m as o' hq hm ho'
end Pl

namespace Pl
open PySem PySem.Spec PyProof.Rows L2

local macro_rules | `(tactic| decreasing_trivial) => `(tactic| try simp only [wSs, wS, wE, wEs, wEo, wCond, wSrc, wAnd, wOr, Bool.false_eq_true, if_false, Bool.not_true, Bool.not_false, asT, onView_dat, onD_dat, fz_dat, fz_ptr, fz_fr, settled_dat, settled_ptr,  List.getElem?_cons_zero, List.getElem?_cons_succ, List.set_cons_zero, List.set_cons_succ, List.length_cons, List.length_nil, Nat.reduceAdd, Option.some.injEq, exists_eq_left', true_and, and_true, if_true, decide_eq_true_eq, Int.reduceToNat, Int.reducePow, Int.reduceLE, Int.reduceLT, Int.reduceMul, Int.reduceAdd, Int.reduceSub, Int.reduceNeg, Nat.reduceLT, Nat.reduceLeDiff, Nat.reduceMul, Nat.reducePow, Int.reduceAbs, Nat.reduceSub, List.map, List.replicate, List.cons_append, List.nil_append, List.append_nil, regsOf, renum, List.nodup_nil, r_add, r_adds, r_addt, r_addl, r_sub, r_mul, r_mull, r_mult, r_fdiv, r_mod, r_pow, r_band, r_bor, r_bxor, r_shl, r_shr, r_lt, r_le, r_gt, r_ge, r_lts, r_eq, r_ne, r_isin, r_notin, r_isin_list, r_isin_tuple, r_notin_list, r_notin_tuple, r_isnone, r_notnone, r_ixl, r_ixt, r_ixs, r_sll, r_slt, r_sls, r_len, r_int, r_intb, r_abs, r_min2, r_max2, r_sum, r_min1, r_max1, r_all, r_any, r_list, r_listt, r_tup, r_tupt, r_rl1, r_rl2, r_rt1, r_rt2, r_sort, r_sortt, r_isi, r_lenl, r_lent, r_lens, r_augi, r_augs, r_bitl, r_split, r_wtg, r_wtgm, r_at0, r_at1, r_at2, r_at3, r_at4, r_at5, r_ix1_0, r_ix2_0, r_ix2_1, r_ix3_0, r_ix3_1, r_ix3_2, r_ix4_0, r_ix4_1, r_ix4_2, r_ix4_3, r_ix5_0, r_ix5_1, r_ix5_2, r_ix5_3, r_ix5_4, r_v0, r_lenp0, r_typ0, r_app0, r_pop0, r_popAt0, r_ext0, r_outs0, r_v1, r_lenp1, r_typ1, r_app1, r_pop1, r_popAt1, r_ext1, r_outs1, r_v2, r_lenp2, r_typ2, r_app2, r_pop2, r_popAt2, r_ext2, r_outs2, r_v3, r_lenp3, r_typ3, r_app3, r_pop3, r_popAt3, r_ext3, r_outs3, r_tyd, r_mapp, r_mpop, r_mpopAt, r_mext, r_midxl, r_midxt, r_mspl, r_mbit, r_npd, r_npf, r_ty_int, r_ty_str, r_ty_list, r_ty_tuple, r_ty_bool, r_ixli, r_ixti, r_asgd, r_asgp, r_asgf, r_asgn, r_clr0, r_clr1, r_clr2, r_clr3, r_sto0, r_ag0, r_sto1, r_ag1, r_sto2, r_ag2, r_sto3, r_ag3, r_c0, r_c1, r_c2, r_c3, r_c4, r_c5, r_c6, r_c7, r_c8, r_c9, r_c10, r_c11, r_put1, r_put0, r_ptuple0, r_plist0, r_psum0, r_pmin10, r_pmax10, r_pall0, r_pany0, r_psorted0, r_ptuple1, r_plist1, r_psum1, r_pmin11, r_pmax11, r_pall1, r_pany1, r_psorted1, r_ptuple2, r_plist2, r_psum2, r_pmin12, r_pmax12, r_pall2, r_pany2, r_psorted2, r_ptuple3, r_plist3, r_psum3, r_pmin13, r_pmax13, r_pall3, r_pany3, r_psorted3, r_stab, r_wipe0, r_wipe1, stepLc, r_putc, frz1, reduceCtorEq, Nat.reduceEqDiff, reduceIte, r_clrD, r_frzD, setMany, r_sumt, r_min1t, r_max1t, r_ex0, r_exc, r_sz0, r_sz1, r_sz2, r_sz3, r_sz4, r_sz5, r_sz6, r_sz7, r_sz8, r_sz9, r_sz10, r_sz11, r_sz12, r_sz13, r_sz14, r_sz15, r_sz16, r_sz17, r_sz18, r_sz19, r_sz20])
/-! ### terms -/
structure Tm where
  k : Int
  kn : List Int
  nw : List Int
def tmD (t : Tm) : D := .tuple [.int t.k, .tuple (iD t.kn), .tuple (iD t.nw)]
def nws (kn nw : List Int) : List Int := nw.filter fun c => decide (c ∉ kn)
theorem cut_take {α : Type} (xs : List α) (n : Nat) : cutL xs none (some (n : Int)) = xs.take n := by
  unfold cutL
  rw [HT.sIx_none, HT.sIx_nat, List.drop_zero, Nat.sub_zero]
  by_cases h : n ≤ xs.length
  · rw [Nat.min_eq_left h]
  · rw [Nat.min_eq_right (by omega), List.take_of_length_le (Nat.le_refl _), List.take_of_length_le (by omega)]
theorem cut_drop {α : Type} (xs : List α) (n : Nat) : cutL xs (some (n : Int)) none = xs.drop n := by
  unfold cutL
  rw [HT.sIx_none, HT.sIx_nat]
  by_cases h : n ≤ xs.length
  · rw [Nat.min_eq_left h, List.take_of_length_le (by rw [List.length_drop]; omega)]
  · rw [Nat.min_eq_right (by omega), List.drop_of_length_le (Nat.le_refl _), List.drop_of_length_le (by omega), List.take_nil]
theorem cut_mid {α : Type} (xs : List α) (a b : Nat) (ha : a ≤ xs.length) (hb : b ≤ xs.length) : cutL xs (some (a : Int)) (some (b : Int)) = (xs.drop a).take (b - a) := by
  unfold cutL
  rw [HT.sIx_nat, HT.sIx_nat, Nat.min_eq_left ha, Nat.min_eq_left hb]
def spNews : PSpec := fun vs obs Q => ∃ (a : D) (kn nw : List Int) (r : List D), vs = [.dat (.tuple (a :: .tuple (iD kn) :: .tuple (iD nw) :: r))] ∧ obs = [] ∧ Q (.fr (.lst (iD (nws kn nw)))) []
theorem fm_news (kn nw : List Int) : (iD nw).filterMap (fun d => match d with
      | .int c => if c ∉ kn then some (PyData.int c) else none
      | _ => none) = iD (nws kn nw) := fm_filter (fun c => decide (c ∉ kn)) (fun c => by dsimp only; simp only [decide_eq_true_eq]) nw
theorem rd_news {vs : List Vl} {obs : List Ob} {Q : Vl → List Ob → Prop} (h : spNews vs obs Q) : vs.length = 1 ∧ obs.length = 0 ∧ wFn [] b__law_news 2 0 vs obs Q := by
  obtain ⟨a, kn, nw, r, rfl, rfl, k⟩ := h
  refine ⟨rfl, rfl, wFn_of rfl ?_⟩
  unfold b__law_news
  decreasing_trivial
  refine lc_pure (fun d => match d with
      | .int c => if c ∉ kn then some (PyData.int c) else none
      | _ => none) trivial _ (fun d hd K hK => ?_) ?_
  · obtain ⟨c, hc, rfl⟩ := List.mem_map.mp hd
    unfold c__law_news_1 e__law_news_1
    decreasing_trivial
    refine ⟨.inr (by rw [dep_int]; omega), ?_⟩
    rw [eqv_mem]
    dsimp only at hK
    by_cases e : c ∈ kn
    · rw [decide_eq_true e, if_neg (by decide)]
      rw [if_neg (by simpa using e)] at hK
      exact hK
    · rw [decide_eq_false e, if_pos (by decide)]
      rw [if_pos (by simpa using e)] at hK
      exact hK
  · rw [fm_news]
    decreasing_trivial
    exact k
def spNewC : PSpec := fun vs obs Q => ∃ (a : D) (kn nw : List Int) (r : List D), vs = [.dat (.tuple (a :: .tuple (iD kn) :: .tuple (iD nw) :: r))] ∧ obs = [] ∧ Q (.dat (.tuple (iD (nws kn nw)))) []
theorem rd_newc {vs : List Vl} {obs : List Ob} {Q : Vl → List Ob → Prop} (h : spNewC vs obs Q) : vs.length = 1 ∧ obs.length = 0 ∧ wFn [] b_new_columns 2 0 vs obs Q := by
  obtain ⟨a, kn, nw, r, rfl, rfl, k⟩ := h
  refine ⟨rfl, rfl, wFn_of rfl ?_⟩
  unfold b_new_columns
  decreasing_trivial
  refine lc_pure (fun d => match d with
      | .int c => if c ∉ kn then some (PyData.int c) else none
      | _ => none) trivial _ (fun d hd K hK => ?_) ?_
  · obtain ⟨c, hc, rfl⟩ := List.mem_map.mp hd
    unfold c_new_columns_1 e_new_columns_1
    decreasing_trivial
    refine ⟨.inr (by rw [dep_int]; omega), ?_⟩
    rw [eqv_mem]
    dsimp only at hK
    by_cases e : c ∈ kn
    · rw [decide_eq_true e, if_neg (by decide)]
      rw [if_neg (by simpa using e)] at hK
      exact hK
    · rw [decide_eq_false e, if_pos (by decide)]
      rw [if_pos (by simpa using e)] at hK
      exact hK
  · rw [fm_news]
    decreasing_trivial
    exact k
def plainT (as : List (List Int)) : List Tm := as.zipIdx.map fun p => ⟨p.2, [], p.1⟩
theorem plain_mem {as : List (List Int)} {t : Tm} (h : t ∈ plainT as) : t.kn = [] ∧ t.nw ∈ as := by
  unfold plainT at h
  obtain ⟨p, hp, rfl⟩ := List.mem_map.mp h
  exact ⟨rfl, (List.mem_zipIdx' hp).2 ▸ List.getElem_mem _⟩
theorem plain_len (as : List (List Int)) : (plainT as).length = as.length := by unfold plainT; rw [List.length_map, List.length_zipIdx]
theorem range_zip {α : Type} (xs : List α) : ∀ (k : Nat) (f : Nat → Option D) (e : α → Nat → D), (∀ i x, xs[i]? = some x → f (k + i) = some (e x (k + i))) → (List.range' k xs.length).filterMap f = (xs.zipIdx k).map fun p => e p.1 p.2 := by
  induction xs with
  | nil => intro k f e h; rfl
  | cons x xs ih =>
    intro k f e h
    rw [List.length_cons, List.range'_succ, List.filterMap_cons, show f k = some (e x k) from h 0 x rfl, List.zipIdx_cons, List.map_cons]
    dsimp only
    rw [ih (k + 1) f e fun i y hy => by rw [show k + 1 + i = k + (i + 1) by omega]; exact h (i + 1) y hy]
/-- a comprehension over the places of a list -/
theorem fm_range {α : Type} (xs : List α) {f : D → Option D} (e : α → Nat → D) (h : ∀ i x, xs[i]? = some x → f (.int (i : Nat)) = some (e x i)) : (rangeD 0 xs.length).filterMap f = xs.zipIdx.map fun p => e p.1 p.2 := by
  rw [rng_zero, List.filterMap_map, List.range_eq_range']
  refine range_zip xs 0 _ e fun i x hx => ?_
  rw [Nat.zero_add]
  exact h i x hx
def spPlain : PSpec := fun vs obs Q => ∃ (m : Nat) (as : List (List Int)), vs = [.dat (qD m as)] ∧ obs = [] ∧ as.length ≤ 1000 ∧ Q (.dat (.tuple ((plainT as).map tmD))) []
theorem tD_get {as : List (List Int)} {i : Nat} {a : List Int} (h : as[i]? = some a) : (tD as)[i]? = some (.tuple (iD a)) := by unfold tD; rw [List.getElem?_map, h]; rfl
theorem rd_plain {vs : List Vl} {obs : List Ob} {Q : Vl → List Ob → Prop} (h : spPlain vs obs Q) : vs.length = 1 ∧ obs.length = 0 ∧ wFn [] b__law_plain_terms 2 0 vs obs Q := by
  obtain ⟨m, as, rfl, rfl, hl, k⟩ := h
  refine ⟨rfl, rfl, wFn_of rfl ?_⟩
  unfold b__law_plain_terms qD
  decreasing_trivial
  refine ⟨by rw [len_tD]; unfold sizeLine; omega, by omega, ?_⟩
  rw [Int.toNat_natCast, len_tD]
  refine lc_pure (fun d => match d with
      | .int i => some (tmD ⟨i, [], as.getD i.toNat []⟩)
      | _ => none) trivial _ (fun d hd K hK => ?_) ?_
  · obtain ⟨j, hj, rfl⟩ := rng_mem hd
    rw [Int.zero_add] at hK ⊢
    unfold e__law_plain_terms_1
    decreasing_trivial
    refine ⟨_, atI_nat (tD_get (List.getElem?_eq_getElem hj)), ?_⟩
    decreasing_trivial
    dsimp only at hK
    rw [Int.toNat_natCast, List.getD_eq_getElem?_getD, List.getElem?_eq_getElem hj] at hK
    exact hK
  · rw [fm_range as (fun a i => tmD ⟨(i : Nat), [], a⟩) fun i x hx => by dsimp only; rw [Int.toNat_natCast, List.getD_eq_getElem?_getD, hx]; rfl]
    decreasing_trivial
    unfold plainT at k
    rw [List.map_map] at k
    exact k
def spTermBy : PSpec := fun vs obs Q => ∃ (m : Nat) (as : List (List Int)) (od : List Int) (o : Ob), vs = [.ptr 0, .dat (qD m as), .dat (.list (iD od))] ∧ obs = [o] ∧ Std o ∧ Qry m as ∧ od.Perm (rI m) ∧
  (∀ o', Std o' → Q (.dat .none) [o']) ∧ ∀ (t : Tm) (o' : Ob), Cols m t.nw → Std o' → Q (.dat (tmD t)) [o']
theorem rd_termby {vs : List Vl} {obs : List Ob} {Q : Vl → List Ob → Prop} (h : spTermBy vs obs Q) : vs.length = 3 ∧ obs.length = 1 ∧ wFn [("_law_pick", spPick), ("_law_draw", spDraw)] b__law_term_by 10 0 vs obs Q := by
  obtain ⟨m, as, od, o, rfl, rfl, hs, hq, po, k0, k⟩ := h
  refine ⟨rfl, rfl, wFn_of rfl ?_⟩
  unfold b__law_term_by qD
  decreasing_trivial
  refine ⟨by rw [len_tD]; have := hq.fewa; unfold sizeLine; omega, by omega, ?_⟩
  rw [Int.toNat_natCast, len_tD]
  refine lc_inv (fun η => η = [some o]) (fun d e => e = none ∨ ∃ j : Nat, e = some (.int (j : Nat)) ∧ ∃ a, as[j]? = some a ∧ 1 < a.length) (fun _ _ => trivial) _ rfl ?_ ?_
  · rintro d hd η K rfl kk
    obtain ⟨j, hj, rfl⟩ := rng_mem hd
    rw [Int.zero_add]
    unfold c__law_term_by_1 e__law_term_by_1
    decreasing_trivial
    refine ⟨_, atI_nat (tD_get (List.getElem?_eq_getElem hj)), ?_⟩
    decreasing_trivial
    rw [len_iD]
    refine ite_i (fun hl => kk _ _ rfl (.inr ⟨j, rfl, _, List.getElem?_eq_getElem hj, by omega⟩)) fun _ => kk _ _ rfl (.inl rfl)
  rintro es η rfl hO
  obtain ⟨js, rfl, hl, hj⟩ := outs_opt (g := fun j : Nat => PyData.int (j : Nat)) (P := fun j => ∃ a, as[j]? = some a ∧ 1 < a.length) (fun d o h => h) hO
  rw [rng_size] at hl
  have fa := hq.fewa
  decreasing_trivial
  refine ⟨.inl (by rw [dep_int]; omega), ite_of (fun _ => k0 o hs) fun he => ?_⟩
  rw [eqv_int, List.length_map] at he
  have he := of_decide_eq_false he
  refine call_r rfl rfl rfl ⟨_, o, hs, by rw [List.length_map]; omega, by rw [List.length_map]; omega, .inl ⟨rfl, rfl, fun d o1 hd ho1 => ⟨rfl, trivial, ?_⟩⟩⟩
  obtain ⟨j, hjs, rfl⟩ := List.mem_map.mp hd
  obtain ⟨a, ha, la⟩ := hj j hjs
  have ca : Cols m a := hq.cols a (List.mem_of_getElem? ha)
  decreasing_trivial
  refine lc_pure (fun d => match d with
      | .int c => if c ∈ a then some (PyData.int c) else none
      | _ => none) trivial _ (fun d hd K hK => ?_) ?_
  · obtain ⟨c, hc, rfl⟩ := List.mem_map.mp hd
    unfold c__law_term_by_2 e__law_term_by_2
    decreasing_trivial
    refine ⟨_, atI_nat (tD_get ha), ?_⟩
    decreasing_trivial
    refine ⟨.inr (by rw [dep_int]; omega), ?_⟩
    rw [eqv_mem]
    dsimp only at hK
    by_cases e : c ∈ a
    · rw [decide_eq_true e, if_pos rfl]
      rw [if_pos e] at hK
      exact hK
    · rw [decide_eq_false e, if_neg (by decide)]
      rw [if_neg e] at hK
      exact hK
  rw [fm_filter (fun c => decide (c ∈ a)) (fun c => by dsimp only; simp only [decide_eq_true_eq])]
  have ll := line_len ca po
  have lc := ca.len
  have mf := hq.few
  have cl : Cols m (od.filter fun c => decide (c ∈ a)) := ((cols_rI m).perm po).sub List.filter_sublist
  revert ll cl
  generalize (od.filter fun c => decide (c ∈ a)) = line
  intro ll cl
  decreasing_trivial
  rw [len_iD]
  refine draw_w rfl ho1 (by omega) (by omega) fun r o2 r0 r1 ho2 => ?_
  decreasing_trivial
  obtain ⟨cut, hcut⟩ := nat_of (z := 1 + r) (by omega)
  rw [hcut, cut_take, ← List.map_take]
  refine draw_w rfl ho2 (by omega) (by omega) fun r3 o3 q0 q1 ho3 => ?_
  have last : ∀ (P : LEnds) (kn : List Int), kn.Sublist (line.take cut) → (∀ (t : Tm) (o' : Ob), Cols m t.nw → Std o' → P.rt (.dat (tmD t)) [some o']) →
      wSs [("_law_pick", spPick), ("_law_draw", spDraw)] r__law_term_by_1 P [some (.ptr 0), some (.dat (qD m as)), some (.dat (.list (iD od))), some (.dat (.list (js.map fun j : Nat => PyData.int (j : Nat)))), some (.dat (.int (j : Nat))), some (.dat (.list (iD line))), some (.dat (.int (cut : Nat))), some (.dat (.list (iD kn))), none, none] [some o3] := by
    intro P kn hk hP
    unfold r__law_term_by_1
    decreasing_trivial
    rw [len_iD]
    refine draw_w rfl ho3 (by omega) (by omega) fun r4 o4 s0 s1 ho4 => ?_
    decreasing_trivial
    obtain ⟨en, hen⟩ := nat_of (z := ((cut : Nat) : Int) + 1 + r4) (by omega)
    obtain ⟨sc, ms, e, pm⟩ := srt kn
    refine ⟨sc, ?_⟩
    rw [e, hen, cut_ints, cut_mid line cut en (by omega) (by omega)]
    have sub : (kn ++ (line.drop cut).take (en - cut)).Sublist line := by
      have := hk.append (List.take_sublist (en - cut) (line.drop cut))
      rwa [List.take_append_drop] at this
    have hl2 := sub.length_le
    rw [List.length_append] at hl2
    refine ⟨by rw [len_iD, len_iD]; unfold sizeLine; omega, ?_⟩
    rw [show iD kn ++ iD ((line.drop cut).take (en - cut)) = iD (kn ++ (line.drop cut).take (en - cut)) from (List.map_append ..).symm]
    obtain ⟨sc2, ms2, e2, pm2⟩ := srt (kn ++ (line.drop cut).take (en - cut))
    refine ⟨sc2, ?_⟩
    rw [e2]
    exact hP ⟨j, ms, ms2⟩ o4 ((cl.sub sub).perm pm2) ho4
  decreasing_trivial
  refine ⟨.inl (by rw [dep_int]; omega), ite_of (fun _ => ?_) fun _ => ?_⟩
  · decreasing_trivial
    rw [show (1 : Int) = ((1 : Nat) : Int) from rfl, cut_drop, ← List.map_drop]
    refine last _ _ (List.drop_sublist _ _) ?_
    intro t o' ct ho'
    exact ⟨trivial, k t o' ct ho'⟩
  · refine last _ _ (List.Sublist.refl _) ?_
    intro t o' ct ho'
    exact ⟨trivial, k t o' ct ho'⟩
end Pl

namespace Pl
open PySem PySem.Spec PyProof.Rows L2

local macro_rules | `(tactic| decreasing_trivial) => `(tactic| try simp only [wSs, wS, wE, wEs, wEo, wCond, wSrc, wAnd, wOr, Bool.false_eq_true, if_false, Bool.not_true, Bool.not_false, asT, onView_dat, onD_dat, fz_dat, fz_ptr, fz_fr, settled_dat, settled_ptr,  List.getElem?_cons_zero, List.getElem?_cons_succ, List.set_cons_zero, List.set_cons_succ, List.length_cons, List.length_nil, Nat.reduceAdd, Option.some.injEq, exists_eq_left', true_and, and_true, if_true, decide_eq_true_eq, Int.reduceToNat, Int.reducePow, Int.reduceLE, Int.reduceLT, Int.reduceMul, Int.reduceAdd, Int.reduceSub, Int.reduceNeg, Nat.reduceLT, Nat.reduceLeDiff, Nat.reduceMul, Nat.reducePow, Int.reduceAbs, Nat.reduceSub, List.map, List.replicate, List.cons_append, List.nil_append, List.append_nil, regsOf, renum, List.nodup_nil, r_add, r_adds, r_addt, r_addl, r_sub, r_mul, r_mull, r_mult, r_fdiv, r_mod, r_pow, r_band, r_bor, r_bxor, r_shl, r_shr, r_lt, r_le, r_gt, r_ge, r_lts, r_eq, r_ne, r_isin, r_notin, r_isin_list, r_isin_tuple, r_notin_list, r_notin_tuple, r_isnone, r_notnone, r_ixl, r_ixt, r_ixs, r_sll, r_slt, r_sls, r_len, r_int, r_intb, r_abs, r_min2, r_max2, r_sum, r_min1, r_max1, r_all, r_any, r_list, r_listt, r_tup, r_tupt, r_rl1, r_rl2, r_rt1, r_rt2, r_sort, r_sortt, r_isi, r_lenl, r_lent, r_lens, r_augi, r_augs, r_bitl, r_split, r_wtg, r_wtgm, r_at0, r_at1, r_at2, r_at3, r_at4, r_at5, r_ix1_0, r_ix2_0, r_ix2_1, r_ix3_0, r_ix3_1, r_ix3_2, r_ix4_0, r_ix4_1, r_ix4_2, r_ix4_3, r_ix5_0, r_ix5_1, r_ix5_2, r_ix5_3, r_ix5_4, r_v0, r_lenp0, r_typ0, r_app0, r_pop0, r_popAt0, r_ext0, r_outs0, r_v1, r_lenp1, r_typ1, r_app1, r_pop1, r_popAt1, r_ext1, r_outs1, r_v2, r_lenp2, r_typ2, r_app2, r_pop2, r_popAt2, r_ext2, r_outs2, r_v3, r_lenp3, r_typ3, r_app3, r_pop3, r_popAt3, r_ext3, r_outs3, r_tyd, r_mapp, r_mpop, r_mpopAt, r_mext, r_midxl, r_midxt, r_mspl, r_mbit, r_npd, r_npf, r_ty_int, r_ty_str, r_ty_list, r_ty_tuple, r_ty_bool, r_ixli, r_ixti, r_asgd, r_asgp, r_asgf, r_asgn, r_clr0, r_clr1, r_clr2, r_clr3, r_sto0, r_ag0, r_sto1, r_ag1, r_sto2, r_ag2, r_sto3, r_ag3, r_c0, r_c1, r_c2, r_c3, r_c4, r_c5, r_c6, r_c7, r_c8, r_c9, r_c10, r_c11, r_put1, r_put0, r_ptuple0, r_plist0, r_psum0, r_pmin10, r_pmax10, r_pall0, r_pany0, r_psorted0, r_ptuple1, r_plist1, r_psum1, r_pmin11, r_pmax11, r_pall1, r_pany1, r_psorted1, r_ptuple2, r_plist2, r_psum2, r_pmin12, r_pmax12, r_pall2, r_pany2, r_psorted2, r_ptuple3, r_plist3, r_psum3, r_pmin13, r_pmax13, r_pall3, r_pany3, r_psorted3, r_stab, r_wipe0, r_wipe1, stepLc, r_putc, frz1, reduceCtorEq, Nat.reduceEqDiff, reduceIte, r_clrD, r_frzD, setMany, r_sumt, r_min1t, r_max1t, r_ex0, r_exc, r_sz0, r_sz1, r_sz2, r_sz3, r_sz4, r_sz5, r_sz6, r_sz7, r_sz8, r_sz9, r_sz10, r_sz11, r_sz12, r_sz13, r_sz14, r_sz15, r_sz16, r_sz17, r_sz18, r_sz19, r_sz20])
/-! ### numbers, ratios -/
theorem divOk_of {i j : Int} (h : i.natAbs < 2 ^ 4000) : DivOk i j := by
  refine .inr ?_
  unfold Builtin.divisionGoesByPylong
  dsimp only
  have hx : (if (i == 0) = true then 0 else i.natAbs.log2 / 30 + 1) ≤ 134 := by
    split
    · omega
    · have : i.natAbs.log2 < 4000 := (Nat.log2_lt (by rename_i h; intro z; exact h (by simp; omega))).mpr h
      omega
  simp only [Bool.and_eq_false_iff, decide_eq_false_iff_not]
  right
  omega
def spIsInt : PSpec := fun vs obs Q => ∃ i : Int, vs = [.dat (.int i)] ∧ obs = [] ∧ Q (.dat (.bool true)) []
theorem kit_int : kitB "int" "int" = some true := by decide +kernel
theorem kit_intb : kitB "int" "bool" = some false := by decide +kernel
theorem kit_bb : kitB "bool" "bool" = some true := by decide +kernel
theorem kit_tt : kitB "tuple" "tuple" = some true := by decide +kernel
theorem rd_isint {vs : List Vl} {obs : List Ob} {Q : Vl → List Ob → Prop} (h : spIsInt vs obs Q) : vs.length = 1 ∧ obs.length = 0 ∧ wFn [] b__law_is_int 1 0 vs obs Q := by
  obtain ⟨i, rfl, rfl, k⟩ := h
  refine ⟨rfl, rfl, wFn_of rfl ?_⟩
  unfold b__law_is_int
  decreasing_trivial
  refine ⟨"int", true, rfl, kit_int, ?_⟩
  decreasing_trivial
  refine ⟨"int", false, rfl, kit_intb, ?_⟩
  decreasing_trivial
  exact k
def spAreInts : PSpec := fun vs obs Q => ∃ ns : List Int, vs = [.dat (.tuple (iD ns))] ∧ obs = [] ∧ Q (.dat (.bool true)) []
theorem rd_areints {vs : List Vl} {obs : List Ob} {Q : Vl → List Ob → Prop} (h : spAreInts vs obs Q) : vs.length = 1 ∧ obs.length = 0 ∧ wFn [("_law_is_int", spIsInt)] b__law_are_ints 2 0 vs obs Q := by
  obtain ⟨ns, rfl, rfl, k⟩ := h
  refine ⟨rfl, rfl, wFn_of rfl ?_⟩
  unfold b__law_are_ints
  decreasing_trivial
  refine ⟨"tuple", true, rfl, kit_tt, ?_⟩
  decreasing_trivial
  refine lc_pure (fun _ => some (.bool true)) trivial _ (fun d hd K hK => ?_) ?_
  · obtain ⟨c, hc, rfl⟩ := List.mem_map.mp hd
    unfold e__law_are_ints_1
    decreasing_trivial
    refine call_0 rfl rfl ⟨c, rfl, rfl, rfl, trivial, ?_⟩
    exact hK
  · rw [fm_iD (e := fun _ => PyData.bool true) (fun _ => rfl)]
    refine ⟨ns.map fun _ => true, by rw [List.map_map]; rfl, ?_⟩
    rw [show (ns.map fun _ => true).all id = true by rw [List.all_map, List.all_eq_true]; exact fun _ _ => rfl]
    exact k
def spLGcd : PSpec := fun vs obs Q => ∃ a b : Nat, vs = [.dat (.int (a : Nat)), .dat (.int (b : Nat))] ∧ obs = [] ∧ Q (.dat (.int (Nat.gcd a b : Nat))) []
theorem rd_lgcd {vs : List Vl} {obs : List Ob} {Q : Vl → List Ob → Prop} (h : spLGcd vs obs Q) : vs.length = 2 ∧ obs.length = 0 ∧ wFn [] b__law_gcd 5 0 vs obs Q := by
  obtain ⟨a, b, rfl, rfl, k⟩ := h
  refine ⟨rfl, rfl, wFn_of rfl ?_⟩
  unfold b__law_gcd
  decreasing_trivial
  refine ⟨fun n ρ η => ∃ (x : Nat) (x4 : Option Vl), ρ = [some (.dat (.int (a : Nat))), some (.dat (.int (b : Nat))), some (.dat (.int (x : Nat))), some (.dat (.int (n : Nat))), x4] ∧ η = [] ∧ Nat.gcd x n = Nat.gcd a b, ⟨b, a, none, rfl, rfl, rfl⟩, ?_⟩
  rintro n ρ η ⟨x, x4, rfl, rfl, hg⟩
  unfold t__law_gcd_1
  decreasing_trivial
  refine ite_i (fun hn => ?_) fun hn => ?_
  · unfold l__law_gcd_1
    decreasing_trivial
    have hn' : 0 < n := by omega
    refine ⟨hn, x % n, Nat.mod_lt _ hn', n, some (.dat (.int ((x % n : Nat) : Int))), ?_, ?_⟩
    · rw [Int.natCast_emod]
    · rw [← hg, Nat.gcd_comm n, ← Nat.gcd_rec, Nat.gcd_comm]
  · have : n = 0 := by omega
    subst this
    rw [Nat.gcd_zero_right] at hg
    rw [hg]
    exact k
/-- in lowest terms -/
def Low (p q : Int) : Prop := 1 ≤ q ∧ Nat.gcd p.natAbs q.natAbs = 1
def spIsRatio : PSpec := fun vs obs Q => ∃ p q : Int, vs = [.dat (.tuple [.int p, .int q])] ∧ obs = [] ∧ Low p q ∧ Q (.dat (.bool true)) []
theorem abs_nat (p : Int) : (if p < 0 then -p else p) = ((p.natAbs : Nat) : Int) := by split <;> omega
theorem rd_isratio {vs : List Vl} {obs : List Ob} {Q : Vl → List Ob → Prop} (h : spIsRatio vs obs Q) : vs.length = 1 ∧ obs.length = 0 ∧ wFn [("_law_are_ints", spAreInts), ("_law_gcd", spLGcd)] b__law_is_ratio 1 0 vs obs Q := by
  obtain ⟨p, q, rfl, rfl, ⟨h1, h2⟩, k⟩ := h
  refine ⟨rfl, rfl, wFn_of rfl ?_⟩
  unfold b__law_is_ratio
  decreasing_trivial
  refine call_0 rfl rfl ⟨[p, q], rfl, rfl, rfl, trivial, ?_⟩
  decreasing_trivial
  refine ⟨.inl (by rw [dep_int]; omega), ite_of (fun h => ?_) fun _ => ?_⟩
  · rw [eqv_int] at h
    simp at h
  refine ite_i (fun h => absurd h (by omega)) fun _ => ?_
  rw [abs_nat, show q = ((q.natAbs : Nat) : Int) by omega]
  refine call_0 rfl rfl ⟨p.natAbs, q.natAbs, rfl, rfl, rfl, trivial, ?_⟩
  decreasing_trivial
  refine ⟨.inl (by rw [dep_int]; omega), ?_⟩
  rw [h2, eqv_int, decide_eq_true (by rfl)]
  exact k
def spRatio : PSpec := fun vs obs Q => ∃ p q : Int, vs = [.dat (.int p), .dat (.int q)] ∧ obs = [] ∧ q ≠ 0 ∧ p.natAbs < 2 ^ 4000 ∧ q.natAbs < 2 ^ 4000 ∧
  ∀ a b : Int, Low a b → a * q = p * b → a.natAbs ≤ p.natAbs → b.natAbs ≤ q.natAbs → Q (.dat (.tuple [.int a, .int b])) []
theorem rd_ratio {vs : List Vl} {obs : List Ob} {Q : Vl → List Ob → Prop} (h : spRatio vs obs Q) : vs.length = 2 ∧ obs.length = 0 ∧ wFn [("gcd", spGcd)] b_ratio 3 0 vs obs Q := by
  obtain ⟨p, q, rfl, rfl, hq, hp1, hq1, k⟩ := h
  refine ⟨rfl, rfl, wFn_of rfl ?_⟩
  have go : ∀ (u v : Int), 0 < v → u * q = p * v → u.natAbs = p.natAbs → v.natAbs = q.natAbs → wSs [("gcd", spGcd)] r_ratio_1 ⟨fun _ η => (match outs 0 η with
      | some os => Q (.dat .none) os
      | none => False),
    fun v η => (match outs 0 η with
      | some os => v.noPtr ∧ Q v os
      | none => False), fun _ _ => False, fun _ _ => False⟩ [some (.dat (.int u)), some (.dat (.int v)), none] [] := by
    intro u v hv he hu hv2
    unfold r_ratio_1
    decreasing_trivial
    refine gcd_w ?_
    decreasing_trivial
    have g0 : 0 < Nat.gcd u.natAbs v.natAbs := Nat.gcd_pos_of_pos_right _ (by omega)
    have du : ((Nat.gcd u.natAbs v.natAbs : Nat) : Int) ∣ u := Int.ofNat_dvd_left.mpr (Nat.gcd_dvd_left _ _)
    have dv : ((Nat.gcd u.natAbs v.natAbs : Nat) : Int) ∣ v := Int.ofNat_dvd_left.mpr (Nat.gcd_dvd_right _ _)
    refine ⟨⟨by omega, divOk_of (by omega)⟩, ⟨by omega, divOk_of (by omega)⟩, k _ _ ?_ ?_ ?_ ?_⟩
    · constructor
      · have := Int.ediv_mul_cancel dv
        by_cases h : v / ((Nat.gcd u.natAbs v.natAbs : Nat) : Int) ≤ 0
        · have := Int.mul_le_mul_of_nonneg_right h (show (0 : Int) ≤ ((Nat.gcd u.natAbs v.natAbs : Nat) : Int) by omega)
          omega
        · omega
      · rw [Int.natAbs_ediv_of_dvd du, Int.natAbs_ediv_of_dvd dv, Int.natAbs_natCast]
        exact Nat.coprime_div_gcd_div_gcd g0
    · have e1 := Int.ediv_mul_cancel du
      have e2 := Int.ediv_mul_cancel dv
      have ne : ((Nat.gcd u.natAbs v.natAbs : Nat) : Int) ≠ 0 := by omega
      refine Int.eq_of_mul_eq_mul_right ne ?_
      calc u / ((Nat.gcd u.natAbs v.natAbs : Nat) : Int) * q * ((Nat.gcd u.natAbs v.natAbs : Nat) : Int) = (u / ((Nat.gcd u.natAbs v.natAbs : Nat) : Int) * ((Nat.gcd u.natAbs v.natAbs : Nat) : Int)) * q := by ac_rfl
        _ = u * q := by rw [e1]
        _ = p * v := he
        _ = p * (v / ((Nat.gcd u.natAbs v.natAbs : Nat) : Int) * ((Nat.gcd u.natAbs v.natAbs : Nat) : Int)) := by rw [e2]
        _ = _ := by ac_rfl
    · rw [Int.natAbs_ediv_of_dvd du, Int.natAbs_natCast, ← hu]
      exact Nat.div_le_self _ _
    · rw [Int.natAbs_ediv_of_dvd dv, Int.natAbs_natCast, ← hv2]
      exact Nat.div_le_self _ _
  unfold b_ratio
  decreasing_trivial
  refine ite_i (fun h => ?_) fun h => ?_
  · exact go (-p) (-q) (by omega) (by rw [Int.neg_mul, Int.mul_neg]) (by omega) (by omega)
  · exact go p q (by omega) rfl rfl rfl
def spWorth : PSpec := fun vs obs Q => ∃ a b p q : Int, vs = [.dat (.tuple [.int a, .int b]), .dat (.int p), .dat (.int q)] ∧ obs = [] ∧ Low a b ∧ a * q = p * b ∧ MulOk a q ∧ MulOk p b ∧ Q (.dat (.bool true)) []
theorem rd_worth {vs : List Vl} {obs : List Ob} {Q : Vl → List Ob → Prop} (h : spWorth vs obs Q) : vs.length = 3 ∧ obs.length = 0 ∧ wFn [("_law_is_ratio", spIsRatio)] b__law_is_worth 3 0 vs obs Q := by
  obtain ⟨a, b, p, q, rfl, rfl, hl, he, m1, m2, k⟩ := h
  refine ⟨rfl, rfl, wFn_of rfl ?_⟩
  unfold b__law_is_worth
  decreasing_trivial
  refine call_0 rfl rfl ⟨a, b, rfl, rfl, hl, rfl, trivial, ?_⟩
  decreasing_trivial
  refine ⟨m1, m2, .inl (by rw [dep_int]; omega), ?_⟩
  rw [eqv_int, decide_eq_true he]
  exact k
theorem cut_len {α : Type} (xs : List α) (lo hi : Option Int) : (cutL xs lo hi).length ≤ xs.length := by
  unfold cutL
  rw [List.length_take, List.length_drop]
  omega
def inB (p : Int) (ns : List Int) (many : Nat) (most : Int) : Bool := decide (1 ≤ p) && decide (p ≤ 60) && decide (ns.length = many) && ns.all fun n => decide (0 ≤ n) && decide (n ≤ most)
def spInB : PSpec := fun vs obs Q => ∃ (p : Int) (ns : List Int) (many : Nat) (most : Int), vs = [.dat (.tuple [.int p, .tuple (iD ns)]), .dat (.int (many : Nat)), .dat (.int most)] ∧ obs = [] ∧ Q (.dat (.bool (inB p ns many most))) []
theorem all_ranges (ns : List Int) (most : Int) (f : D → Option D) (hf : ∀ n, f (.int n) = some (.bool (decide (0 ≤ n) && decide (n ≤ most)))) : ∃ bs : List Bool, (iD ns).filterMap f = bs.map PyData.bool ∧ bs.all id = ns.all fun n => decide (0 ≤ n) && decide (n ≤ most) :=
  ⟨ns.map fun n => decide (0 ≤ n) && decide (n ≤ most), by rw [fm_iD (e := fun n => PyData.bool (decide (0 ≤ n) && decide (n ≤ most))) hf, List.map_map]; rfl, by rw [List.all_map]; rfl⟩
theorem rd_inb {vs : List Vl} {obs : List Ob} {Q : Vl → List Ob → Prop} (h : spInB vs obs Q) : vs.length = 3 ∧ obs.length = 0 ∧ wFn [] b_in_bounds 6 0 vs obs Q := by
  obtain ⟨p, ns, many, most, rfl, rfl, k⟩ := h
  refine ⟨rfl, rfl, wFn_of rfl ?_⟩
  unfold b_in_bounds
  decreasing_trivial
  have bad : ¬ (1 ≤ p ∧ p ≤ 60 ∧ ns.length = many) → Q (.dat (.bool false)) [] := fun e => by
    have : inB p ns many most = false := by
      unfold inB
      by_cases h1 : 1 ≤ p
      · by_cases h2 : p ≤ 60
        · by_cases h3 : ns.length = many
          · exact absurd ⟨h1, h2, h3⟩ e
          · rw [decide_eq_false h3, Bool.and_false, Bool.false_and]
        · rw [decide_eq_false h2, Bool.and_false, Bool.false_and, Bool.false_and]
      · rw [decide_eq_false h1, Bool.false_and, Bool.false_and, Bool.false_and]
    rw [this] at k
    exact k
  refine ite_i (fun h1 => ?_) fun h1 => bad fun h => h1 h.1
  refine ite_of (fun h2 => bad fun h => ?_) fun h2 => ?_
  · rw [decide_eq_true h.2.1] at h2
    cases h2
  have h2 : p ≤ 60 := by simpa using h2
  refine ⟨.inl (by rw [dep_int]; omega), ite_of (fun h3 => bad fun h => ?_) fun h3 => ?_⟩
  · rw [len_iD, eqv_int, decide_eq_true (by omega)] at h3
    cases h3
  have h3 : ns.length = many := by
    rw [len_iD, eqv_int] at h3
    have : ((ns.length : Nat) : Int) = (many : Nat) := by simpa using h3
    omega
  refine lc_pure (fun d => match d with
      | .int n => some (.bool (decide (0 ≤ n) && decide (n ≤ most)))
      | _ => none) trivial _ (fun d hd K hK => ?_) ?_
  · obtain ⟨c, hc, rfl⟩ := List.mem_map.mp hd
    unfold e_in_bounds_1
    decreasing_trivial
    dsimp only at hK
    refine ite_i (fun h => ?_) fun h => ?_
    · rw [decide_eq_true h, Bool.true_and] at hK
      exact hK
    · rw [decide_eq_false h, Bool.false_and] at hK
      exact hK
  · obtain ⟨bs, e1, e2⟩ := all_ranges ns most (fun d => match d with
      | .int n => some (.bool (decide (0 ≤ n) && decide (n ≤ most)))
      | _ => none) (fun _ => rfl)
    rw [e1]
    refine ⟨bs, rfl, ?_⟩
    rw [e2]
    unfold inB at k
    rw [decide_eq_true h1, decide_eq_true h2, decide_eq_true h3] at k
    exact k
end Pl

namespace Pl
open PySem PySem.Spec PyProof.Rows L2

local macro_rules | `(tactic| decreasing_trivial) => `(tactic| try simp only [wSs, wS, wE, wEs, wEo, wCond, wSrc, wAnd, wOr, Bool.false_eq_true, if_false, Bool.not_true, Bool.not_false, asT, onView_dat, onD_dat, fz_dat, fz_ptr, fz_fr, settled_dat, settled_ptr,  List.getElem?_cons_zero, List.getElem?_cons_succ, List.set_cons_zero, List.set_cons_succ, List.length_cons, List.length_nil, Nat.reduceAdd, Option.some.injEq, exists_eq_left', true_and, and_true, if_true, decide_eq_true_eq, Int.reduceToNat, Int.reducePow, Int.reduceLE, Int.reduceLT, Int.reduceMul, Int.reduceAdd, Int.reduceSub, Int.reduceNeg, Nat.reduceLT, Nat.reduceLeDiff, Nat.reduceMul, Nat.reducePow, Int.reduceAbs, Nat.reduceSub, List.map, List.replicate, List.cons_append, List.nil_append, List.append_nil, regsOf, renum, List.nodup_nil, r_add, r_adds, r_addt, r_addl, r_sub, r_mul, r_mull, r_mult, r_fdiv, r_mod, r_pow, r_band, r_bor, r_bxor, r_shl, r_shr, r_lt, r_le, r_gt, r_ge, r_lts, r_eq, r_ne, r_isin, r_notin, r_isin_list, r_isin_tuple, r_notin_list, r_notin_tuple, r_isnone, r_notnone, r_ixl, r_ixt, r_ixs, r_sll, r_slt, r_sls, r_len, r_int, r_intb, r_abs, r_min2, r_max2, r_sum, r_min1, r_max1, r_all, r_any, r_list, r_listt, r_tup, r_tupt, r_rl1, r_rl2, r_rt1, r_rt2, r_sort, r_sortt, r_isi, r_lenl, r_lent, r_lens, r_augi, r_augs, r_bitl, r_split, r_wtg, r_wtgm, r_at0, r_at1, r_at2, r_at3, r_at4, r_at5, r_ix1_0, r_ix2_0, r_ix2_1, r_ix3_0, r_ix3_1, r_ix3_2, r_ix4_0, r_ix4_1, r_ix4_2, r_ix4_3, r_ix5_0, r_ix5_1, r_ix5_2, r_ix5_3, r_ix5_4, r_v0, r_lenp0, r_typ0, r_app0, r_pop0, r_popAt0, r_ext0, r_outs0, r_v1, r_lenp1, r_typ1, r_app1, r_pop1, r_popAt1, r_ext1, r_outs1, r_v2, r_lenp2, r_typ2, r_app2, r_pop2, r_popAt2, r_ext2, r_outs2, r_v3, r_lenp3, r_typ3, r_app3, r_pop3, r_popAt3, r_ext3, r_outs3, r_tyd, r_mapp, r_mpop, r_mpopAt, r_mext, r_midxl, r_midxt, r_mspl, r_mbit, r_npd, r_npf, r_ty_int, r_ty_str, r_ty_list, r_ty_tuple, r_ty_bool, r_ixli, r_ixti, r_asgd, r_asgp, r_asgf, r_asgn, r_clr0, r_clr1, r_clr2, r_clr3, r_sto0, r_ag0, r_sto1, r_ag1, r_sto2, r_ag2, r_sto3, r_ag3, r_c0, r_c1, r_c2, r_c3, r_c4, r_c5, r_c6, r_c7, r_c8, r_c9, r_c10, r_c11, r_put1, r_put0, r_ptuple0, r_plist0, r_psum0, r_pmin10, r_pmax10, r_pall0, r_pany0, r_psorted0, r_ptuple1, r_plist1, r_psum1, r_pmin11, r_pmax11, r_pall1, r_pany1, r_psorted1, r_ptuple2, r_plist2, r_psum2, r_pmin12, r_pmax12, r_pall2, r_pany2, r_psorted2, r_ptuple3, r_plist3, r_psum3, r_pmin13, r_pmax13, r_pall3, r_pany3, r_psorted3, r_stab, r_wipe0, r_wipe1, stepLc, r_putc, frz1, reduceCtorEq, Nat.reduceEqDiff, reduceIte, r_clrD, r_frzD, setMany, r_sumt, r_min1t, r_max1t, r_ex0, r_exc, r_sz0, r_sz1, r_sz2, r_sz3, r_sz4, r_sz5, r_sz6, r_sz7, r_sz8, r_sz9, r_sz10, r_sz11, r_sz12, r_sz13, r_sz14, r_sz15, r_sz16, r_sz17, r_sz18, r_sz19, r_sz20])
/-! ### more rows, depths -/
theorem r_depi (i : Int) : ((PyData.int i).depth ≤ 60) = True := eq_true (by rw [dep_int]; omega)
theorem depthAll_le {n : Nat} : ∀ {ds : List D}, (∀ d ∈ ds, d.depth ≤ n) → PyData.depthAll ds ≤ n
  | [], _ => by rw [PyData.depthAll]; omega
  | d :: ds, h => by
    rw [PyData.depthAll]
    have h1 := h d List.mem_cons_self
    have h2 := depthAll_le fun e he => h e (List.mem_cons_of_mem _ he)
    omega
theorem plainAll_of : ∀ {ds : List D}, (∀ d ∈ ds, d.plain = true) → PyData.plainAll ds = true
  | [], _ => by rw [PyData.plainAll]
  | d :: ds, h => by
    rw [PyData.plainAll, h d List.mem_cons_self, plainAll_of fun e he => h e (List.mem_cons_of_mem _ he)]
    rfl
theorem dep_tup {n : Nat} {ds : List D} (h : ∀ d ∈ ds, d.depth ≤ n) : (PyData.tuple ds).depth ≤ n + 1 := by
  rw [PyData.depth]
  have := depthAll_le h
  omega
theorem plain_tup {ds : List D} (h : ∀ d ∈ ds, d.plain = true) : (PyData.tuple ds).plain = true := by
  rw [PyData.plain]
  exact plainAll_of h
theorem dep_ints (ns : List Int) : ∀ d ∈ iD ns, d.depth ≤ 0 := fun d hd => by
  obtain ⟨c, _, rfl⟩ := List.mem_map.mp hd
  rw [dep_int]; omega
theorem plain_ints (ns : List Int) : ∀ d ∈ iD ns, d.plain = true := fun d hd => by
  obtain ⟨c, _, rfl⟩ := List.mem_map.mp hd
  rw [PyData.plain]
theorem eqv_bool (a b : Bool) : PyData.eqv (.bool a) (.bool b) = decide (a = b) := by
  rw [PyData.eqv]
  exact Bool.eq_iff_iff.mpr (by simp)
theorem dep_bool (b : Bool) : (PyData.bool b).depth = 0 := by simp [PyData.depth]
theorem r_depb (b : Bool) : ((PyData.bool b).depth ≤ 60) = True := eq_true (by rw [dep_bool]; omega)
theorem repl_ints (n : Nat) (v : Int) : (List.replicate n [PyData.int v]).flatten = iD (List.replicate n v) := by
  rw [List.flatten_replicate_singleton]
  unfold iD
  rw [List.map_replicate]
/-- growth terms -/
abbrev Gt := Tm × Int
def gtD (g : Gt) : D := .tuple [.int g.1.k, .tuple (iD g.1.kn), .tuple (iD g.1.nw), .int g.2]
/-- a comprehension over the images of a list: what each of them gives -/
theorem lc_map {β : Type} {tg : Tg} {own : List Nat} {ct : LTT} {elt : LTE} {ok : Reg → Prop} {ρ : Sl} {η : Reg} (h : β → D) (e : β → Option D) (hok : ok η) : ∀ (ys : List β) {Q : List D → Reg → Prop}, (∀ y ∈ ys, ∀ K : Option D → Reg → Prop, K (e y) η → stepLc tg own ct elt ρ (h y) η K) →
    Q (ys.filterMap e) η → wLc tg own ct elt ok ρ (ys.map h) η Q
  | [], Q, _, q => q
  | y :: r, Q, s, q => by
    rw [List.map_cons]
    refine wLc_cons (s y List.mem_cons_self _ ?_)
    rw [List.filterMap_cons] at q
    cases he : e y with
    | none =>
      rw [he] at q
      exact ⟨hok, lc_map h e hok r (fun d hd => s d (List.mem_cons_of_mem _ hd)) q⟩
    | some x =>
      rw [he] at q
      exact ⟨hok, lc_map h e hok r (fun d hd => s d (List.mem_cons_of_mem _ hd)) (Q := fun es η3 => Q (x :: es) η3) q⟩
theorem enum_eq {α : Type} (g : α → D) (xs : List α) : ((xs.map g).zipIdx.map fun p => PyData.tuple [.int p.2, p.1]) = xs.zipIdx.map fun p => PyData.tuple [.int (p.2 : Nat), g p.1] := by
  rw [List.zipIdx_map, List.map_map]
  rfl
theorem range_eq {α : Type} (xs : List α) : rangeD 0 xs.length = xs.zipIdx.map fun p => PyData.int (p.2 : Nat) := by
  rw [rng_zero, List.range_eq_range']
  have key : ∀ (xs : List α) (k : Nat), (List.range' k xs.length).map (fun j => PyData.int (j : Nat)) = (xs.zipIdx k).map fun p => PyData.int (p.2 : Nat) := by
    intro xs
    induction xs with
    | nil => intro k; rfl
    | cons x xs ih => intro k; rw [List.length_cons, List.range'_succ, List.map_cons, List.zipIdx_cons, List.map_cons, ih (k + 1)]
  exact key xs 0
theorem zip_at {α : Type} {xs : List α} {p : α × Nat} (h : p ∈ xs.zipIdx) : xs[p.2]? = some p.1 ∧ p.2 < xs.length := by
  have := List.mem_zipIdx' h
  exact ⟨by rw [List.getElem?_eq_getElem this.1, ← this.2], this.1⟩
theorem map_at {α : Type} {xs : List α} {i : Nat} {x : α} (g : α → D) (h : xs[i]? = some x) : atI (xs.map g) ((i : Nat) : Int) = some (g x) := atI_nat (by rw [List.getElem?_map, h]; rfl)
end Pl

namespace Pl
open PySem PySem.Spec PyProof.Rows L2

local macro_rules | `(tactic| decreasing_trivial) => `(tactic| try simp only [wSs, wS, wE, wEs, wEo, wCond, wSrc, wAnd, wOr, Bool.false_eq_true, if_false, Bool.not_true, Bool.not_false, asT, onView_dat, onD_dat, fz_dat, fz_ptr, fz_fr, settled_dat, settled_ptr,  List.getElem?_cons_zero, List.getElem?_cons_succ, List.set_cons_zero, List.set_cons_succ, List.length_cons, List.length_nil, Nat.reduceAdd, Option.some.injEq, exists_eq_left', true_and, and_true, if_true, decide_eq_true_eq, Int.reduceToNat, Int.reducePow, Int.reduceLE, Int.reduceLT, Int.reduceMul, Int.reduceAdd, Int.reduceSub, Int.reduceNeg, Nat.reduceLT, Nat.reduceLeDiff, Nat.reduceMul, Nat.reducePow, Int.reduceAbs, Nat.reduceSub, List.map, List.replicate, List.cons_append, List.nil_append, List.append_nil, regsOf, renum, List.nodup_nil, r_add, r_adds, r_addt, r_addl, r_sub, r_mul, r_mull, r_mult, r_fdiv, r_mod, r_pow, r_band, r_bor, r_bxor, r_shl, r_shr, r_lt, r_le, r_gt, r_ge, r_lts, r_eq, r_ne, r_isin, r_notin, r_isin_list, r_isin_tuple, r_notin_list, r_notin_tuple, r_isnone, r_notnone, r_ixl, r_ixt, r_ixs, r_sll, r_slt, r_sls, r_len, r_int, r_intb, r_abs, r_min2, r_max2, r_sum, r_min1, r_max1, r_all, r_any, r_list, r_listt, r_tup, r_tupt, r_rl1, r_rl2, r_rt1, r_rt2, r_sort, r_sortt, r_isi, r_lenl, r_lent, r_lens, r_augi, r_augs, r_bitl, r_split, r_wtg, r_wtgm, r_at0, r_at1, r_at2, r_at3, r_at4, r_at5, r_ix1_0, r_ix2_0, r_ix2_1, r_ix3_0, r_ix3_1, r_ix3_2, r_ix4_0, r_ix4_1, r_ix4_2, r_ix4_3, r_ix5_0, r_ix5_1, r_ix5_2, r_ix5_3, r_ix5_4, r_v0, r_lenp0, r_typ0, r_app0, r_pop0, r_popAt0, r_ext0, r_outs0, r_v1, r_lenp1, r_typ1, r_app1, r_pop1, r_popAt1, r_ext1, r_outs1, r_v2, r_lenp2, r_typ2, r_app2, r_pop2, r_popAt2, r_ext2, r_outs2, r_v3, r_lenp3, r_typ3, r_app3, r_pop3, r_popAt3, r_ext3, r_outs3, r_tyd, r_mapp, r_mpop, r_mpopAt, r_mext, r_midxl, r_midxt, r_mspl, r_mbit, r_npd, r_npf, r_ty_int, r_ty_str, r_ty_list, r_ty_tuple, r_ty_bool, r_ixli, r_ixti, r_asgd, r_asgp, r_asgf, r_asgn, r_clr0, r_clr1, r_clr2, r_clr3, r_sto0, r_ag0, r_sto1, r_ag1, r_sto2, r_ag2, r_sto3, r_ag3, r_c0, r_c1, r_c2, r_c3, r_c4, r_c5, r_c6, r_c7, r_c8, r_c9, r_c10, r_c11, r_put1, r_put0, r_ptuple0, r_plist0, r_psum0, r_pmin10, r_pmax10, r_pall0, r_pany0, r_psorted0, r_ptuple1, r_plist1, r_psum1, r_pmin11, r_pmax11, r_pall1, r_pany1, r_psorted1, r_ptuple2, r_plist2, r_psum2, r_pmin12, r_pmax12, r_pall2, r_pany2, r_psorted2, r_ptuple3, r_plist3, r_psum3, r_pmin13, r_pmax13, r_pall3, r_pany3, r_psorted3, r_stab, r_wipe0, r_wipe1, stepLc, r_putc, frz1, reduceCtorEq, Nat.reduceEqDiff, reduceIte, r_clrD, r_frzD, setMany, r_sumt, r_min1t, r_max1t, r_ex0, r_exc, r_sz0, r_sz1, r_sz2, r_sz3, r_sz4, r_sz5, r_sz6, r_sz7, r_sz8, r_sz9, r_sz10, r_sz11, r_sz12, r_sz13, r_sz14, r_sz15, r_sz16, r_sz17, r_sz18, r_sz19, r_sz20])
/-! ### papers, sums, products -/
structure GOk (m : Nat) (gs : List Gt) : Prop where
  cols : ∀ g ∈ gs, Cols m g.1.nw
  lo : ∀ g ∈ gs, 0 ≤ g.2
  hi : ∀ g ∈ gs, g.2 ≤ 4
  len : gs.length ≤ 200
def plainG (as : List (List Int)) (ps : List Int) : List D := as.zipIdx.map fun p => .tuple [.int (p.2 : Nat), .tuple [], .tuple (iD p.1), .int (nth ps (p.2 : Nat))]
def spPlainG : PSpec := fun vs obs Q => ∃ (m : Nat) (as : List (List Int)) (ps : List Int), vs = [.dat (qD m as), .dat (.tuple (iD ps))] ∧ obs = [] ∧ as.length = ps.length ∧ Q (.dat (.tuple (plainG as ps))) []
def paD (p : Int) (ns : List Int) : D := .tuple [.int p, .tuple (iD ns)]
theorem mul_ok {a b : Int} (h0 : 0 ≤ b) (h1 : b ≤ 100) : MulOk a b := .inr (.inl ⟨by omega, by omega⟩)
theorem nws_cols {m : Nat} {kn nw : List Int} (h : Cols m nw) : Cols m (nws kn nw) := h.sub List.filter_sublist
theorem at_nth {ns : List Int} {c : Int} (h0 : 0 ≤ c) (h1 : c < (ns.length : Int)) : atI (iD ns) c = some (.int (nth ns c)) := by
  obtain ⟨j, rfl⟩ := nat_of h0
  exact at_ints (by omega)
/-- the sum of the numbers of some columns -/
theorem lc_sum {Γ : Env} {tg : Tg} {own : List Nat} {ct : LTT} {elt : LTE} {ρ : Sl} {η : Reg} {ns cs : List Int} {Q : List D → Reg → Prop} (hs : ∀ c ∈ cs, ∀ K : Option D → Reg → Prop, K (some (.int (nth ns c))) η → stepLc tg own ct elt ρ (.int c) η K)
    (q : Q (iD (cs.map (nth ns))) η) {ok : Reg → Prop} (hok : ok η) : wLc tg own ct elt ok ρ (iD cs) η Q := by
  refine lc_pure (fun d => match d with
    | .int c => some (.int (nth ns c))
    | _ => none) hok _ (fun d hd K hK => ?_) ?_
  · obtain ⟨c, hc, rfl⟩ := List.mem_map.mp hd
    exact hs c hc K hK
  · rw [fm_iD (e := fun c => PyData.int (nth ns c)) (fun _ => rfl), show cs.map (fun c => PyData.int (nth ns c)) = iD (cs.map (nth ns)) from (List.map_map ..).symm]
    exact q
theorem inB_of {p : Int} {ns : List Int} {m : Nat} {b : Int} (h : inB p ns m b = true) : 1 ≤ p ∧ p ≤ 60 ∧ ns.length = m ∧ ∀ n ∈ ns, 0 ≤ n ∧ n ≤ b := by
  unfold inB at h
  simp only [Bool.and_eq_true, decide_eq_true_eq, List.all_eq_true] at h
  exact ⟨h.1.1.1, h.1.1.2, h.1.2, h.2⟩
def Paps (n : Nat) (ps : List D) : Prop := ps.length ≤ n ∧ ∀ d ∈ ps, ∃ p ns, d = paD p ns
theorem Paps.add {n : Nat} {ps : List D} (h : Paps n ps) (p : Int) (ns : List Int) : Paps (n + 1) (ps ++ [.tuple [.int p, .tuple (iD ns)]]) := by
  refine ⟨by rw [List.length_append, List.length_singleton]; have := h.1; omega, fun d hd => ?_⟩
  rcases List.mem_append.mp hd with hd | hd
  · exact h.2 d hd
  · rw [List.mem_singleton.mp hd]; exact ⟨p, ns, rfl⟩
theorem Paps.up {n k : Nat} {ps : List D} (h : Paps n ps) (hk : n ≤ k) : Paps k ps := ⟨Nat.le_trans h.1 hk, h.2⟩
theorem Paps.sz {n : Nat} {ps : List D} (h : Paps n ps) (hk : n ≤ 100000) : ps.length < sizeLine := by have := h.1; unfold sizeLine; omega
theorem fm_enum {α : Type} {g : α → D} {f : D → Option D} {e : α → Nat → D} (xs : List α) (h : ∀ x i, xs[i]? = some x → f (.tuple [.int (i : Nat), g x]) = some (e x i)) : (((xs.map g).zipIdx.map fun p => PyData.tuple [.int p.2, p.1]).filterMap f) = xs.zipIdx.map fun p => e p.1 p.2 := by
  have key : ∀ (xs : List α) (k : Nat), (∀ x i, xs[i]? = some x → f (.tuple [.int ((k + i : Nat) : Int), g x]) = some (e x (k + i))) → ((((xs.map g).zipIdx k).map fun p => PyData.tuple [.int p.2, p.1]).filterMap f) = (xs.zipIdx k).map fun p => e p.1 p.2 := by
    intro xs
    induction xs with
    | nil => intro k h; rfl
    | cons x xs ih =>
      intro k h
      rw [List.map_cons, List.zipIdx_cons, List.map_cons, List.filterMap_cons]
      have := h x 0 rfl
      rw [Nat.add_zero] at this
      rw [this, List.zipIdx_cons, List.map_cons, ih (k + 1) fun y i hy => by rw [show k + 1 + i = k + (i + 1) by omega]; exact h y (i + 1) hy]
  exact key xs 0 fun x i hx => by rw [Nat.zero_add]; exact h x i hx
theorem mul_ok' {a b : Int} (h0 : -(2 ^ 64) < b) (h1 : b < 2 ^ 64) : MulOk a b := .inr (.inl ⟨h0, h1⟩)
theorem bits_le {i : Int} (h : i.natAbs < 2 ^ 4000) : Builtin.Int.intBits i ≤ 4000 := by
  unfold Builtin.Int.intBits
  split
  · omega
  · rename_i h0
    have : i.natAbs.log2 < 4000 := (Nat.log2_lt (by intro z; exact h0 (by simp; omega))).mpr h
    omega
theorem mul_big {a b : Int} (ha : a.natAbs < 2 ^ 4000) (hb : b.natAbs < 2 ^ 4000) : MulOk a b := .inr (.inr (PySem.IntMulOk.of_le (bits_le ha) (bits_le hb) (by omega)))
theorem big_lt {n : Nat} (h : n < 2 ^ 200) : n < 2 ^ 4000 := Nat.lt_of_lt_of_le h (Nat.pow_le_pow_right (by omega) (by omega))
theorem lc_ite {K : Option D → Reg → Prop} {η : Reg} {b : Bool} {x : D} (h : K (if b = true then some x else none) η) : if b = true then K (some x) η else K none η := by
  cases b <;> exact h
/-- a ratio in lowest terms -/
theorem low_div {u v : Int} (hv : 0 < v) : Low (u / ((Nat.gcd u.natAbs v.natAbs : Nat) : Int)) (v / ((Nat.gcd u.natAbs v.natAbs : Nat) : Int)) ∧ u / ((Nat.gcd u.natAbs v.natAbs : Nat) : Int) * v = u * (v / ((Nat.gcd u.natAbs v.natAbs : Nat) : Int)) ∧
    (u / ((Nat.gcd u.natAbs v.natAbs : Nat) : Int)).natAbs ≤ u.natAbs ∧ (v / ((Nat.gcd u.natAbs v.natAbs : Nat) : Int)).natAbs ≤ v.natAbs := by
  have g0 : 0 < Nat.gcd u.natAbs v.natAbs := Nat.gcd_pos_of_pos_right _ (by omega)
  have du : ((Nat.gcd u.natAbs v.natAbs : Nat) : Int) ∣ u := Int.ofNat_dvd_left.mpr (Nat.gcd_dvd_left _ _)
  have dv : ((Nat.gcd u.natAbs v.natAbs : Nat) : Int) ∣ v := Int.ofNat_dvd_left.mpr (Nat.gcd_dvd_right _ _)
  refine ⟨⟨?_, ?_⟩, ?_, ?_, ?_⟩
  · have := Int.ediv_mul_cancel dv
    by_cases h : v / ((Nat.gcd u.natAbs v.natAbs : Nat) : Int) ≤ 0
    · have := Int.mul_le_mul_of_nonneg_right h (show (0 : Int) ≤ ((Nat.gcd u.natAbs v.natAbs : Nat) : Int) by omega)
      omega
    · omega
  · rw [Int.natAbs_ediv_of_dvd du, Int.natAbs_ediv_of_dvd dv, Int.natAbs_natCast]
    exact Nat.coprime_div_gcd_div_gcd g0
  · have e1 := Int.ediv_mul_cancel du
    have e2 := Int.ediv_mul_cancel dv
    have ne : ((Nat.gcd u.natAbs v.natAbs : Nat) : Int) ≠ 0 := by omega
    refine Int.eq_of_mul_eq_mul_right ne ?_
    calc u / ((Nat.gcd u.natAbs v.natAbs : Nat) : Int) * v * ((Nat.gcd u.natAbs v.natAbs : Nat) : Int) = (u / ((Nat.gcd u.natAbs v.natAbs : Nat) : Int) * ((Nat.gcd u.natAbs v.natAbs : Nat) : Int)) * v := by ac_rfl
      _ = u * v := by rw [e1]
      _ = u * (v / ((Nat.gcd u.natAbs v.natAbs : Nat) : Int) * ((Nat.gcd u.natAbs v.natAbs : Nat) : Int)) := by rw [e2]
      _ = _ := by ac_rfl
  · rw [Int.natAbs_ediv_of_dvd du, Int.natAbs_natCast]
    exact Nat.div_le_self _ _
  · rw [Int.natAbs_ediv_of_dvd dv, Int.natAbs_natCast]
    exact Nat.div_le_self _ _
/-! more rows -/
theorem r_deps (x : Str) : ((PyData.str x).depth ≤ 60) = True := eq_true (by rw [PyData.depth]; omega)
theorem r_cut1 (a : D) (l : List D) : cutL (a :: l) (some 1) none = l := by
  unfold cutL
  rw [show HT.sIx (a :: l).length 0 (some 1) = 1 by rw [show (some (1 : Int)) = some ((1 : Nat) : Int) from rfl, HT.sIx_nat, List.length_cons]; omega, HT.sIx_none, List.drop_succ_cons, List.drop_zero, List.length_cons]
  exact List.take_of_length_le (by omega)
theorem r_cut3 (a b c : D) (l : List D) : cutL (a :: b :: c :: l) (some 3) none = l := by
  unfold cutL
  rw [show HT.sIx (a :: b :: c :: l).length 0 (some 3) = 3 by rw [show (some (3 : Int)) = some ((3 : Nat) : Int) from rfl, HT.sIx_nat, List.length_cons, List.length_cons, List.length_cons]; omega, HT.sIx_none, List.drop_succ_cons, List.drop_succ_cons, List.drop_succ_cons, List.drop_zero]
  simp only [List.length_cons]
  exact List.take_of_length_le (by omega)
theorem r_isb (x y : Bool) (Q : Bool → Prop) : cmpD .isnone (.bool x) (.bool y) Q = Q (x == y) := rfl
theorem r_nisb (x y : Bool) (Q : Bool → Prop) : cmpD .notnone (.bool x) (.bool y) Q = Q (x != y) := rfl
theorem r_szl0 : (0 < sizeLine) = True := eq_true (by unfold sizeLine; omega)
theorem r_szl1 : (1 < sizeLine) = True := eq_true (by unfold sizeLine; omega)
theorem r_szl2 : (2 < sizeLine) = True := eq_true (by unfold sizeLine; omega)
theorem r_szl3 : (3 < sizeLine) = True := eq_true (by unfold sizeLine; omega)
theorem r_szl4 : (4 < sizeLine) = True := eq_true (by unfold sizeLine; omega)
theorem r_szl5 : (5 < sizeLine) = True := eq_true (by unfold sizeLine; omega)
theorem r_szl6 : (6 < sizeLine) = True := eq_true (by unfold sizeLine; omega)
theorem r_szl7 : (7 < sizeLine) = True := eq_true (by unfold sizeLine; omega)
theorem r_szl8 : (8 < sizeLine) = True := eq_true (by unfold sizeLine; omega)
theorem r_szl9 : (9 < sizeLine) = True := eq_true (by unfold sizeLine; omega)
theorem r_szl10 : (10 < sizeLine) = True := eq_true (by unfold sizeLine; omega)
theorem r_szl11 : (11 < sizeLine) = True := eq_true (by unfold sizeLine; omega)
theorem r_szl12 : (12 < sizeLine) = True := eq_true (by unfold sizeLine; omega)
theorem r_szl13 : (13 < sizeLine) = True := eq_true (by unfold sizeLine; omega)
theorem r_szl14 : (14 < sizeLine) = True := eq_true (by unfold sizeLine; omega)
theorem r_szl15 : (15 < sizeLine) = True := eq_true (by unfold sizeLine; omega)
theorem r_szl16 : (16 < sizeLine) = True := eq_true (by unfold sizeLine; omega)
theorem r_szl17 : (17 < sizeLine) = True := eq_true (by unfold sizeLine; omega)
theorem r_szl18 : (18 < sizeLine) = True := eq_true (by unfold sizeLine; omega)
theorem r_szl19 : (19 < sizeLine) = True := eq_true (by unfold sizeLine; omega)
theorem r_szl20 : (20 < sizeLine) = True := eq_true (by unfold sizeLine; omega)
theorem r_szl21 : (21 < sizeLine) = True := eq_true (by unfold sizeLine; omega)
theorem r_szl22 : (22 < sizeLine) = True := eq_true (by unfold sizeLine; omega)
theorem r_szl23 : (23 < sizeLine) = True := eq_true (by unfold sizeLine; omega)
theorem r_szl24 : (24 < sizeLine) = True := eq_true (by unfold sizeLine; omega)
theorem r_szl25 : (25 < sizeLine) = True := eq_true (by unfold sizeLine; omega)
theorem r_szl26 : (26 < sizeLine) = True := eq_true (by unfold sizeLine; omega)
theorem r_szl27 : (27 < sizeLine) = True := eq_true (by unfold sizeLine; omega)
theorem r_szl28 : (28 < sizeLine) = True := eq_true (by unfold sizeLine; omega)
theorem r_szl29 : (29 < sizeLine) = True := eq_true (by unfold sizeLine; omega)
theorem r_szl30 : (30 < sizeLine) = True := eq_true (by unfold sizeLine; omega)
theorem r_szl31 : (31 < sizeLine) = True := eq_true (by unfold sizeLine; omega)
theorem r_szl32 : (32 < sizeLine) = True := eq_true (by unfold sizeLine; omega)
theorem r_szl33 : (33 < sizeLine) = True := eq_true (by unfold sizeLine; omega)
theorem r_szl34 : (34 < sizeLine) = True := eq_true (by unfold sizeLine; omega)
theorem r_szl35 : (35 < sizeLine) = True := eq_true (by unfold sizeLine; omega)
theorem r_szl36 : (36 < sizeLine) = True := eq_true (by unfold sizeLine; omega)
theorem r_szl37 : (37 < sizeLine) = True := eq_true (by unfold sizeLine; omega)
theorem r_szl38 : (38 < sizeLine) = True := eq_true (by unfold sizeLine; omega)
theorem r_szl39 : (39 < sizeLine) = True := eq_true (by unfold sizeLine; omega)
theorem r_szl40 : (40 < sizeLine) = True := eq_true (by unfold sizeLine; omega)
/-- each item of a written list -/
theorem mem_c {α : Type} {P : α → Prop} {a : α} {l : List α} (h : P a) (t : ∀ d ∈ l, P d) : ∀ d ∈ a :: l, P d := List.forall_mem_cons.mpr ⟨h, t⟩
theorem mem_n {α : Type} {P : α → Prop} : ∀ d ∈ ([] : List α), P d := fun _ h => nomatch h
end Pl

namespace Pl
open PySem PySem.Spec PyProof.Rows L2

/-! way_down(parents, column): registers found=0 -/
abbrev N_way_down : List Str := ["parents", "column", "found", "place", "level"]
def l_way_down_1 : Ss :=
 (.cons (.exp (.met .append (.var 2) (.cons (.var 3) .nil)))
 (.cons (.asg 3 none (.idx (.var 0) (.var 3)))
 (.cons (.iff (.cmp .lt (.var 3) (.lit (.int 0))) (
  (.cons (.ret (.bi .tuple (.cons (.rev (.var 2)) .nil))) .nil)) ( .nil)) .nil)))
def b_way_down : Ss :=
 (.cons (.asg 2 (some 0) (.lst .nil))
 (.cons (.asg 3 none (.var 1))
 (.cons (.for [] (.one 4) (.rng1 (.bi .len (.cons (.var 0) .nil))) l_way_down_1)
 (.cons (.ret (.tup .nil)) .nil))))
-- calls: ; np 0, n 1; slots 0:parents 1:column 2:found 3:place 4:level

/-! judge_nested(query, parents): registers  -/
abbrev N_judge_nested : List Str := ["query", "parents", "ways", "sets", "column", "way", "parent", "atom"]
def e_judge_nested_1 : E := (.chn .le .lt (.neg (.lit (.int 1))) (.var 6) (.idx (.var 0) (.lit (.int 1))))
def e_judge_nested_2 : E := (.call 0 (.cons (.var 1) (.cons (.var 4) .nil)))
def e_judge_nested_3 : E := (.cmp .gt (.bi .len (.cons (.var 5) .nil)) (.lit (.int 0)))
def e_judge_nested_4 : E := (.bi .tuple (.cons (.bi .sorted (.cons (.var 5) .nil)) .nil))
def e_judge_nested_5 : E := (.cmp .isin (.var 7) (.var 3))
def e_judge_nested_6 : E := (.or (.cmp .lt (.idx (.var 1) (.var 4)) (.lit (.int 0))) (.cons (.cmp .isin (.idx (.var 1) (.var 4)) (.idx (.var 0) (.lit (.int 3)))) .nil))
def b_judge_nested : Ss :=
 (.cons (.iff (.cmp .ne (.bi .len (.cons (.var 1) .nil)) (.idx (.var 0) (.lit (.int 1)))) (
  (.cons (.ret (.lit (.bool false))) .nil)) ( .nil))
 (.cons (.iff (.not (.bi .all (.cons (.lc (.one 6) [6] (.seq (.var 1)) .no e_judge_nested_1) .nil))) (
  (.cons (.ret (.lit (.bool false))) .nil)) ( .nil))
 (.cons (.asg 2 none (.lc (.one 4) [4] (.rng1 (.idx (.var 0) (.lit (.int 1)))) .no e_judge_nested_2))
 (.cons (.iff (.not (.bi .all (.cons (.lc (.one 5) [5] (.seq (.var 2)) .no e_judge_nested_3) .nil))) (
  (.cons (.ret (.lit (.bool false))) .nil)) ( .nil))
 (.cons (.asg 3 none (.lc (.one 5) [5] (.seq (.var 2)) .no e_judge_nested_4))
 (.cons (.iff (.not (.bi .all (.cons (.lc (.one 7) [7] (.seq (.idx (.var 0) (.lit (.int 2)))) .no e_judge_nested_5) .nil))) (
  (.cons (.ret (.lit (.bool false))) .nil)) ( .nil))
 (.cons (.ret (.bi .all (.cons (.lc (.one 4) [4] (.seq (.idx (.var 0) (.lit (.int 3)))) .no e_judge_nested_6) .nil))) .nil)))))))
-- calls: way_down; np 0, n 0; slots 0:query 1:parents 2:ways 3:sets 4:column 5:way 6:parent 7:atom

/-! has_both(query, number, x, y): registers  -/
abbrev N_has_both : List Str := ["query", "number", "x", "y"]
def b_has_both : Ss :=
 (.cons (.ret (.and (.chn .le .lt (.lit (.int 0)) (.var 1) (.bi .len (.cons (.idx (.var 0) (.lit (.int 2))) .nil))) (.cons (.cmp .isin (.var 2) (.idx (.idx (.var 0) (.lit (.int 2))) (.var 1))) (.cons (.cmp .isin (.var 3) (.idx (.idx (.var 0) (.lit (.int 2))) (.var 1))) .nil)))) .nil)
-- calls: ; np 0, n 0; slots 0:query 1:number 2:x 3:y

/-! has_first(query, number, x, y): registers  -/
abbrev N_has_first : List Str := ["query", "number", "x", "y"]
def b_has_first : Ss :=
 (.cons (.ret (.and (.chn .le .lt (.lit (.int 0)) (.var 1) (.bi .len (.cons (.idx (.var 0) (.lit (.int 2))) .nil))) (.cons (.cmp .isin (.var 2) (.idx (.idx (.var 0) (.lit (.int 2))) (.var 1))) (.cons (.cmp .notin (.var 3) (.idx (.idx (.var 0) (.lit (.int 2))) (.var 1))) .nil)))) .nil)
-- calls: ; np 0, n 0; slots 0:query 1:number 2:x 3:y

/-! judge_crossing(query, crossing): registers  -/
abbrev N_judge_crossing : List Str := ["query", "crossing", "x", "y", "first", "both", "last"]
def b_judge_crossing : Ss :=
 (.cons (.iff (.and (.cmp .eq (.bi .len (.cons (.var 1) .nil)) (.lit (.int 6))) (.cons (.cmp .eq (.idx (.var 1) (.lit (.int 0))) (.lit (.str ("cross" : Str)))) .nil)) (
  (.cons (.asgT [2, 3, 4, 5, 6] (.sli (.var 1) (.so (.lit (.int 1))) .no))
  (.cons (.iff (.or (.not (.chn3 .le .lt .lt (.lit (.int 0)) (.var 2) (.var 3) (.idx (.var 0) (.lit (.int 1))))) (.cons (.not (.call 0 (.cons (.var 0) (.cons (.var 4) (.cons (.var 2) (.cons (.var 3) .nil)))))) .nil)) (
   (.cons (.ret (.lit (.bool false))) .nil)) ( .nil))
  (.cons (.ret (.and (.call 1 (.cons (.var 0) (.cons (.var 5) (.cons (.var 2) (.cons (.var 3) .nil))))) (.cons (.call 0 (.cons (.var 0) (.cons (.var 6) (.cons (.var 3) (.cons (.var 2) .nil))))) .nil))) .nil)))) ( .nil))
 (.cons (.iff (.and (.cmp .eq (.bi .len (.cons (.var 1) .nil)) (.lit (.int 5))) (.cons (.cmp .eq (.idx (.var 1) (.lit (.int 0))) (.lit (.str ("under" : Str)))) .nil)) (
  (.cons (.asgT [2, 3, 5, 6] (.sli (.var 1) (.so (.lit (.int 1))) .no))
  (.cons (.iff (.or (.cmp .notin (.var 2) (.idx (.var 0) (.lit (.int 3)))) (.cons (.not (.chn .le .lt (.lit (.int 0)) (.var 3) (.idx (.var 0) (.lit (.int 1))))) (.cons (.cmp .isin (.var 3) (.idx (.var 0) (.lit (.int 3)))) .nil))) (
   (.cons (.ret (.lit (.bool false))) .nil)) ( .nil))
  (.cons (.ret (.and (.call 1 (.cons (.var 0) (.cons (.var 5) (.cons (.var 2) (.cons (.var 3) .nil))))) (.cons (.call 0 (.cons (.var 0) (.cons (.var 6) (.cons (.var 3) (.cons (.var 2) .nil))))) .nil))) .nil)))) ( .nil))
 (.cons (.ret (.lit (.bool false))) .nil)))
-- calls: has_first, has_both; np 0, n 0; slots 0:query 1:crossing 2:x 3:y 4:first 5:both 6:last

/-! _law_shown(d, query): registers d=0 -/
abbrev N__law_shown : List Str := ["d", "query", "way", "shown"]
def b__law_shown : Ss :=
 (.cons (.asg 2 none (.call 0 (.cons (.var 0) (.cons (.lit (.int 4)) .nil))))
 (.cons (.asg 3 none (.idx (.var 1) (.lit (.int 3))))
 (.cons (.iff (.cmp .eq (.var 2) (.lit (.int 0))) (
  (.cons (.asg 3 none (.tup .nil)) .nil)) (
  (.cons (.iff (.cmp .lt (.var 2) (.lit (.int 3))) (
   (.cons (.asg 3 none (.bi .tuple (.cons (.call 1 (.cons (.var 0) (.cons (.bi .list (.cons (.idx (.var 1) (.lit (.int 3))) .nil)) .nil))) .nil))) .nil)) ( .nil)) .nil)))
 (.cons (.ret (.tup (.cons (.idx (.var 1) (.lit (.int 0))) (.cons (.idx (.var 1) (.lit (.int 1))) (.cons (.idx (.var 1) (.lit (.int 2))) (.cons (.var 3) .nil)))))) .nil))))
-- calls: _law_draw, _law_some; np 1, n 0; slots 0:d 1:query 2:way 3:shown

/-! _law_ways(ups): registers ways=0 -/
abbrev N__law_ways : List Str := ["ups", "ways", "at", "way"]
def l__law_ways_1 : Ss :=
 (.cons (.asg 3 none (.lst (.cons (.var 2) .nil)))
 (.cons (.iff (.cmp .ge (.idx (.var 0) (.var 2)) (.lit (.int 0))) (
  (.cons (.asg 3 none (.bop .add (.idx (.var 1) (.idx (.var 0) (.var 2))) (.lst (.cons (.var 2) .nil)))) .nil)) ( .nil))
 (.cons (.exp (.met .append (.var 1) (.cons (.var 3) .nil))) .nil)))
def b__law_ways : Ss :=
 (.cons (.asg 1 (some 0) (.lst .nil))
 (.cons (.for [] (.one 2) (.rng1 (.bi .len (.cons (.var 0) .nil))) l__law_ways_1)
 (.cons (.retP 1 0) .nil)))
-- calls: ; np 0, n 1; slots 0:ups 1:ways 2:at 3:way

/-! _law_open_places(d, ups): registers d=0, found=1 -/
abbrev N__law_open_places : List Str := ["d", "ups", "mode", "found", "at", "is_taken"]
def l__law_open_places_1 : Ss :=
 (.cons (.asg 5 none (.cmp .eq (.var 2) (.lit (.int 0))))
 (.cons (.iff (.cmp .gt (.var 2) (.lit (.int 1))) (
  (.cons (.asg 5 none (.cmp .gt (.call 0 (.cons (.var 0) (.cons (.lit (.int 3)) .nil))) (.lit (.int 0)))) .nil)) ( .nil))
 (.cons (.iff (.and (.var 5) (.cons (.or (.cmp .lt (.idx (.var 1) (.var 4)) (.lit (.int 0))) (.cons (.cmp .isin (.idx (.var 1) (.var 4)) (.var 3)) .nil)) .nil)) (
  (.cons (.exp (.met .append (.var 3) (.cons (.var 4) .nil))) .nil)) ( .nil)) .nil)))
def b__law_open_places : Ss :=
 (.cons (.asg 2 none (.call 0 (.cons (.var 0) (.cons (.lit (.int 4)) .nil))))
 (.cons (.asg 3 (some 1) (.lst .nil))
 (.cons (.for [] (.one 4) (.rng1 (.bi .len (.cons (.var 1) .nil))) l__law_open_places_1)
 (.cons (.retP 3 1) .nil))))
-- calls: _law_draw; np 1, n 1; slots 0:d 1:ups 2:mode 3:found 4:at 5:is_taken

/-! _law_bent_query(d, query): registers d=0, atoms=1 -/
abbrev N__law_bent_query : List Str := ["d", "query", "atoms", "shown", "way", "at", "column", "others", "k", "one"]
def c__law_bent_query_1 : Eo := (.so (.and (.cmp .ne (.var 8) (.var 5)) (.cons (.cmp .isin (.var 6) (.idx (.var 2) (.var 8))) .nil)))
def e__law_bent_query_1 : E := (.var 8)
def c__law_bent_query_2 : Eo := (.so (.cmp .ne (.var 9) (.var 6)))
def e__law_bent_query_2 : E := (.var 9)
def c__law_bent_query_3 : Eo := (.so (.cmp .ne (.var 9) (.var 6)))
def e__law_bent_query_3 : E := (.var 9)
def r__law_bent_query_1 : Ss :=
 (.cons (.iff (.cmp .isin (.var 6) (.var 3)) (
  (.cons (.asg 3 none (.bi .tuple (.cons (.lc (.one 9) [9] (.seq (.var 3)) c__law_bent_query_3 e__law_bent_query_3) .nil))) .nil)) (
  (.cons (.asg 3 none (.bi .tuple (.cons (.bi .sorted (.cons (.bop .add (.var 3) (.tup (.cons (.var 6) .nil))) .nil)) .nil))) .nil))) .nil)
def r__law_bent_query_2 : Ss :=
 (.cons (.iff (.and (.cmp .lt (.var 4) (.lit (.int 2))) (.cons (.cmp .gt (.bi .len (.cons (.idx (.var 2) (.var 5)) .nil)) (.lit (.int 1))) (.cons (.cmp .gt (.bi .len (.cons (.var 7) .nil)) (.lit (.int 0))) .nil))) (
  (.cons (.sto (.var 2) (.var 5) (.bi .tuple (.cons (.lc (.one 9) [9] (.seq (.idx (.var 2) (.var 5))) c__law_bent_query_2 e__law_bent_query_2) .nil))) .nil)) ( r__law_bent_query_1)) .nil)
def b__law_bent_query : Ss :=
 (.cons (.asg 2 (some 1) (.bi .list (.cons (.idx (.var 1) (.lit (.int 2))) .nil)))
 (.cons (.asg 3 none (.idx (.var 1) (.lit (.int 3))))
 (.cons (.asg 4 none (.call 0 (.cons (.var 0) (.cons (.lit (.int 3)) .nil))))
 (.cons (.asg 5 none (.call 0 (.cons (.var 0) (.cons (.bi .len (.cons (.var 2) .nil)) .nil))))
 (.cons (.asg 6 none (.call 0 (.cons (.var 0) (.cons (.idx (.var 1) (.lit (.int 1))) .nil))))
 (.cons (.asg 7 none (.lc (.one 8) [8] (.rng1 (.bi .len (.cons (.var 2) .nil))) c__law_bent_query_1 e__law_bent_query_1))
 (.cons (.iff (.and (.cmp .eq (.var 4) (.lit (.int 0))) (.cons (.cmp .notin (.var 6) (.idx (.var 2) (.var 5))) .nil)) (
  (.cons (.sto (.var 2) (.var 5) (.bi .tuple (.cons (.bi .sorted (.cons (.bop .add (.idx (.var 2) (.var 5)) (.tup (.cons (.var 6) .nil))) .nil)) .nil))) .nil)) ( r__law_bent_query_2))
 (.cons (.ret (.tup (.cons (.lit (.str ("query" : Str))) (.cons (.idx (.var 1) (.lit (.int 1))) (.cons (.bi .tuple (.cons (.var 2) .nil)) (.cons (.var 3) .nil)))))) .nil))))))))
-- calls: _law_draw; np 1, n 1; slots 0:d 1:query 2:atoms 3:shown 4:way 5:at 6:column 7:others 8:k 9:one

/-! _law_apart(query, x, y): registers  -/
abbrev N__law_apart : List Str := ["query", "x", "y", "k"]
def c__law_apart_1 : Eo := (.so (.and (.cmp .isin (.var 1) (.idx (.idx (.var 0) (.lit (.int 2))) (.var 3))) (.cons (.cmp .notin (.var 2) (.idx (.idx (.var 0) (.lit (.int 2))) (.var 3))) .nil)))
def e__law_apart_1 : E := (.var 3)
def b__law_apart : Ss :=
 (.cons (.ret (.lc (.one 3) [3] (.rng1 (.bi .len (.cons (.idx (.var 0) (.lit (.int 2))) .nil))) c__law_apart_1 e__law_apart_1)) .nil)
-- calls: ; np 0, n 0; slots 0:query 1:x 2:y 3:k

/-! _law_together(query, x, y): registers  -/
abbrev N__law_together : List Str := ["query", "x", "y", "k"]
def c__law_together_1 : Eo := (.so (.and (.cmp .isin (.var 1) (.idx (.idx (.var 0) (.lit (.int 2))) (.var 3))) (.cons (.cmp .isin (.var 2) (.idx (.idx (.var 0) (.lit (.int 2))) (.var 3))) .nil)))
def e__law_together_1 : E := (.var 3)
def b__law_together : Ss :=
 (.cons (.ret (.lc (.one 3) [3] (.rng1 (.bi .len (.cons (.idx (.var 0) (.lit (.int 2))) .nil))) c__law_together_1 e__law_together_1)) .nil)
-- calls: ; np 0, n 0; slots 0:query 1:x 2:y 3:k

/-! _law_crossings(query): registers  -/
abbrev N__law_crossings : List Str := ["query", "found", "x", "hidden", "y", "first", "both", "column", "last"]
def e__law_crossings_1 : E := (.tup (.cons (.lit (.str ("cross" : Str))) (.cons (.var 2) (.cons (.var 4) (.cons (.var 5) (.cons (.var 6) (.cons (.var 8) .nil)))))))
def l__law_crossings_1 : Ss :=
 (.cons (.asg 1 none (.bop .add (.var 1) (.lc (.one 8) [8] (.seq (.call 0 (.cons (.var 0) (.cons (.var 4) (.cons (.var 2) .nil))))) .no e__law_crossings_1))) .nil)
def l__law_crossings_2 : Ss :=
 (.cons (.for [] (.one 6) (.seq (.call 1 (.cons (.var 0) (.cons (.var 2) (.cons (.var 4) .nil))))) l__law_crossings_1) .nil)
def l__law_crossings_3 : Ss :=
 (.cons (.for [] (.one 5) (.seq (.call 0 (.cons (.var 0) (.cons (.var 2) (.cons (.var 4) .nil))))) l__law_crossings_2) .nil)
def l__law_crossings_4 : Ss :=
 (.cons (.for [] (.one 4) (.rng2 (.bop .add (.var 2) (.lit (.int 1))) (.idx (.var 0) (.lit (.int 1)))) l__law_crossings_3) .nil)
def c__law_crossings_1 : Eo := (.so (.cmp .notin (.var 7) (.idx (.var 0) (.lit (.int 3)))))
def e__law_crossings_2 : E := (.var 7)
def e__law_crossings_3 : E := (.tup (.cons (.lit (.str ("under" : Str))) (.cons (.var 2) (.cons (.var 4) (.cons (.var 6) (.cons (.var 8) .nil))))))
def l__law_crossings_5 : Ss :=
 (.cons (.asg 1 none (.bop .add (.var 1) (.lc (.one 8) [8] (.seq (.call 0 (.cons (.var 0) (.cons (.var 4) (.cons (.var 2) .nil))))) .no e__law_crossings_3))) .nil)
def l__law_crossings_6 : Ss :=
 (.cons (.for [] (.one 6) (.seq (.call 1 (.cons (.var 0) (.cons (.var 2) (.cons (.var 4) .nil))))) l__law_crossings_5) .nil)
def l__law_crossings_7 : Ss :=
 (.cons (.for [] (.one 4) (.seq (.var 3)) l__law_crossings_6) .nil)
def b__law_crossings : Ss :=
 (.cons (.asg 1 none (.lst .nil))
 (.cons (.for [] (.one 2) (.rng1 (.idx (.var 0) (.lit (.int 1)))) l__law_crossings_4)
 (.cons (.asg 3 none (.lc (.one 7) [7] (.rng1 (.idx (.var 0) (.lit (.int 1)))) c__law_crossings_1 e__law_crossings_2))
 (.cons (.for [] (.one 2) (.seq (.idx (.var 0) (.lit (.int 3)))) l__law_crossings_7)
 (.cons (.ret (.var 1)) .nil)))))
-- calls: _law_apart, _law_together; np 0, n 0; slots 0:query 1:found 2:x 3:hidden 4:y 5:first 6:both 7:column 8:last

/-! _law_says(told, due): registers  -/
abbrev N__law_says : List Str := ["told", "due"]
def b__law_says : Ss :=
 (.cons (.ret (.and (.bi (.isi "bool") (.cons (.var 0) .nil)) (.cons (.cmp .eq (.var 0) (.var 1)) .nil))) .nil)
-- calls: ; np 0, n 0; slots 0:told 1:due

-- constants: {}; not covered 0

local macro_rules | `(tactic| decreasing_trivial) => `(tactic| try simp only [wSs, wS, wE, wEs, wEo, wCond, wSrc, wAnd, wOr, Bool.false_eq_true, if_false, Bool.not_true, Bool.not_false, asT, onView_dat, onD_dat, fz_dat, fz_ptr, fz_fr, settled_dat, settled_ptr,  List.getElem?_cons_zero, List.getElem?_cons_succ, List.set_cons_zero, List.set_cons_succ, List.length_cons, List.length_nil, Nat.reduceAdd, Option.some.injEq, exists_eq_left', true_and, and_true, if_true, decide_eq_true_eq, Int.reduceToNat, Int.reducePow, Int.reduceLE, Int.reduceLT, Int.reduceMul, Int.reduceAdd, Int.reduceSub, Int.reduceNeg, Nat.reduceLT, Nat.reduceLeDiff, Nat.reduceMul, Nat.reducePow, Int.reduceAbs, Nat.reduceSub, List.map, List.replicate, List.cons_append, List.nil_append, List.append_nil, regsOf, renum, List.nodup_nil, r_add, r_adds, r_addt, r_addl, r_sub, r_mul, r_mull, r_mult, r_fdiv, r_mod, r_pow, r_band, r_bor, r_bxor, r_shl, r_shr, r_lt, r_le, r_gt, r_ge, r_lts, r_eq, r_ne, r_isin, r_notin, r_isin_list, r_isin_tuple, r_notin_list, r_notin_tuple, r_isnone, r_notnone, r_ixl, r_ixt, r_ixs, r_sll, r_slt, r_sls, r_len, r_int, r_intb, r_abs, r_min2, r_max2, r_sum, r_min1, r_max1, r_all, r_any, r_list, r_listt, r_tup, r_tupt, r_rl1, r_rl2, r_rt1, r_rt2, r_sort, r_sortt, r_isi, r_lenl, r_lent, r_lens, r_augi, r_augs, r_bitl, r_split, r_wtg, r_wtgm, r_at0, r_at1, r_at2, r_at3, r_at4, r_at5, r_ix1_0, r_ix2_0, r_ix2_1, r_ix3_0, r_ix3_1, r_ix3_2, r_ix4_0, r_ix4_1, r_ix4_2, r_ix4_3, r_ix5_0, r_ix5_1, r_ix5_2, r_ix5_3, r_ix5_4, r_v0, r_lenp0, r_typ0, r_app0, r_pop0, r_popAt0, r_ext0, r_outs0, r_v1, r_lenp1, r_typ1, r_app1, r_pop1, r_popAt1, r_ext1, r_outs1, r_v2, r_lenp2, r_typ2, r_app2, r_pop2, r_popAt2, r_ext2, r_outs2, r_v3, r_lenp3, r_typ3, r_app3, r_pop3, r_popAt3, r_ext3, r_outs3, r_tyd, r_mapp, r_mpop, r_mpopAt, r_mext, r_midxl, r_midxt, r_mspl, r_mbit, r_npd, r_npf, r_ty_int, r_ty_str, r_ty_list, r_ty_tuple, r_ty_bool, r_ixli, r_ixti, r_asgd, r_asgp, r_asgf, r_asgn, r_clr0, r_clr1, r_clr2, r_clr3, r_sto0, r_ag0, r_sto1, r_ag1, r_sto2, r_ag2, r_sto3, r_ag3, r_c0, r_c1, r_c2, r_c3, r_c4, r_c5, r_c6, r_c7, r_c8, r_c9, r_c10, r_c11, r_put1, r_put0, r_ptuple0, r_plist0, r_psum0, r_pmin10, r_pmax10, r_pall0, r_pany0, r_psorted0, r_ptuple1, r_plist1, r_psum1, r_pmin11, r_pmax11, r_pall1, r_pany1, r_psorted1, r_ptuple2, r_plist2, r_psum2, r_pmin12, r_pmax12, r_pall2, r_pany2, r_psorted2, r_ptuple3, r_plist3, r_psum3, r_pmin13, r_pmax13, r_pall3, r_pany3, r_psorted3, r_stab, r_wipe0, r_wipe1, stepLc, r_putc, frz1, reduceCtorEq, Nat.reduceEqDiff, reduceIte, r_clrD, r_frzD, setMany, r_sumt, r_min1t, r_max1t, r_ex0, r_exc, r_sz0, r_sz1, r_sz2, r_sz3, r_sz4, r_sz5, r_sz6, r_sz7, r_sz8, r_sz9, r_sz10, r_sz11, r_sz12, r_sz13, r_sz14, r_sz15, r_sz16, r_sz17, r_sz18, r_sz19, r_sz20, eqv_int, eqv_bool, r_depi, r_depb, true_or, or_true, Bool.not_eq_true', decide_eq_false_iff_not, not_true_eq_false, not_false_eq_true, List.not_mem_nil, false_implies, implies_true, qD, callN, r_szl0, r_szl1, r_szl2, r_szl3, r_szl4, r_szl5, r_szl6, r_szl7, r_szl8, r_szl9, r_szl10, r_szl11, r_szl12, r_szl13, r_szl14, r_szl15, r_szl16, r_szl17, r_szl18, r_szl19, r_szl20, r_szl21, r_szl22, r_szl23, r_szl24, r_szl25, r_szl26, r_szl27, r_szl28, r_szl29, r_szl30, r_szl31, r_szl32, r_szl33, r_szl34, r_szl35, r_szl36, r_szl37, r_szl38, r_szl39, r_szl40, r_isb, r_nisb, r_cut1, r_cut3, r_deps, eqv_str, eq_self, Int.reduceEq, Int.cast_ofNat_Int, decide_true, decide_false])
/-! ## sorted whole numbers, lists of them -/
def sI (ns : List Int) : List Int := ns.mergeSort fun a b => decide (a ≤ b)
theorem le_dataI (a b : Int) : PySem.W.dataLe false id (PyData.int a) (PyData.int b) = decide (a ≤ b) := by
  unfold PySem.W.dataLe PySem.W.sortLe
  simp [PySem.W.keyToks, PyProof.Rows.lexLt, PyProof.Rows.itemLt]
  by_cases h : a ≤ b
  · rw [decide_eq_true h]; simp; omega
  · rw [decide_eq_false h]; simp; omega
theorem sort_iD (ns : List Int) : (iD ns).mergeSort (PySem.W.dataLe false id) = iD (sI ns) := (List.map_mergeSort fun a _ b _ => (le_dataI a b).symm).symm
theorem sI_perm (ns : List Int) : (sI ns).Perm ns := List.mergeSort_perm ..
theorem sI_up (ns : List Int) : (sI ns).Pairwise (· ≤ ·) := (List.pairwise_mergeSort (le := fun a b : Int => decide (a ≤ b)) (fun a b c h1 h2 => by simp only [decide_eq_true_eq] at *; omega) (fun a b => by simp only [Bool.or_eq_true, decide_eq_true_eq]; omega) ns).imp fun h => of_decide_eq_true h
theorem sI_eq {a b : List Int} (h : a.Perm b) : sI a = sI b := List.Perm.eq_of_pairwise (le := (· ≤ ·)) (fun x y _ _ h1 h2 => by omega) (sI_up a) (sI_up b) ((sI_perm a).trans (h.trans (sI_perm b).symm))
theorem sI_nil {a : List Int} : sI a = [] ↔ a = [] := ⟨fun h => by
  have := sI_perm a
  rw [h] at this
  exact this.symm.eq_nil, fun h => by subst h; exact List.length_eq_zero_iff.mp (by rw [(sI_perm []).length_eq]; rfl)⟩
theorem mem_sI {a : List Int} {x : Int} : x ∈ sI a ↔ x ∈ a := (sI_perm a).mem_iff
theorem len_sI (a : List Int) : (sI a).length = a.length := (sI_perm a).length_eq
theorem srt_ok (ns : List Int) : PySem.W.AllAlike (iD ns) ∧ PySem.W.Sortable (iD ns) ∧ ∀ d ∈ iD ns, d.depth ≤ 50 := (srt ns).1
theorem eqv_lists (a b : List Int) : PyData.eqv (.list (iD a)) (.list (iD b)) = decide (a = b) := by
  rw [PyData.eqv, eqvAll_ints]
theorem eqv_tups (a b : List Int) : PyData.eqv (.tuple (iD a)) (.tuple (iD b)) = decide (a = b) := by
  rw [PyData.eqv, eqvAll_ints]
theorem any_map {α β : Type} (f : α → β) (p : β → Bool) (l : List α) : (l.map f).any p = l.any fun a => p (f a) := by rw [List.any_map]; rfl
theorem any_eq {α : Type} [DecidableEq α] (l : List α) (a : α) [Decidable (a ∈ l)] : (l.any fun y => decide (y = a)) = decide (a ∈ l) := by
  rw [Bool.eq_iff_iff, List.any_eq_true]
  simp only [decide_eq_true_eq]
  exact ⟨fun ⟨x, h, e⟩ => e ▸ h, fun h => ⟨a, h, rfl⟩⟩
theorem in_lists (ws : List (List Int)) (a : List Int) : ((lD ws).any fun y => PyData.eqv y (.list (iD a))) = decide (a ∈ ws) := by
  rw [← any_eq ws a]
  unfold lD
  rw [any_map]
  simp only [eqv_lists]
theorem in_tups (ws : List (List Int)) (a : List Int) : ((tD ws).any fun y => PyData.eqv y (.tuple (iD a))) = decide (a ∈ ws) := by
  rw [← any_eq ws a]
  unfold tD
  rw [any_map]
  simp only [eqv_tups]
theorem dep_tI (a : List Int) : (PyData.tuple (iD a)).depth ≤ 60 := by have := dep_tup (dep_ints a); omega
theorem dep_lI (a : List Int) : (PyData.list (iD a)).depth ≤ 60 := by
  rw [PyData.depth]
  have := depthAll_le (dep_ints a)
  omega
theorem fm_some {α β : Type} (g : α → β) (ys : List α) : (ys.filterMap fun y => some (g y)) = ys.map g := by
  induction ys with
  | nil => rfl
  | cons y ys ih => rw [List.filterMap_cons, List.map_cons, ih]
theorem map_bool {α : Type} (p : α → Bool) (ys : List α) : (ys.map fun y => PyData.bool (p y)) = (ys.map p).map PyData.bool := by rw [List.map_map]; rfl
theorem all_id {α : Type} (p : α → Bool) (ys : List α) : (ys.map p).all id = ys.all p := by rw [List.all_map]; rfl
theorem chn_b {p q : Prop} [Decidable p] [Decidable q] {K : Bool → Prop} (h : K (decide (p ∧ q))) : if p then K (decide q) else K false := by
  by_cases hp : p
  · rw [if_pos hp]
    simpa only [hp, true_and] using h
  · rw [if_neg hp]
    simpa only [hp, false_and, decide_false] using h
theorem b_ite {b : Bool} {K : Bool → Prop} (h : K b) : if b = true then K true else K false := by
  cases b <;> exact h
theorem and_b {p : Bool} {q : Bool} {K : Bool → Prop} (h : K (p && q)) : if p = true then K q else K false := by
  cases p <;> exact h
theorem or_b {p : Bool} {q : Bool} {K : Bool → Prop} (h : K (p || q)) : if p = true then K true else K q := by
  cases p <;> exact h
theorem orp_b {p : Prop} [Decidable p] {q : Bool} {K : Bool → Prop} (h : K (decide p || q)) : if p then K true else K q := by
  by_cases hp : p
  · rw [if_pos hp]; rw [decide_eq_true hp] at h; exact h
  · rw [if_neg hp]; rw [decide_eq_false hp] at h; exact h
theorem andp_b {p : Prop} [Decidable p] {q : Bool} {K : Bool → Prop} (h : K (decide p && q)) : if p then K q else K false := by
  by_cases hp : p
  · rw [if_pos hp]; rw [decide_eq_true hp] at h; exact h
  · rw [if_neg hp]; rw [decide_eq_false hp] at h; exact h
theorem rI_map (m : Nat) : rangeD 0 m = (rI m).map PyData.int := rng_rI m
/-! ## queries that hide columns -/
def qS (m : Nat) (as : List (List Int)) (sh : List Int) : D := .tuple [.str ("query" : Str), .int (m : Nat), .tuple (tD as), .tuple (iD sh)]
structure QS (m : Nat) (as : List (List Int)) (sh : List Int) : Prop where
  few : m ≤ 100
  fewa : as.length ≤ 70
  cols : ∀ a ∈ as, Cols m a
  shown : Cols m sh
def spShown : PSpec := fun vs obs Q => ∃ (m : Nat) (as : List (List Int)) (o : Ob), vs = [.ptr 0, .dat (qD m as)] ∧ obs = [o] ∧ Std o ∧ ∀ (sh : List Int) (o' : Ob), Cols m sh → sh.Sublist (rI m) → Std o' → Q (.dat (qS m as sh)) [o']
theorem rd_shown {vs : List Vl} {obs : List Ob} {Q : Vl → List Ob → Prop} (h : spShown vs obs Q) : vs.length = 2 ∧ obs.length = 1 ∧ wFn [("_law_draw", spDraw), ("_law_some", spSome)] b__law_shown 4 0 vs obs Q := by
  obtain ⟨m, as, o, rfl, rfl, hs, k⟩ := h
  refine ⟨rfl, rfl, wFn_of rfl ?_⟩
  unfold b__law_shown
  decreasing_trivial
  refine draw_w rfl hs (by omega) (by omega) fun r o1 r0 r1 hs1 => ?_
  decreasing_trivial
  refine ite_i (fun _ => ?_) fun _ => ite_i (fun _ => ?_) fun _ => ?_
  · exact k [] o1 (Cols.nil m) (List.nil_sublist _) hs1
  · refine call_r rfl rfl rfl ⟨_, _, .inl rfl, rfl, hs1, fun es o2 hsub hs2 => ⟨rfl, trivial, ?_⟩⟩
    obtain ⟨bs, rfl, hb⟩ := sub_map hsub (as := rI m) rfl
    decreasing_trivial
    exact k bs o2 ((cols_rI m).sub hb) hb hs2
  · exact k (rI m) o1 (cols_rI m) (List.Sublist.refl _) hs1
/-! ## nests: the way up -/
def upW (ps : List Int) : Nat → Int → Option (List Int)
  | 0, _ => none
  | n + 1, c => if nth ps c < 0 then some [c] else (upW ps n (nth ps c)).map (c :: ·)
def wy (ps : List Int) (m : Nat) (c : Int) : List Int := (upW ps m c).getD []
structure PsOk (m : Nat) (ps : List Int) : Prop where
  len : ps.length = m
  rg : ∀ p ∈ ps, -1 ≤ p ∧ p < (m : Int)
theorem PsOk.at {m : Nat} {ps : List Int} (h : PsOk m ps) {c : Int} (h0 : 0 ≤ c) (h1 : c < m) : atI (iD ps) c = some (.int (nth ps c)) ∧ -1 ≤ nth ps c ∧ nth ps c < (m : Int) := by
  have := h.len
  exact ⟨at_nth h0 (by omega), h.rg _ (nth_mem h0 (by omega))⟩
theorem up_len {ps : List Int} : ∀ {n : Nat} {c : Int} {l : List Int}, upW ps n c = some l → l.length ≤ n
  | 0, _, _, h => nomatch h
  | n + 1, c, l, h => by
    unfold upW at h
    split at h
    · cases h; simp
    · cases e : upW ps n (nth ps c) with
      | none => rw [e] at h; cases h
      | some l' =>
        rw [e] at h
        cases h
        have := up_len e
        simp
        omega
def spWayDown : PSpec := fun vs obs Q => ∃ (m : Nat) (ps : List Int) (c : Int), vs = [.dat (.tuple (iD ps)), .dat (.int c)] ∧ obs = [] ∧ PsOk m ps ∧ m ≤ 100 ∧ 0 ≤ c ∧ c < m ∧ Q (.dat (.tuple (iD (wy ps m c).reverse))) []
theorem rd_waydown {vs : List Vl} {obs : List Ob} {Q : Vl → List Ob → Prop} (h : spWayDown vs obs Q) : vs.length = 2 ∧ obs.length = 0 ∧ wFn [] b_way_down 5 1 vs obs Q := by
  obtain ⟨m, ps, c, rfl, rfl, hp, hm, c0, c1, k⟩ := h
  have hl := hp.len
  refine ⟨rfl, rfl, wFn_of rfl ?_⟩
  unfold b_way_down
  decreasing_trivial
  rw [len_iD]
  refine ⟨by unfold sizeLine; omega, by omega, ?_⟩
  rw [Int.toNat_natCast, hl]
  refine for_rng0 (fun j ρ η => ∃ (f : List Int) (p : Int) (x : Option D), ρ = [some (.dat (.tuple (iD ps))), some (.dat (.int c)), some (.ptr 0), some (.dat (.int p)), sd x] ∧ η = [some (.lst (iD f))] ∧ 0 ≤ p ∧ p < m ∧ f.length = j ∧ upW ps m c = (upW ps (m - j) p).map (f ++ ·)) _ ?_ ?_ ⟨[], c, none, rfl, rfl, c0, c1, rfl, by simp⟩
  · rintro j ρ η N hj ⟨f, p, x, rfl, rfl, p0, p1, hf, he⟩ go
    obtain ⟨a1, a2, a3⟩ := hp.at p0 p1
    unfold l_way_down_1
    decreasing_trivial
    refine ⟨by rw [len_iD]; unfold sizeLine; omega, _, a1, ?_⟩
    decreasing_trivial
    rw [show m - j = (m - (j + 1)) + 1 by omega] at he
    rw [upW] at he
    rw [iD_add]
    refine ite_i (fun hn => ?_) fun hn => ?_
    · rw [if_pos hn] at he
      decreasing_trivial
      unfold wy at k
      rw [he] at k
      rw [show (iD (f ++ [p])).reverse = iD (f ++ [p]).reverse from (List.map_reverse ..).symm]
      exact k
    · rw [if_neg hn] at he
      refine go _ _ ⟨f ++ [p], nth ps p, some _, rfl, rfl, by omega, a3, by rw [List.length_append, List.length_singleton, hf], ?_⟩
      rw [he, Option.map_map]
      congr 1
      funext l
      simp
  · rintro ρ η ⟨f, p, x, rfl, rfl, p0, p1, hf, he⟩
    rw [Nat.sub_self] at he
    unfold wy at k
    rw [he] at k
    decreasing_trivial
    exact k
/-- a right nest -/
def jN (m : Nat) (as : List (List Int)) (sh ps : List Int) : Bool := decide (ps.length = m) && ((ps.all fun p => decide (-1 ≤ p ∧ p < (m : Int))) && (((rI m).all fun c => decide (0 < (wy ps m c).length)) && ((as.all fun a => decide (a ∈ (rI m).map fun c => sI (wy ps m c))) && sh.all fun c => decide (nth ps c < 0) || decide (nth ps c ∈ sh))))
theorem jN_len {m : Nat} {as : List (List Int)} {sh ps : List Int} (h : ps.length ≠ m) : jN m as sh ps = false := by unfold jN; rw [decide_eq_false h]; rfl
def spJN : PSpec := fun vs obs Q => ∃ (m : Nat) (as : List (List Int)) (sh ps : List Int), vs = [.dat (qS m as sh), .dat (.tuple (iD ps))] ∧ obs = [] ∧ QS m as sh ∧ Q (.dat (.bool (jN m as sh ps))) []
theorem rd_judgen {vs : List Vl} {obs : List Ob} {Q : Vl → List Ob → Prop} (h : spJN vs obs Q) : vs.length = 2 ∧ obs.length = 0 ∧ wFn [("way_down", spWayDown)] b_judge_nested 8 0 vs obs Q := by
  obtain ⟨m, as, sh, ps, rfl, rfl, hq, k⟩ := h
  have hm := hq.few
  refine ⟨rfl, rfl, wFn_of rfl ?_⟩
  unfold b_judge_nested qS
  decreasing_trivial
  rw [len_iD]
  refine ite_i (fun hl => ?_) fun hl => ?_
  · rw [jN_len (by omega)] at k
    exact k
  have hl : ps.length = m := by omega
  refine lc_map PyData.int (fun p => some (.bool (decide (-1 ≤ p ∧ p < (m : Int))))) trivial ps (fun p hp K hK => ?_) ?_
  · unfold e_judge_nested_1
    decreasing_trivial
    exact chn_b (K := fun b => K (some (.bool b)) _) hK
  rw [fm_some, map_bool]
  decreasing_trivial
  refine ⟨_, rfl, ?_⟩
  rw [all_id]
  unfold jN at k
  rw [decide_eq_true hl, Bool.true_and] at k
  refine ite_i (fun hA => ?_) fun hA => ?_
  · rw [hA, Bool.false_and] at k
    exact k
  rw [Bool.not_eq_false] at hA
  rw [hA, Bool.true_and] at k
  have hp : PsOk m ps := ⟨hl, fun p hp => by
    have := List.all_eq_true.mp hA p hp
    exact of_decide_eq_true this⟩
  refine ⟨by unfold sizeLine; omega, by omega, ?_⟩
  rw [Int.toNat_natCast, rI_map]
  refine lc_map PyData.int (fun c => some (.tuple (iD (wy ps m c).reverse))) trivial (rI m) (fun c hc K hK => ?_) ?_
  · have hb := mem_rI.mp hc
    unfold e_judge_nested_2
    decreasing_trivial
    exact call_0 rfl rfl ⟨m, ps, c, rfl, rfl, hp, hm, hb.1, hb.2, rfl, trivial, hK⟩
  rw [fm_some]
  refine lc_map (fun c => .tuple (iD (wy ps m c).reverse)) (fun c => some (.bool (decide (0 < (wy ps m c).length)))) trivial (rI m) (fun c hc K hK => ?_) ?_
  · unfold e_judge_nested_3
    decreasing_trivial
    rw [len_iD, List.length_reverse]
    rw [show decide (0 < ((wy ps m c).length : Int)) = decide (0 < (wy ps m c).length) by rw [decide_eq_decide]; omega]
    exact hK
  rw [fm_some, map_bool]
  refine ⟨_, rfl, ?_⟩
  rw [all_id]
  refine ite_i (fun hA => ?_) fun hA => ?_
  · rw [hA, Bool.false_and] at k
    exact k
  rw [Bool.not_eq_false] at hA
  rw [hA, Bool.true_and] at k
  refine lc_map (fun c => .tuple (iD (wy ps m c).reverse)) (fun c => some (.tuple (iD (sI (wy ps m c))))) trivial (rI m) (fun c hc K hK => ?_) ?_
  · unfold e_judge_nested_4
    decreasing_trivial
    refine ⟨srt_ok _, ?_⟩
    rw [sort_iD, sI_eq (List.reverse_perm _)]
    decreasing_trivial
    exact hK
  rw [fm_some, show ((rI m).map fun c => PyData.tuple (iD (sI (wy ps m c)))) = tD ((rI m).map fun c => sI (wy ps m c)) by unfold tD; rw [List.map_map]; rfl]
  refine lc_map (fun a => .tuple (iD a)) (fun a => some (.bool (decide (a ∈ (rI m).map fun c => sI (wy ps m c))))) trivial as (fun a ha K hK => ?_) ?_
  · unfold e_judge_nested_5
    decreasing_trivial
    refine ⟨.inr (dep_tI a), ?_⟩
    rw [in_tups]
    exact hK
  rw [fm_some, map_bool]
  refine ⟨_, rfl, ?_⟩
  rw [all_id]
  refine ite_i (fun hA => ?_) fun hA => ?_
  · rw [hA, Bool.false_and] at k
    exact k
  rw [Bool.not_eq_false] at hA
  rw [hA, Bool.true_and] at k
  refine lc_map PyData.int (fun c => some (.bool (decide (nth ps c < 0) || decide (nth ps c ∈ sh)))) trivial sh (fun c hc K hK => ?_) ?_
  · have hb := hq.shown.2 c hc
    obtain ⟨a1, _, _⟩ := hp.at hb.1 hb.2
    unfold e_judge_nested_6
    decreasing_trivial
    refine ⟨_, a1, ?_⟩
    decreasing_trivial
    refine ite_i (fun h => by rw [decide_eq_true h, Bool.true_or] at hK; exact hK) fun h => ?_
    rw [decide_eq_false h, Bool.false_or] at hK
    refine ⟨_, a1, ?_⟩
    decreasing_trivial
    rw [eqv_mem]
    exact b_ite (K := fun b => K (some (.bool b)) _) hK
  rw [fm_some, map_bool]
  refine ⟨_, rfl, ?_⟩
  rw [all_id]
  exact k

/-! ## crossings -/
def hasB (as : List (List Int)) (k x y : Int) : Bool := decide (0 ≤ k) && (decide (k < (as.length : Int)) && (decide (x ∈ as.getD k.toNat []) && decide (y ∈ as.getD k.toNat [])))
def hasF (as : List (List Int)) (k x y : Int) : Bool := decide (0 ≤ k) && (decide (k < (as.length : Int)) && (decide (x ∈ as.getD k.toNat []) && !decide (y ∈ as.getD k.toNat [])))
theorem fk {Q : Vl → List Ob → Prop} {os : List Ob} {b c : Bool} (h : Q (.dat (.bool b)) os) (e : b = c) : Q (.dat (.bool c)) os := e ▸ h
theorem at_tD {as : List (List Int)} {k : Int} (h0 : 0 ≤ k) (h1 : k < (as.length : Int)) : atI (tD as) k = some (.tuple (iD (as.getD k.toNat []))) := by
  obtain ⟨j, rfl⟩ := nat_of h0
  have hj : j < as.length := by omega
  rw [Int.toNat_natCast, List.getD_eq_getElem?_getD, List.getElem?_eq_getElem hj]
  exact atI_nat (by unfold tD; rw [List.getElem?_map, List.getElem?_eq_getElem hj]; rfl)
def spHas (f : List (List Int) → Int → Int → Int → Bool) : PSpec := fun vs obs Q => ∃ (m : Nat) (as : List (List Int)) (sh : List Int) (k x y : Int), vs = [.dat (qS m as sh), .dat (.int k), .dat (.int x), .dat (.int y)] ∧ obs = [] ∧ Q (.dat (.bool (f as k x y))) []
theorem rd_hasb {vs : List Vl} {obs : List Ob} {Q : Vl → List Ob → Prop} (h : spHas hasB vs obs Q) : vs.length = 4 ∧ obs.length = 0 ∧ wFn [] b_has_both 4 0 vs obs Q := by
  obtain ⟨m, as, sh, k, x, y, rfl, rfl, kk⟩ := h
  refine ⟨rfl, rfl, wFn_of rfl ?_⟩
  unfold b_has_both qS
  unfold hasB at kk
  decreasing_trivial
  rw [len_tD]
  refine ite_i (fun h0 => ?_) fun h0 => by rw [decide_eq_false h0] at kk; exact kk
  refine ite_i (fun h1 => ?_) fun h1 => by rw [decide_eq_false h1, Bool.false_and, Bool.and_false] at kk; exact kk
  rw [decide_eq_true h0, decide_eq_true h1, Bool.true_and, Bool.true_and] at kk
  refine ⟨_, at_tD h0 h1, ?_⟩
  decreasing_trivial
  rw [eqv_mem]
  refine ite_dec (fun h2 => ?_) fun h2 => by rw [decide_eq_false h2] at kk; exact kk
  rw [decide_eq_true h2, Bool.true_and] at kk
  refine ⟨_, at_tD h0 h1, ?_⟩
  decreasing_trivial
  rw [eqv_mem]
  exact b_ite (K := fun b => Q (.dat (.bool b)) []) kk
theorem rd_hasf {vs : List Vl} {obs : List Ob} {Q : Vl → List Ob → Prop} (h : spHas hasF vs obs Q) : vs.length = 4 ∧ obs.length = 0 ∧ wFn [] b_has_first 4 0 vs obs Q := by
  obtain ⟨m, as, sh, k, x, y, rfl, rfl, kk⟩ := h
  refine ⟨rfl, rfl, wFn_of rfl ?_⟩
  unfold b_has_first qS
  unfold hasF at kk
  decreasing_trivial
  rw [len_tD]
  refine ite_i (fun h0 => ?_) fun h0 => by rw [decide_eq_false h0] at kk; exact kk
  refine ite_i (fun h1 => ?_) fun h1 => by rw [decide_eq_false h1, Bool.false_and, Bool.and_false] at kk; exact kk
  rw [decide_eq_true h0, decide_eq_true h1, Bool.true_and, Bool.true_and] at kk
  refine ⟨_, at_tD h0 h1, ?_⟩
  decreasing_trivial
  rw [eqv_mem]
  refine ite_dec (fun h2 => ?_) fun h2 => by rw [decide_eq_false h2] at kk; exact kk
  rw [decide_eq_true h2, Bool.true_and] at kk
  refine ⟨_, at_tD h0 h1, ?_⟩
  decreasing_trivial
  rw [eqv_mem]
  refine ite_i (fun h3 => ?_) fun h3 => ?_
  · rw [h3] at kk; exact kk
  · rw [Bool.not_eq_false] at h3; rw [h3] at kk; exact kk
def crD (x y f b l : Int) : D := .tuple [.str ("cross" : Str), .int x, .int y, .int f, .int b, .int l]
def unD (x y b l : Int) : D := .tuple [.str ("under" : Str), .int x, .int y, .int b, .int l]
def jC (m : Nat) (as : List (List Int)) (x y f b l : Int) : Bool := decide (0 ≤ x ∧ x < y ∧ y < (m : Int)) && (hasF as f x y && (hasB as b x y && hasF as l y x))
def jU (m : Nat) (as : List (List Int)) (sh : List Int) (x y b l : Int) : Bool := decide (x ∈ sh) && (decide (0 ≤ y ∧ y < (m : Int)) && (!decide (y ∈ sh) && (hasB as b x y && hasF as l y x)))
def spJC : PSpec := fun vs obs Q => ∃ (m : Nat) (as : List (List Int)) (sh : List Int) (p : D) (r : Bool), vs = [.dat (qS m as sh), .dat p] ∧ obs = [] ∧ ((∃ x y f b l, p = crD x y f b l ∧ r = jC m as x y f b l) ∨ ∃ x y b l, p = unD x y b l ∧ r = jU m as sh x y b l) ∧ Q (.dat (.bool r)) []
theorem rd_judgec {vs : List Vl} {obs : List Ob} {Q : Vl → List Ob → Prop} (h : spJC vs obs Q) : vs.length = 2 ∧ obs.length = 0 ∧ wFn [("has_first", spHas hasF), ("has_both", spHas hasB)] b_judge_crossing 7 0 vs obs Q := by
  obtain ⟨m, as, sh, p, r, rfl, rfl, ⟨x, y, f, b, l, rfl, rfl⟩ | ⟨x, y, b, l, rfl, rfl⟩, kk⟩ := h
  · refine ⟨rfl, rfl, wFn_of rfl ?_⟩
    unfold b_judge_crossing qS crD
    unfold jC at kk
    decreasing_trivial
    refine ite_i (fun h0 => ?_) fun h0 => fk kk (by simp [h0])
    refine ite_i (fun h1 => ?_) fun h1 => fk kk (by simp [h1])
    refine ite_i (fun h2 => fk kk (by simp [h2])) fun h2 => ?_
    refine call_0 rfl rfl ⟨m, as, sh, f, x, y, rfl, rfl, rfl, trivial, ?_⟩
    decreasing_trivial
    refine ite_i (fun h3 => fk kk (by simp [h3])) fun h3 => ?_
    refine call_0 rfl rfl ⟨m, as, sh, b, x, y, rfl, rfl, rfl, trivial, ?_⟩
    decreasing_trivial
    refine ite_i (fun h4 => ?_) fun h4 => fk kk (by simp [h4])
    refine call_0 rfl rfl ⟨m, as, sh, l, y, x, rfl, rfl, rfl, trivial, ?_⟩
    decreasing_trivial
    refine b_ite (K := fun b => Q (.dat (.bool b)) []) (fk kk ?_)
    simp at h2 h3
    simp [h0, h1, h2, h3, h4]
  · refine ⟨rfl, rfl, wFn_of rfl ?_⟩
    unfold b_judge_crossing qS unD
    unfold jU at kk
    decreasing_trivial
    rw [eqv_mem, eqv_mem]
    refine ite_i (fun h0 => fk kk (by simp at h0; simp [h0])) fun h0 => ?_
    refine ite_i (fun h1 => ?_) fun h1 => fk kk (by simp [h1])
    refine ite_i (fun h2 => fk kk (by simp [h2])) fun h2 => ?_
    refine ite_i (fun h3 => fk kk (by simp at h3; simp [h3])) fun h3 => ?_
    refine call_0 rfl rfl ⟨m, as, sh, b, x, y, rfl, rfl, rfl, trivial, ?_⟩
    decreasing_trivial
    refine ite_i (fun h4 => ?_) fun h4 => fk kk (by simp [h4])
    refine call_0 rfl rfl ⟨m, as, sh, l, y, x, rfl, rfl, rfl, trivial, ?_⟩
    decreasing_trivial
    refine b_ite (K := fun b => Q (.dat (.bool b)) []) (fk kk ?_)
    simp at h0 h2 h3
    simp [h0, h1, h2, h3, h4]
/-! ## where two columns meet -/
def apL (as : List (List Int)) (x y : Int) : List Int := (rI as.length).filter fun k => hasF as k x y
def toL (as : List (List Int)) (x y : Int) : List Int := (rI as.length).filter fun k => hasB as k x y
def spWhere (g : List (List Int) → Int → Int → List Int) : PSpec := fun vs obs Q => ∃ (m : Nat) (as : List (List Int)) (sh : List Int) (x y : Int), vs = [.dat (qS m as sh), .dat (.int x), .dat (.int y)] ∧ obs = [] ∧ as.length ≤ 70 ∧ Q (.fr (.lst (iD (g as x y)))) []
theorem fm_ints (p : Int → Bool) (l : List Int) : (l.filterMap fun c => if p c = true then some (PyData.int c) else none) = iD (l.filter p) := by
  induction l with
  | nil => rfl
  | cons c l ih =>
    rw [List.filterMap_cons, List.filter_cons, ih]
    by_cases e : p c = true
    · rw [if_pos e, if_pos e]; rfl
    · rw [if_neg e, if_neg e]
theorem rd_apart {vs : List Vl} {obs : List Ob} {Q : Vl → List Ob → Prop} (h : spWhere apL vs obs Q) : vs.length = 3 ∧ obs.length = 0 ∧ wFn [] b__law_apart 4 0 vs obs Q := by
  obtain ⟨m, as, sh, x, y, rfl, rfl, hl, kk⟩ := h
  refine ⟨rfl, rfl, wFn_of rfl ?_⟩
  unfold b__law_apart qS
  decreasing_trivial
  rw [len_tD]
  refine ⟨by unfold sizeLine; omega, by omega, ?_⟩
  rw [Int.toNat_natCast, rI_map]
  refine lc_map PyData.int (fun k => if hasF as k x y = true then some (.int k) else none) trivial _ (fun k hk K hK => ?_) ?_
  · have hb := mem_rI.mp hk
    unfold c__law_apart_1 e__law_apart_1
    unfold hasF at hK
    rw [decide_eq_true hb.1, decide_eq_true hb.2, Bool.true_and, Bool.true_and] at hK
    decreasing_trivial
    refine ⟨_, at_tD hb.1 hb.2, ?_⟩
    decreasing_trivial
    rw [eqv_mem]
    refine ite_dec (fun h2 => ?_) fun h2 => by rw [decide_eq_false h2] at hK; exact hK
    rw [decide_eq_true h2, Bool.true_and] at hK
    refine ⟨_, at_tD hb.1 hb.2, ?_⟩
    decreasing_trivial
    rw [eqv_mem]
    refine ite_i (fun h3 => ?_) fun h3 => ?_
    · rw [h3] at hK; exact hK
    · rw [Bool.not_eq_false] at h3; rw [h3] at hK; exact hK
  · rw [fm_ints]
    exact kk
theorem rd_together {vs : List Vl} {obs : List Ob} {Q : Vl → List Ob → Prop} (h : spWhere toL vs obs Q) : vs.length = 3 ∧ obs.length = 0 ∧ wFn [] b__law_together 4 0 vs obs Q := by
  obtain ⟨m, as, sh, x, y, rfl, rfl, hl, kk⟩ := h
  refine ⟨rfl, rfl, wFn_of rfl ?_⟩
  unfold b__law_together qS
  decreasing_trivial
  rw [len_tD]
  refine ⟨by unfold sizeLine; omega, by omega, ?_⟩
  rw [Int.toNat_natCast, rI_map]
  refine lc_map PyData.int (fun k => if hasB as k x y = true then some (.int k) else none) trivial _ (fun k hk K hK => ?_) ?_
  · have hb := mem_rI.mp hk
    unfold c__law_together_1 e__law_together_1
    unfold hasB at hK
    rw [decide_eq_true hb.1, decide_eq_true hb.2, Bool.true_and, Bool.true_and] at hK
    decreasing_trivial
    refine ⟨_, at_tD hb.1 hb.2, ?_⟩
    decreasing_trivial
    rw [eqv_mem]
    refine ite_dec (fun h2 => ?_) fun h2 => by rw [decide_eq_false h2] at hK; exact hK
    rw [decide_eq_true h2, Bool.true_and] at hK
    refine ⟨_, at_tD hb.1 hb.2, ?_⟩
    decreasing_trivial
    rw [eqv_mem]
    cases e : decide (y ∈ as.getD k.toNat []) <;> (rw [e] at hK; exact hK)
  · rw [fm_ints]
    exact kk
theorem len_apL (as : List (List Int)) (x y : Int) : (apL as x y).length ≤ as.length := by
  unfold apL
  have := List.length_filter_le (fun k => hasF as k x y) (rI as.length)
  rw [len_rI] at this
  exact this
theorem len_toL (as : List (List Int)) (x y : Int) : (toL as x y).length ≤ as.length := by
  unfold toL
  have := List.length_filter_le (fun k => hasB as k x y) (rI as.length)
  rw [len_rI] at this
  exact this
theorem mem_apL {as : List (List Int)} {x y k : Int} : k ∈ apL as x y ↔ hasF as k x y = true := by
  unfold apL
  rw [List.mem_filter, mem_rI]
  refine ⟨fun h => h.2, fun h => ⟨?_, h⟩⟩
  unfold hasF at h
  simp only [Bool.and_eq_true, decide_eq_true_eq] at h
  exact ⟨h.1, h.2.1⟩
theorem mem_toL {as : List (List Int)} {x y k : Int} : k ∈ toL as x y ↔ hasB as k x y = true := by
  unfold toL
  rw [List.mem_filter, mem_rI]
  refine ⟨fun h => h.2, fun h => ⟨?_, h⟩⟩
  unfold hasB at h
  simp only [Bool.and_eq_true, decide_eq_true_eq] at h
  exact ⟨h.1, h.2.1⟩
/-! ## all right crossings -/
theorem for_ints {i : Nat} {body : LTS} {ok : Reg → Prop} {P : LEnds} (I : List Int → Sl → Reg → Prop)
    (step : ∀ c r ρ η (N : Sl → Reg → Prop), I (c :: r) ρ η → (∀ ρ η, I r ρ η → N ρ η) → body { P with nx := fun ρ η => ok η ∧ N ρ η, ct := fun ρ η => ok η ∧ N ρ η, bk := P.nx } (ρ.set i (some (.dat (.int c)))) η)
    (fin : ∀ ρ η, I [] ρ η → P.nx ρ η) : ∀ (l : List Int) {ρ : Sl} {η : Reg}, I l ρ η → wFor (.one i) body ok (iD l) P ρ η
  | [], ρ, η, h => fin ρ η h
  | c :: r, ρ, η, h => step c r ρ η _ h fun ρ η h => for_ints I step fin r h
theorem for_map {α : Type} (g : α → D) {i : Nat} {body : LTS} {ok : Reg → Prop} {P : LEnds} (I : List α → Sl → Reg → Prop)
    (step : ∀ c r ρ η (N : Sl → Reg → Prop), I (c :: r) ρ η → (∀ ρ η, I r ρ η → N ρ η) → body { P with nx := fun ρ η => ok η ∧ N ρ η, ct := fun ρ η => ok η ∧ N ρ η, bk := P.nx } (ρ.set i (some (.dat (g c)))) η)
    (fin : ∀ ρ η, I [] ρ η → P.nx ρ η) : ∀ (l : List α) {ρ : Sl} {η : Reg}, I l ρ η → wFor (.one i) body ok (l.map g) P ρ η
  | [], ρ, η, h => fin ρ η h
  | c :: r, ρ, η, h => step c r ρ η _ h fun ρ η h => for_map g I step fin r h
def GoodP (m : Nat) (as : List (List Int)) (sh : List Int) (d : D) : Prop := (∃ x y f b l, d = crD x y f b l ∧ jC m as x y f b l = true) ∨ ∃ x y b l, d = unD x y b l ∧ jU m as sh x y b l = true
def Crs (m : Nat) (as : List (List Int)) (sh : List Int) (n : Nat) (fs : List D) : Prop := fs.length ≤ n ∧ ∀ d ∈ fs, GoodP m as sh d
theorem Crs.add {m : Nat} {as : List (List Int)} {sh : List Int} {n : Nat} {fs : List D} (h : Crs m as sh n fs) {g : Int → D} {ls : List Int} (hl : ls.length ≤ 70) (hg : ∀ l ∈ ls, GoodP m as sh (g l)) : Crs m as sh (n + 70) (fs ++ ls.map g) := by
  refine ⟨by rw [List.length_append, List.length_map]; have := h.1; omega, fun d hd => ?_⟩
  rcases List.mem_append.mp hd with hd | hd
  · exact h.2 d hd
  · obtain ⟨l, hl, rfl⟩ := List.mem_map.mp hd
    exact hg l hl
theorem Crs.up {m : Nat} {as : List (List Int)} {sh : List Int} {n k : Nat} {fs : List D} (h : Crs m as sh n fs) (hk : n ≤ k) : Crs m as sh k fs := ⟨Nat.le_trans h.1 hk, h.2⟩
abbrev Γc : Env := [("_law_apart", spWhere apL), ("_law_together", spWhere toL)]
theorem cr_in {m : Nat} {as : List (List Int)} {sh : List Int} (hl : as.length ≤ 70) {fs : List D} {n : Nat} {x y f : Int} (hf : Crs m as sh n fs) (hn : n + 4900 ≤ 16000000) (hx : 0 ≤ x ∧ x < y ∧ y < (m : Int)) (h1 : hasF as f x y = true) {P : LEnds} {a3 a6 : Option D}
    (k : ∀ (fs : List D) (a6 : Option D), Crs m as sh (n + 4900) fs → P.nx [some (.dat (qS m as sh)), some (.dat (.list fs)), some (.dat (.int x)), sd a3, some (.dat (.int y)), some (.dat (.int f)), sd a6, none, none] []) :
    wSs Γc l__law_crossings_2 P [some (.dat (qS m as sh)), some (.dat (.list fs)), some (.dat (.int x)), sd a3, some (.dat (.int y)), some (.dat (.int f)), sd a6, none, none] [] := by
  unfold l__law_crossings_2
  decreasing_trivial
  refine call_0 rfl rfl ⟨m, as, sh, x, y, rfl, rfl, hl, rfl, trivial, ?_⟩
  decreasing_trivial
  refine for_ints (fun r ρ η => ∃ (fs : List D) (a6 : Option D) (z : Nat), ρ = [some (.dat (qS m as sh)), some (.dat (.list fs)), some (.dat (.int x)), sd a3, some (.dat (.int y)), some (.dat (.int f)), sd a6, none, none] ∧ η = [] ∧ (∀ b ∈ r, hasB as b x y = true) ∧ z + r.length ≤ 70 ∧ Crs m as sh (n + 70 * z) fs) ?_ ?_ _ ⟨fs, a6, 0, rfl, rfl, fun b hb => mem_toL.mp hb, by have := len_toL as x y; omega, hf⟩
  · rintro b r ρ η N ⟨fs, a6, z, rfl, rfl, hb, hz, hc⟩ go
    rw [List.length_cons] at hz
    unfold l__law_crossings_1
    decreasing_trivial
    refine call_0 rfl rfl ⟨m, as, sh, y, x, rfl, rfl, hl, rfl, trivial, ?_⟩
    decreasing_trivial
    refine lc_map PyData.int (fun l => some (crD x y f b l)) trivial _ (fun l hl K hK => ?_) ?_
    · unfold e__law_crossings_1
      decreasing_trivial
      exact hK
    rw [fm_some]
    have hc2 := hc.add (g := fun l => crD x y f b l) (ls := apL as y x) (by have := len_apL as y x; omega) fun l hl => .inl ⟨x, y, f, b, l, rfl, by
      unfold jC
      rw [decide_eq_true hx, h1, hb b List.mem_cons_self, mem_apL.mp hl]
      rfl⟩
    refine ⟨by have := hc2.1; rw [List.length_append, List.length_map] at this; rw [List.length_map]; unfold sizeLine; omega, go _ _ ⟨_, some (.int b), z + 1, rfl, rfl, fun c hc => hb c (List.mem_cons_of_mem _ hc), by omega, hc2.up (by omega)⟩⟩
  · rintro ρ η ⟨fs, a6, z, rfl, rfl, _, hz, hc⟩
    exact k fs a6 (hc.up (by rw [List.length_nil] at hz; omega))
theorem cr_mid {m : Nat} {as : List (List Int)} {sh : List Int} (hl : as.length ≤ 70) {fs : List D} {n : Nat} {x y : Int} (hf : Crs m as sh n fs) (hn : n + 343000 ≤ 16000000) (hx : 0 ≤ x ∧ x < y ∧ y < (m : Int)) {P : LEnds} {a3 a5 a6 : Option D}
    (k : ∀ (fs : List D) (a5 a6 : Option D), Crs m as sh (n + 343000) fs → P.nx [some (.dat (qS m as sh)), some (.dat (.list fs)), some (.dat (.int x)), sd a3, some (.dat (.int y)), sd a5, sd a6, none, none] []) :
    wSs Γc l__law_crossings_3 P [some (.dat (qS m as sh)), some (.dat (.list fs)), some (.dat (.int x)), sd a3, some (.dat (.int y)), sd a5, sd a6, none, none] [] := by
  unfold l__law_crossings_3
  decreasing_trivial
  refine call_0 rfl rfl ⟨m, as, sh, x, y, rfl, rfl, hl, rfl, trivial, ?_⟩
  decreasing_trivial
  refine for_ints (fun r ρ η => ∃ (fs : List D) (a5 a6 : Option D) (z : Nat), ρ = [some (.dat (qS m as sh)), some (.dat (.list fs)), some (.dat (.int x)), sd a3, some (.dat (.int y)), sd a5, sd a6, none, none] ∧ η = [] ∧ (∀ b ∈ r, hasF as b x y = true) ∧ z + r.length ≤ 70 ∧ Crs m as sh (n + 4900 * z) fs) ?_ ?_ _ ⟨fs, a5, a6, 0, rfl, rfl, fun b hb => mem_apL.mp hb, by have := len_apL as x y; omega, hf⟩
  · rintro b r ρ η N ⟨fs, a5, a6, z, rfl, rfl, hb, hz, hc⟩ go
    rw [List.length_cons] at hz
    refine cr_in hl (a6 := a6) hc (by omega) hx (hb b List.mem_cons_self) fun fs a6 hc2 => ?_
    exact ⟨trivial, go _ _ ⟨fs, some (.int b), a6, z + 1, rfl, rfl, fun c hc => hb c (List.mem_cons_of_mem _ hc), by omega, hc2.up (by omega)⟩⟩
  · rintro ρ η ⟨fs, a5, a6, z, rfl, rfl, _, hz, hc⟩
    exact k fs a5 a6 (hc.up (by rw [List.length_nil] at hz; omega))
def spCrossings : PSpec := fun vs obs Q => ∃ (m : Nat) (as : List (List Int)) (sh : List Int), vs = [.dat (qS m as sh)] ∧ obs = [] ∧ QS m as sh ∧ m ≤ 7 ∧ ∀ fs : List D, Crs m as sh 16000000 fs → Q (.dat (.list fs)) []
theorem rd_crossings {vs : List Vl} {obs : List Ob} {Q : Vl → List Ob → Prop} (h : spCrossings vs obs Q) : vs.length = 1 ∧ obs.length = 0 ∧ wFn Γc b__law_crossings 9 0 vs obs Q := by
  obtain ⟨m, as, sh, rfl, rfl, hq, hm, kk⟩ := h
  have hl := hq.fewa
  refine ⟨rfl, rfl, wFn_of rfl ?_⟩
  unfold b__law_crossings
  decreasing_trivial
  unfold qS
  decreasing_trivial
  refine ⟨by unfold sizeLine; omega, by omega, ?_⟩
  rw [Int.toNat_natCast]
  refine for_rng0 (fun x ρ η => ∃ (fs : List D) (a2 a4 a5 a6 : Option D), ρ = [some (.dat (qS m as sh)), some (.dat (.list fs)), sd a2, none, sd a4, sd a5, sd a6, none, none] ∧ η = [] ∧ Crs m as sh (x * 2058000) fs) m ?_ ?_ ⟨[], none, none, none, none, rfl, rfl, Nat.le_refl _, fun _ h => nomatch h⟩
  · rintro x ρ η N hx ⟨fs, a2, a4, a5, a6, rfl, rfl, hc⟩ go
    unfold l__law_crossings_4 qS
    decreasing_trivial
    refine ⟨⟨by unfold sizeLine; omega, by omega⟩, ?_⟩
    rw [show ((m : Int) - ((x : Int) + 1)).toNat = m - (x + 1) by omega, show ((x : Nat) : Int) + 1 = ((x + 1 : Nat) : Int) by omega]
    refine for_rng (fun y ρ η => ∃ (fs : List D) (a4 a5 a6 : Option D), ρ = [some (.dat (qS m as sh)), some (.dat (.list fs)), some (.dat (.int (x : Nat))), none, sd a4, sd a5, sd a6, none, none] ∧ η = [] ∧ Crs m as sh (x * 2058000 + (y - (x + 1)) * 343000) fs) (x + 1) (m - (x + 1)) ?_ ?_ ⟨fs, a4, a5, a6, rfl, rfl, hc.up (by omega)⟩
    · rintro y ρ η N2 y0 y1 ⟨fs, a4, a5, a6, rfl, rfl, hc⟩ go2
      refine cr_mid hl (a3 := none) (a5 := a5) (a6 := a6) hc (by omega) (by omega) fun fs a5 a6 hc2 => ?_
      exact ⟨trivial, go2 _ _ ⟨fs, some (.int (y : Nat)), a5, a6, rfl, rfl, hc2.up (by omega)⟩⟩
    · rintro ρ η ⟨fs, a4, a5, a6, rfl, rfl, hc⟩
      exact go _ _ ⟨fs, some (.int (x : Nat)), a4, a5, a6, rfl, rfl, hc.up (by omega)⟩
  · rintro ρ η ⟨fs, a2, a4, a5, a6, rfl, rfl, hc⟩
    unfold qS
    decreasing_trivial
    refine ⟨by unfold sizeLine; omega, by omega, ?_⟩
    rw [Int.toNat_natCast, rI_map]
    refine lc_map PyData.int (fun c => if decide (c ∉ sh) = true then some (.int c) else none) trivial _ (fun c hc K hK => ?_) ?_
    · unfold c__law_crossings_1 e__law_crossings_2
      decreasing_trivial
      rw [eqv_mem]
      by_cases e : c ∈ sh
      · rw [decide_eq_true e, if_neg (by decide)]
        rw [if_neg (by simpa using e)] at hK
        exact hK
      · rw [decide_eq_false e, if_pos rfl]
        rw [if_pos (by simpa using e)] at hK
        exact hK
    rw [fm_ints]
    have hhid : ∀ c ∈ (rI m).filter (fun c => decide (c ∉ sh)), (0 ≤ c ∧ c < (m : Int)) ∧ c ∉ sh := fun c hc => by
      rw [List.mem_filter, mem_rI, decide_eq_true_iff] at hc
      exact hc
    have lhid : ((rI m).filter (fun c => decide (c ∉ sh))).length ≤ m := by
      have := List.length_filter_le (fun c => decide (c ∉ sh)) (rI m)
      rw [len_rI] at this
      exact this
    have lsh := hq.shown.len
    refine for_ints (fun r ρ η => ∃ (fs : List D) (a2 a4 a6 : Option D) (z : Nat), ρ = [some (.dat (qS m as sh)), some (.dat (.list fs)), sd a2, some (.dat (.list (iD ((rI m).filter (fun c => decide (c ∉ sh)))))), sd a4, sd a5, sd a6, none, none] ∧ η = [] ∧ (∀ x ∈ r, x ∈ sh) ∧ z + r.length ≤ 7 ∧ Crs m as sh (14406000 + 34300 * z) fs) ?_ ?_ _ ⟨fs, a2, a4, a6, 0, rfl, rfl, fun _ h => h, by omega, hc.up (by omega)⟩
    · rintro x r ρ η N ⟨fs, a2, a4, a6, z, rfl, rfl, hx, hz, hc⟩ go
      rw [List.length_cons] at hz
      unfold l__law_crossings_7
      decreasing_trivial
      refine for_ints (fun r ρ η => ∃ (fs : List D) (a4 a6 : Option D) (w : Nat), ρ = [some (.dat (qS m as sh)), some (.dat (.list fs)), some (.dat (.int x)), some (.dat (.list (iD ((rI m).filter (fun c => decide (c ∉ sh)))))), sd a4, sd a5, sd a6, none, none] ∧ η = [] ∧ (∀ y ∈ r, (0 ≤ y ∧ y < (m : Int)) ∧ y ∉ sh) ∧ w + r.length ≤ 7 ∧ Crs m as sh (14406000 + 34300 * z + 4900 * w) fs) ?_ ?_ _ ⟨fs, a4, a6, 0, rfl, rfl, hhid, by omega, hc.up (by omega)⟩
      · rintro y r2 ρ η N2 ⟨fs, a4, a6, w, rfl, rfl, hy, hw, hc⟩ go2
        rw [List.length_cons] at hw
        obtain ⟨hy1, hy2⟩ := hy y List.mem_cons_self
        unfold l__law_crossings_6
        decreasing_trivial
        refine call_0 rfl rfl ⟨m, as, sh, x, y, rfl, rfl, hl, rfl, trivial, ?_⟩
        decreasing_trivial
        refine for_ints (fun r ρ η => ∃ (fs : List D) (a6 : Option D) (v : Nat), ρ = [some (.dat (qS m as sh)), some (.dat (.list fs)), some (.dat (.int x)), some (.dat (.list (iD ((rI m).filter (fun c => decide (c ∉ sh)))))), some (.dat (.int y)), sd a5, sd a6, none, none] ∧ η = [] ∧ (∀ b ∈ r, hasB as b x y = true) ∧ v + r.length ≤ 70 ∧ Crs m as sh (14406000 + 34300 * z + 4900 * w + 70 * v) fs) ?_ ?_ _ ⟨fs, a6, 0, rfl, rfl, fun b hb => mem_toL.mp hb, by have := len_toL as x y; omega, hc.up (by omega)⟩
        · rintro b r3 ρ η N3 ⟨fs, a6, v, rfl, rfl, hb, hv, hc⟩ go3
          rw [List.length_cons] at hv
          unfold l__law_crossings_5
          decreasing_trivial
          refine call_0 rfl rfl ⟨m, as, sh, y, x, rfl, rfl, hl, rfl, trivial, ?_⟩
          decreasing_trivial
          refine lc_map PyData.int (fun l => some (unD x y b l)) trivial _ (fun l hl K hK => ?_) ?_
          · unfold e__law_crossings_3
            decreasing_trivial
            exact hK
          rw [fm_some]
          have hc2 := hc.add (g := fun l => unD x y b l) (ls := apL as y x) (by have := len_apL as y x; omega) fun l hl => .inr ⟨x, y, b, l, rfl, by
            unfold jU
            rw [decide_eq_true (hx x List.mem_cons_self), decide_eq_true hy1, decide_eq_false hy2, hb b List.mem_cons_self, mem_apL.mp hl]
            rfl⟩
          refine ⟨by have := hc2.1; rw [List.length_append, List.length_map] at this; rw [List.length_map]; unfold sizeLine; omega, go3 _ _ ⟨_, some (.int b), v + 1, rfl, rfl, fun c hc => hb c (List.mem_cons_of_mem _ hc), by omega, hc2.up (by omega)⟩⟩
        · rintro ρ η ⟨fs, a6, v, rfl, rfl, _, hv, hc⟩
          rw [List.length_nil] at hv
          exact go2 _ _ ⟨fs, some (.int y), a6, w + 1, rfl, rfl, fun c hc => hy c (List.mem_cons_of_mem _ hc), by omega, hc.up (by omega)⟩
      · rintro ρ η ⟨fs, a4, a6, w, rfl, rfl, _, hw, hc⟩
        rw [List.length_nil] at hw
        exact go _ _ ⟨fs, some (.int x), a4, a6, z + 1, rfl, rfl, fun c hc => hx c (List.mem_cons_of_mem _ hc), by omega, hc.up (by omega)⟩
    · rintro ρ η ⟨fs, a2, a4, a6, z, rfl, rfl, _, hz, hc⟩
      decreasing_trivial
      exact kk fs (hc.up (by rw [List.length_nil] at hz; omega))
/-! ## ways, open places -/
structure UpsOk (m : Nat) (us : List Int) : Prop where
  len : us.length = m
  rg : ∀ i : Nat, i < m → -1 ≤ nth us (i : Nat) ∧ nth us (i : Nat) < (i : Nat)
structure WaysOk (m : Nat) (us : List Int) (ws : List (List Int)) : Prop where
  len : ws.length = m
  eq : ∀ i : Nat, i < m → ws.getD i [] = (if 0 ≤ nth us (i : Nat) then ws.getD (nth us (i : Nat)).toNat [] else []) ++ [((i : Nat) : Int)]
theorem UpsOk.at {m : Nat} {us : List Int} (h : UpsOk m us) {i : Nat} (hi : i < m) : atI (iD us) ((i : Nat) : Int) = some (.int (nth us (i : Nat))) := at_nth (by omega) (by have := h.len; omega)
theorem getD_snoc_lt {α : Type} {l : List α} {a d : α} {i : Nat} (h : i < l.length) : (l ++ [a]).getD i d = l.getD i d := by
  rw [List.getD_eq_getElem?_getD, List.getD_eq_getElem?_getD, List.getElem?_append_left h]
theorem getD_snoc_eq {α : Type} {l : List α} {a d : α} : (l ++ [a]).getD l.length d = a := by
  rw [List.getD_eq_getElem?_getD, List.getElem?_append_right (Nat.le_refl _), Nat.sub_self]
  rfl
def spWays : PSpec := fun vs obs Q => ∃ (m : Nat) (us : List Int), vs = [.dat (.list (iD us))] ∧ obs = [] ∧ UpsOk m us ∧ m ≤ 100 ∧ ∀ ws : List (List Int), WaysOk m us ws → (∀ w ∈ ws, w.length ≤ m) → Q (.fr (.lst (lD ws))) []
theorem rd_ways {vs : List Vl} {obs : List Ob} {Q : Vl → List Ob → Prop} (h : spWays vs obs Q) : vs.length = 1 ∧ obs.length = 0 ∧ wFn [] b__law_ways 4 1 vs obs Q := by
  obtain ⟨m, us, rfl, rfl, hu, hm, kk⟩ := h
  have hl := hu.len
  refine ⟨rfl, rfl, wFn_of rfl ?_⟩
  unfold b__law_ways
  decreasing_trivial
  rw [len_iD, hl]
  refine ⟨by unfold sizeLine; omega, by omega, ?_⟩
  rw [Int.toNat_natCast]
  refine for_rng0 (fun j ρ η => ∃ (ws : List (List Int)) (x y : Option D), ρ = [some (.dat (.list (iD us))), some (.ptr 0), sd x, sd y] ∧ η = [some (.lst (lD ws))] ∧ ws.length = j ∧
    (∀ i : Nat, i < j → ws.getD i [] = (if 0 ≤ nth us (i : Nat) then ws.getD (nth us (i : Nat)).toNat [] else []) ++ [((i : Nat) : Int)]) ∧ ∀ i : Nat, i < j → (ws.getD i []).length ≤ i + 1) m ?_ ?_ ⟨[], none, none, rfl, rfl, rfl, fun i h => by omega, fun i h => by omega⟩
  · rintro j ρ η N hj ⟨ws, x, y, rfl, rfl, hw, he, hn⟩ go
    obtain ⟨u0, u1⟩ := hu.rg j hj
    have a1 := hu.at hj
    unfold l__law_ways_1
    decreasing_trivial
    refine ⟨_, a1, ?_⟩
    decreasing_trivial
    have last : ∀ w : List Int, w = (if 0 ≤ nth us (j : Nat) then ws.getD (nth us (j : Nat)).toNat [] else []) ++ [((j : Nat) : Int)] → N [some (.dat (.list (iD us))), some (.ptr 0), some (.dat (.int (j : Nat))), some (.dat (.list (iD w)))] [some (.lst (lD ws ++ [.list (iD w)]))] := fun w e => by
      refine go _ _ ⟨ws ++ [w], some _, some _, rfl, by unfold lD; rw [List.map_append]; rfl, by rw [List.length_append, List.length_singleton, hw], fun i hi => ?_, fun i hi => ?_⟩
      · by_cases h : i < j
        · obtain ⟨v0, v1⟩ := hu.rg i (by omega)
          rw [getD_snoc_lt (by omega), he i h]
          by_cases h0 : 0 ≤ nth us (i : Nat)
          · rw [if_pos h0, if_pos h0, getD_snoc_lt (by omega)]
          · rw [if_neg h0, if_neg h0]
        · have : i = j := by omega
          subst this
          have e2 : (ws ++ [w]).getD i [] = w := by rw [← hw]; exact getD_snoc_eq
          rw [e2, e]
          by_cases h0 : 0 ≤ nth us (i : Nat)
          · rw [if_pos h0, if_pos h0, getD_snoc_lt (by omega)]
          · rw [if_neg h0, if_neg h0]
      · by_cases h : i < j
        · rw [getD_snoc_lt (by omega)]
          exact hn i h
        · have : i = j := by omega
          subst this
          have e2 : (ws ++ [w]).getD i [] = w := by rw [← hw]; exact getD_snoc_eq
          rw [e2, e]
          by_cases h0 : 0 ≤ nth us (i : Nat)
          · rw [if_pos h0, List.length_append, List.length_singleton]
            have := hn (nth us (i : Nat)).toNat (by omega)
            omega
          · rw [if_neg h0]
            simp
    have sz : (lD ws).length < sizeLine := by rw [len_lD]; unfold sizeLine; omega
    refine ite_i (fun h0 => ?_) fun h0 => ?_
    · decreasing_trivial
      refine ⟨_, a1, ?_⟩
      decreasing_trivial
      obtain ⟨q, hq⟩ := nat_of h0
      have hqj : q < ws.length := by omega
      have hg : atI (lD ws) (nth us (j : Nat)) = some (.list (iD (ws.getD (nth us (j : Nat)).toNat []))) := by
        rw [hq, Int.toNat_natCast, List.getD_eq_getElem?_getD, List.getElem?_eq_getElem hqj]
        exact atI_nat (by unfold lD; rw [List.getElem?_map, List.getElem?_eq_getElem hqj]; rfl)
      have ll := hn (nth us (j : Nat)).toNat (by omega)
      refine ⟨_, hg, ?_⟩
      decreasing_trivial
      refine ⟨by rw [len_iD]; unfold sizeLine; omega, sz, ?_⟩
      rw [iD_add]
      exact last _ (by rw [if_pos h0])
    · decreasing_trivial
      exact ⟨sz, last [((j : Nat) : Int)] (by rw [if_neg h0]; rfl)⟩
  · rintro ρ η ⟨ws, x, y, rfl, rfl, hw, he, hn⟩
    decreasing_trivial
    refine kk ws ⟨hw, he⟩ fun w hw2 => ?_
    obtain ⟨i, hi, rfl⟩ := List.mem_iff_getElem.mp hw2
    have := hn i (by omega)
    rw [List.getD_eq_getElem?_getD, List.getElem?_eq_getElem hi] at this
    have e : (some ws[i]).getD [] = ws[i] := rfl
    rw [e] at this
    omega
structure OpenOk (m : Nat) (us fs : List Int) : Prop where
  cols : Cols m fs
  up : ∀ x ∈ fs, nth us x < 0 ∨ nth us x ∈ fs
def spOpen : PSpec := fun vs obs Q => ∃ (m : Nat) (us : List Int) (o : Ob), vs = [.ptr 0, .dat (.list (iD us))] ∧ obs = [o] ∧ Std o ∧ UpsOk m us ∧ m ≤ 100 ∧ ∀ (fs : List Int) (o' : Ob), OpenOk m us fs → Std o' → Q (.fr (.lst (iD fs))) [o']
theorem rd_open {vs : List Vl} {obs : List Ob} {Q : Vl → List Ob → Prop} (h : spOpen vs obs Q) : vs.length = 2 ∧ obs.length = 1 ∧ wFn [("_law_draw", spDraw)] b__law_open_places 6 1 vs obs Q := by
  obtain ⟨m, us, o, rfl, rfl, hs, hu, hm, kk⟩ := h
  have hl := hu.len
  refine ⟨rfl, rfl, wFn_of rfl ?_⟩
  unfold b__law_open_places
  decreasing_trivial
  refine draw_w rfl hs (by omega) (by omega) fun r o1 r0 r1 hs1 => ?_
  decreasing_trivial
  rw [len_iD, hl]
  refine ⟨by unfold sizeLine; omega, by omega, ?_⟩
  rw [Int.toNat_natCast]
  refine for_rng0 (fun j ρ η => ∃ (fs : List Int) (o : Ob) (x y : Option D), ρ = [some (.ptr 0), some (.dat (.list (iD us))), some (.dat (.int r)), some (.ptr 1), sd x, sd y] ∧ η = [some o, some (.lst (iD fs))] ∧ Std o ∧ OpenOk j us fs) m ?_ ?_ ⟨[], o1, none, none, rfl, rfl, hs1, Cols.nil 0, fun _ h => nomatch h⟩
  · rintro j ρ η N hj ⟨fs, o, x, y, rfl, rfl, ho, hf⟩ go
    obtain ⟨u0, u1⟩ := hu.rg j hj
    have a1 := hu.at hj
    have keep : ∀ (o : Ob) (y : Option D), Std o → N [some (.ptr 0), some (.dat (.list (iD us))), some (.dat (.int r)), some (.ptr 1), some (.dat (.int (j : Nat))), sd y] [some o, some (.lst (iD fs))] := fun o y ho => go _ _ ⟨fs, o, some _, y, rfl, rfl, ho, hf.cols.up (by omega), hf.up⟩
    have more : ∀ (o : Ob) (y : Option D), Std o → (nth us (j : Nat) < 0 ∨ nth us (j : Nat) ∈ fs) → N [some (.ptr 0), some (.dat (.list (iD us))), some (.dat (.int r)), some (.ptr 1), some (.dat (.int (j : Nat))), sd y] [some o, some (.lst (iD (fs ++ [((j : Nat) : Int)])))] := fun o y ho h => by
      refine go _ _ ⟨fs ++ [((j : Nat) : Int)], o, some _, y, rfl, rfl, ho, (hf.cols.up (by omega)).snoc (by omega) (by omega) fun z => by have := hf.cols.2 _ z; omega, fun x hx => ?_⟩
      rcases List.mem_append.mp hx with hx | hx
      · rcases hf.up x hx with h | h
        · exact .inl h
        · exact .inr (List.mem_append_left _ h)
      · rw [List.mem_singleton.mp hx]
        rcases h with h | h
        · exact .inl h
        · exact .inr (List.mem_append_left _ h)
    have lf := hf.cols.len
    have sz : (iD fs).length < sizeLine := by rw [len_iD]; unfold sizeLine; omega
    unfold l__law_open_places_1
    decreasing_trivial
    refine ite_i (fun _ => ?_) fun _ => ?_
    · refine draw_w rfl ho (by omega) (by omega) fun r2 o2 q0 q1 ho2 => ?_
      decreasing_trivial
      refine ite_i (fun _ => ?_) fun _ => keep o2 (some _) ho2
      refine ⟨_, a1, ?_⟩
      decreasing_trivial
      rw [iD_add]
      refine ite_i (fun h => ⟨sz, more o2 (some _) ho2 (.inl h)⟩) fun h => ?_
      refine ⟨_, a1, ?_⟩
      decreasing_trivial
      rw [eqv_mem]
      exact ite_dec (fun h => ⟨sz, more o2 (some _) ho2 (.inr h)⟩) fun h => keep o2 (some _) ho2
    · refine ite_i (fun _ => ?_) fun _ => keep o (some _) ho
      refine ⟨_, a1, ?_⟩
      decreasing_trivial
      rw [iD_add]
      refine ite_i (fun h => ⟨sz, more o (some _) ho (.inl h)⟩) fun h => ?_
      refine ⟨_, a1, ?_⟩
      decreasing_trivial
      rw [eqv_mem]
      exact ite_dec (fun h => ⟨sz, more o (some _) ho (.inr h)⟩) fun h => keep o (some _) ho
  · rintro ρ η ⟨fs, o, x, y, rfl, rfl, ho, hf⟩
    decreasing_trivial
    exact kk fs o hf ho
/-! ## a query with one thing changed -/
def spSays : PSpec := fun vs obs Q => ∃ a b : Bool, vs = [.dat (.bool a), .dat (.bool b)] ∧ obs = [] ∧ Q (.dat (.bool (decide (a = b)))) []
theorem rd_says {vs : List Vl} {obs : List Ob} {Q : Vl → List Ob → Prop} (h : spSays vs obs Q) : vs.length = 2 ∧ obs.length = 0 ∧ wFn [] b__law_says 2 0 vs obs Q := by
  obtain ⟨a, b, rfl, rfl, kk⟩ := h
  refine ⟨rfl, rfl, wFn_of rfl ?_⟩
  unfold b__law_says
  decreasing_trivial
  refine ⟨_, true, rfl, rfl, ?_⟩
  rw [if_pos rfl]
  by_cases e : a = b
  · rw [if_pos e]; rw [decide_eq_true e] at kk; exact kk
  · rw [if_neg e]; rw [decide_eq_false e] at kk; exact kk
def spBentQ : PSpec := fun vs obs Q => ∃ (m : Nat) (as : List (List Int)) (sh : List Int) (o : Ob), vs = [.ptr 0, .dat (qS m as sh)] ∧ obs = [o] ∧ Std o ∧ QS m as sh ∧ 1 ≤ m ∧ 1 ≤ as.length ∧
  ∀ (as' : List (List Int)) (sh' : List Int) (o' : Ob), QS m as' sh' → as'.length = as.length → Std o' → Q (.dat (qS m as' sh')) [o']
theorem rd_bentq {vs : List Vl} {obs : List Ob} {Q : Vl → List Ob → Prop} (h : spBentQ vs obs Q) : vs.length = 2 ∧ obs.length = 1 ∧ wFn [("_law_draw", spDraw)] b__law_bent_query 10 1 vs obs Q := by
  obtain ⟨m, as, sh, o, rfl, rfl, hs, hq, hm, ha, kk⟩ := h
  have hm2 := hq.few
  have ha2 := hq.fewa
  refine ⟨rfl, rfl, wFn_of rfl ?_⟩
  unfold b__law_bent_query
  unfold qS at *
  decreasing_trivial
  refine draw_w rfl hs (by omega) (by omega) fun way o1 w0 w1 hs1 => ?_
  decreasing_trivial
  rw [len_tD]
  refine draw_w rfl hs1 (by omega) (by omega) fun at' o2 t0 t1 hs2 => ?_
  decreasing_trivial
  refine draw_w rfl hs2 (by omega) (by omega) fun col o3 c0 c1 hs3 => ?_
  decreasing_trivial
  rw [len_tD]
  refine ⟨by unfold sizeLine; omega, by omega, ?_⟩
  rw [Int.toNat_natCast, rI_map]
  refine lc_map PyData.int (fun k => if (decide (k ≠ at') && decide (col ∈ as.getD k.toNat [])) = true then some (.int k) else none) trivial _ (fun k hk K hK => ?_) ?_
  · have hb := mem_rI.mp hk
    unfold c__law_bent_query_1 e__law_bent_query_1
    decreasing_trivial
    by_cases hk0 : k = at'
    · rw [if_neg (by simpa using hk0)]
      rw [decide_eq_false (by simpa using hk0)] at hK
      exact hK
    · rw [if_pos hk0]
      rw [decide_eq_true hk0, Bool.true_and] at hK
      refine ⟨_, at_tD hb.1 hb.2, ?_⟩
      decreasing_trivial
      rw [eqv_mem]
      cases e : decide (col ∈ as.getD k.toNat []) <;> (rw [e] at hK; exact hK)
  rw [fm_ints]
  have hat := at_tD (as := as) t0 t1
  have hmem : as.getD at'.toNat [] ∈ as := by
    have : at'.toNat < as.length := by omega
    rw [List.getD_eq_getElem?_getD, List.getElem?_eq_getElem this]
    exact List.getElem_mem this
  have hcol := hq.cols _ hmem
  have hlen := hcol.len
  have hset : ∀ b : List Int, Cols m b → QS m (as.set at'.toNat b) sh := fun b hb => ⟨hm2, by rw [List.length_set]; exact ha2, fun a ha => by
    rcases List.mem_or_eq_of_mem_set ha with h | h
    · exact hq.cols a h
    · rw [h]; exact hb, hq.shown⟩
  have hsto : ∀ b : List Int, (tD as).set at'.toNat (.tuple (iD b)) = tD (as.set at'.toNat b) := fun b => by
    unfold tD
    rw [List.map_set]
  have hix : ixN (tD as).length at' = some at'.toNat := by
    unfold ixN
    rw [len_tD, if_pos t0, if_pos t1]
  have lsh := hq.shown.len
  have tl : ∀ (K : Option D → Reg → Prop) (c : Int), K (if decide (c ≠ col) = true then some (.int c) else none) [some o3, some (Ob.lst (tD as))] → if ¬ c = col then K (some (.int c)) [some o3, some (Ob.lst (tD as))] else K none [some o3, some (Ob.lst (tD as))] := fun K c hK => by
    by_cases e : c = col
    · rw [if_neg (by simpa using e)]
      rw [if_neg (by simpa using e)] at hK
      exact hK
    · rw [if_pos e]
      rw [if_pos (by simpa using e)] at hK
      exact hK
  have stC : ∀ (P : LEnds) (ks : List Int), (∀ sh' : List Int, Cols m sh' → P.nx [some (.ptr 0), some (.dat (qS m as sh)), some (.ptr 1), some (.dat (.tuple (iD sh'))), some (.dat (.int way)), some (.dat (.int at')), some (.dat (.int col)), some (.dat (.list (iD ks))), none, none] [some o3, some (.lst (tD as))]) →
      wSs [("_law_draw", spDraw)] r__law_bent_query_1 P [some (.ptr 0), some (.dat (qS m as sh)), some (.ptr 1), some (.dat (.tuple (iD sh))), some (.dat (.int way)), some (.dat (.int at')), some (.dat (.int col)), some (.dat (.list (iD ks))), none, none] [some o3, some (.lst (tD as))] := by
    intro P ks hP
    unfold r__law_bent_query_1
    decreasing_trivial
    rw [eqv_mem]
    refine ite_dec (fun h => ?_) fun h => ?_
    · refine lc_map PyData.int (fun c => if decide (c ≠ col) = true then some (.int c) else none) trivial sh (fun c hc K hK => ?_) ?_
      · unfold c__law_bent_query_3 e__law_bent_query_3
        decreasing_trivial
        exact tl K c hK
      rw [fm_ints]
      exact hP _ (hq.shown.sub List.filter_sublist)
    · rw [iD_add, sort_iD]
      refine ⟨by rw [len_iD]; unfold sizeLine; omega, srt_ok _, ?_⟩
      decreasing_trivial
      exact hP _ ((hq.shown.snoc c0 c1 h).perm (sI_perm _))
  have stB : ∀ (P : LEnds) (ks : List Int), (∀ (as' : List (List Int)) (sh' : List Int), QS m as' sh' → as'.length = as.length → P.nx [some (.ptr 0), some (.dat (qS m as sh)), some (.ptr 1), some (.dat (.tuple (iD sh'))), some (.dat (.int way)), some (.dat (.int at')), some (.dat (.int col)), some (.dat (.list (iD ks))), none, none] [some o3, some (.lst (tD as'))]) →
      wSs [("_law_draw", spDraw)] r__law_bent_query_2 P [some (.ptr 0), some (.dat (qS m as sh)), some (.ptr 1), some (.dat (.tuple (iD sh))), some (.dat (.int way)), some (.dat (.int at')), some (.dat (.int col)), some (.dat (.list (iD ks))), none, none] [some o3, some (.lst (tD as))] := by
    intro P ks hP
    have toC := stC P ks fun sh' h => hP as sh' ⟨hm2, ha2, hq.cols, h⟩ rfl
    unfold r__law_bent_query_2
    decreasing_trivial
    refine ite_i (fun _ => ?_) fun _ => toC
    refine ⟨_, hat, ?_⟩
    decreasing_trivial
    refine ite_i (fun _ => ?_) fun _ => toC
    refine ite_i (fun _ => ?_) fun _ => toC
    refine ⟨_, hat, ?_⟩
    decreasing_trivial
    refine lc_map PyData.int (fun c => if decide (c ≠ col) = true then some (.int c) else none) trivial (as.getD at'.toNat []) (fun c hc K hK => ?_) ?_
    · unfold c__law_bent_query_2 e__law_bent_query_2
      decreasing_trivial
      exact tl K c hK
    rw [fm_ints]
    refine ⟨_, hix, ?_⟩
    rw [hsto]
    exact hP _ sh (hset _ (hcol.sub List.filter_sublist)) (List.length_set ..)
  have fin : ∀ (as' : List (List Int)) (sh' : List Int), QS m as' sh' → as'.length = as.length → Q (.dat (.tuple [.str ("query" : Str), .int (m : Nat), .tuple (tD as'), .tuple (iD sh')])) [o3] := fun as' sh' h1 h2 => kk as' sh' o3 h1 h2 hs3
  unfold qS at stB
  refine ite_i (fun h0 => ?_) fun h0 => ?_
  · decreasing_trivial
    refine ⟨_, hat, ?_⟩
    decreasing_trivial
    rw [eqv_mem]
    refine ite_i (fun h1 => ?_) fun h1 => ?_
    · have h1 := of_decide_eq_false h1
      decreasing_trivial
      refine ⟨_, hat, ?_⟩
      decreasing_trivial
      rw [iD_add, sort_iD]
      refine ⟨by rw [len_iD]; unfold sizeLine; omega, srt_ok _, _, hix, ?_⟩
      rw [hsto]
      exact fin _ sh (hset _ ((hcol.snoc c0 c1 h1).perm (sI_perm _))) (List.length_set ..)
    · refine stB _ _ fun as' sh' h1 h2 => ?_
      decreasing_trivial
      exact fin as' sh' h1 h2
  · refine stB _ _ fun as' sh' h1 h2 => ?_
    decreasing_trivial
    exact fin as' sh' h1 h2
end Pl

namespace Pl
open PySem PySem.Spec PyProof.Rows L2

local macro_rules | `(tactic| decreasing_trivial) => `(tactic| try simp only [wSs, wS, wE, wEs, wEo, wCond, wSrc, wAnd, wOr, Bool.false_eq_true, if_false, Bool.not_true, Bool.not_false, asT, onView_dat, onD_dat, fz_dat, fz_ptr, fz_fr, settled_dat, settled_ptr,  List.getElem?_cons_zero, List.getElem?_cons_succ, List.set_cons_zero, List.set_cons_succ, List.length_cons, List.length_nil, Nat.reduceAdd, Option.some.injEq, exists_eq_left', true_and, and_true, if_true, decide_eq_true_eq, Int.reduceToNat, Int.reducePow, Int.reduceLE, Int.reduceLT, Int.reduceMul, Int.reduceAdd, Int.reduceSub, Int.reduceNeg, Nat.reduceLT, Nat.reduceLeDiff, Nat.reduceMul, Nat.reducePow, Int.reduceAbs, Nat.reduceSub, List.map, List.replicate, List.cons_append, List.nil_append, List.append_nil, regsOf, renum, List.nodup_nil, r_add, r_adds, r_addt, r_addl, r_sub, r_mul, r_mull, r_mult, r_fdiv, r_mod, r_pow, r_band, r_bor, r_bxor, r_shl, r_shr, r_lt, r_le, r_gt, r_ge, r_lts, r_eq, r_ne, r_isin, r_notin, r_isin_list, r_isin_tuple, r_notin_list, r_notin_tuple, r_isnone, r_notnone, r_ixl, r_ixt, r_ixs, r_sll, r_slt, r_sls, r_len, r_int, r_intb, r_abs, r_min2, r_max2, r_sum, r_min1, r_max1, r_all, r_any, r_list, r_listt, r_tup, r_tupt, r_rl1, r_rl2, r_rt1, r_rt2, r_sort, r_sortt, r_isi, r_lenl, r_lent, r_lens, r_augi, r_augs, r_bitl, r_split, r_wtg, r_wtgm, r_at0, r_at1, r_at2, r_at3, r_at4, r_at5, r_ix1_0, r_ix2_0, r_ix2_1, r_ix3_0, r_ix3_1, r_ix3_2, r_ix4_0, r_ix4_1, r_ix4_2, r_ix4_3, r_ix5_0, r_ix5_1, r_ix5_2, r_ix5_3, r_ix5_4, r_v0, r_lenp0, r_typ0, r_app0, r_pop0, r_popAt0, r_ext0, r_outs0, r_v1, r_lenp1, r_typ1, r_app1, r_pop1, r_popAt1, r_ext1, r_outs1, r_v2, r_lenp2, r_typ2, r_app2, r_pop2, r_popAt2, r_ext2, r_outs2, r_v3, r_lenp3, r_typ3, r_app3, r_pop3, r_popAt3, r_ext3, r_outs3, r_tyd, r_mapp, r_mpop, r_mpopAt, r_mext, r_midxl, r_midxt, r_mspl, r_mbit, r_npd, r_npf, r_ty_int, r_ty_str, r_ty_list, r_ty_tuple, r_ty_bool, r_ixli, r_ixti, r_asgd, r_asgp, r_asgf, r_asgn, r_clr0, r_clr1, r_clr2, r_clr3, r_sto0, r_ag0, r_sto1, r_ag1, r_sto2, r_ag2, r_sto3, r_ag3, r_c0, r_c1, r_c2, r_c3, r_c4, r_c5, r_c6, r_c7, r_c8, r_c9, r_c10, r_c11, r_put1, r_put0, r_ptuple0, r_plist0, r_psum0, r_pmin10, r_pmax10, r_pall0, r_pany0, r_psorted0, r_ptuple1, r_plist1, r_psum1, r_pmin11, r_pmax11, r_pall1, r_pany1, r_psorted1, r_ptuple2, r_plist2, r_psum2, r_pmin12, r_pmax12, r_pall2, r_pany2, r_psorted2, r_ptuple3, r_plist3, r_psum3, r_pmin13, r_pmax13, r_pall3, r_pany3, r_psorted3, r_stab, r_wipe0, r_wipe1, stepLc, r_putc, frz1, reduceCtorEq, Nat.reduceEqDiff, reduceIte, r_clrD, r_frzD, setMany, r_sumt, r_min1t, r_max1t, r_ex0, r_exc, r_sz0, r_sz1, r_sz2, r_sz3, r_sz4, r_sz5, r_sz6, r_sz7, r_sz8, r_sz9, r_sz10, r_sz11, r_sz12, r_sz13, r_sz14, r_sz15, r_sz16, r_sz17, r_sz18, r_sz19, r_sz20, eqv_int, eqv_bool, r_depi, r_depb, true_or, or_true, Bool.not_eq_true', decide_eq_false_iff_not, not_true_eq_false, not_false_eq_true, List.not_mem_nil, false_implies, implies_true, qD, callN, r_szl0, r_szl1, r_szl2, r_szl3, r_szl4, r_szl5, r_szl6, r_szl7, r_szl8, r_szl9, r_szl10, r_szl11, r_szl12, r_szl13, r_szl14, r_szl15, r_szl16, r_szl17, r_szl18, r_szl19, r_szl20, r_szl21, r_szl22, r_szl23, r_szl24, r_szl25, r_szl26, r_szl27, r_szl28, r_szl29, r_szl30, r_szl31, r_szl32, r_szl33, r_szl34, r_szl35, r_szl36, r_szl37, r_szl38, r_szl39, r_szl40, r_isb, r_nisb, r_cut1, r_cut3, r_deps, eqv_str, eq_self, Int.reduceEq, Int.cast_ofNat_Int, decide_true, decide_false])
/-! ## who touches whom -/
def tch (as : List (List Int)) (x y : Int) : Bool := decide (x ≠ y) && as.any fun a => decide (x ∈ a) && decide (y ∈ a)
theorem tch_iff {as : List (List Int)} {x y : Int} : tch as x y = true ↔ x ≠ y ∧ ∃ a ∈ as, x ∈ a ∧ y ∈ a := by
  unfold tch
  simp only [Bool.and_eq_true, decide_eq_true_eq, List.any_eq_true]
theorem tch_comm (as : List (List Int)) (x y : Int) : tch as x y = tch as y x := by
  rw [Bool.eq_iff_iff, tch_iff, tch_iff]
  exact ⟨fun ⟨h, a, ha, h1, h2⟩ => ⟨fun e => h e.symm, a, ha, h2, h1⟩, fun ⟨h, a, ha, h1, h2⟩ => ⟨fun e => h e.symm, a, ha, h2, h1⟩⟩
/-- all in one atom -/
def wi (as : List (List Int)) (cs : List Int) : Bool := as.any fun a => cs.all fun c => decide (c ∈ a)
theorem wi_iff {as : List (List Int)} {cs : List Int} : wi as cs = true ↔ ∃ a ∈ as, ∀ c ∈ cs, c ∈ a := by
  unfold wi
  simp only [List.any_eq_true, List.all_eq_true, decide_eq_true_eq]
/-- neighbours on a ring of k -/
def adjI (k i j : Nat) : Prop := j = i + 1 ∨ i = j + 1 ∨ (i = 0 ∧ j + 1 = k) ∨ (j = 0 ∧ i + 1 = k)
structure RingF (m : Nat) (as : List (List Int)) (k : Nat) (f : Nat → Int) : Prop where
  four : 4 ≤ k
  rg : ∀ i, i < k → 0 ≤ f i ∧ f i < (m : Int)
  inj : ∀ i j, i < k → j < k → f i = f j → i = j
  tc : ∀ i j, i < k → j < k → i ≠ j → (tch as (f i) (f j) = true ↔ adjI k i j)
structure RingP (m : Nat) (as : List (List Int)) (r : List Int) : Prop where
  ring : RingF m as r.length fun i => nth r (i : Nat)
  least : ∀ c ∈ r, nth r 0 ≤ c
  way : nth r 1 ≤ nth r ((r.length - 1 : Nat) : Nat)
structure CliqP (m : Nat) (as : List (List Int)) (cs : List Int) : Prop where
  three : 3 ≤ cs.length
  up : cs.Pairwise (· < ·)
  rg : ∀ c ∈ cs, 0 ≤ c ∧ c < (m : Int)
  out : wi as cs = false
  near : ∀ c ∈ cs, wi as (cs.filter fun x => decide (x ≠ c)) = true
theorem nth_get {ns : List Int} {i : Nat} (h : i < ns.length) : nth ns (i : Nat) = ns[i] := by
  unfold nth
  rw [Int.toNat_natCast, List.getD_eq_getElem?_getD, List.getElem?_eq_getElem h]
  rfl
theorem nth_map (f : Nat → Int) {k i : Nat} (h : i < k) : nth ((List.range k).map f) (i : Nat) = f i := by
  rw [nth_get (by rw [List.length_map, List.length_range]; exact h), List.getElem_map, List.getElem_range]
/-- turned so that the place p comes first -/
theorem RingF.turn {m : Nat} {as : List (List Int)} {k : Nat} {f : Nat → Int} (h : RingF m as k f) {p : Nat} (hp : p < k) : RingF m as k fun i => f (if p + i < k then p + i else p + i - k) := by
  have h4 := h.four
  refine ⟨h4, fun i hi => h.rg _ (by split <;> omega), fun i j hi hj e => ?_, fun i j hi hj ne => ?_⟩
  · have := h.inj _ _ (by split <;> omega) (by split <;> omega) e
    split at this <;> split at this <;> omega
  · rw [h.tc _ _ (by split <;> omega) (by split <;> omega) (by split <;> split <;> omega)]
    unfold adjI
    split <;> split <;> omega
/-- the other way round -/
theorem RingF.back {m : Nat} {as : List (List Int)} {k : Nat} {f : Nat → Int} (h : RingF m as k f) : RingF m as k fun i => f (if i = 0 then 0 else k - i) := by
  have h4 := h.four
  refine ⟨h4, fun i hi => h.rg _ (by split <;> omega), fun i j hi hj e => ?_, fun i j hi hj ne => ?_⟩
  · have := h.inj _ _ (by split <;> omega) (by split <;> omega) e
    split at this <;> split at this <;> omega
  · rw [h.tc _ _ (by split <;> omega) (by split <;> omega) (by split <;> split <;> omega)]
    unfold adjI
    split <;> split <;> omega
theorem least_at (f : Nat → Int) : ∀ k : Nat, 0 < k → ∃ p, p < k ∧ ∀ i, i < k → f p ≤ f i
  | 1, _ => ⟨0, by omega, fun i hi => by rw [show i = 0 by omega]; exact Int.le_refl _⟩
  | k + 2, _ => by
    obtain ⟨p, hp, h⟩ := least_at f (k + 1) (by omega)
    by_cases e : f p ≤ f (k + 1)
    · refine ⟨p, by omega, fun i hi => ?_⟩
      by_cases q : i = k + 1
      · rw [q]; exact e
      · exact h i (by omega)
    · refine ⟨k + 1, by omega, fun i hi => ?_⟩
      by_cases q : i = k + 1
      · rw [q]; exact Int.le_refl _
      · have := h i (by omega)
        omega
theorem RingF.list {m : Nat} {as : List (List Int)} {k : Nat} {f : Nat → Int} (h : RingF m as k f) (h0 : ∀ i, i < k → f 0 ≤ f i) (h1 : f 1 ≤ f (k - 1)) : RingP m as ((List.range k).map f) := by
  have hl : ((List.range k).map f).length = k := by rw [List.length_map, List.length_range]
  have h4 := h.four
  refine ⟨?_, fun c hc => ?_, ?_⟩
  · rw [hl]
    refine ⟨h.four, fun i hi => ?_, fun i j hi hj e => ?_, fun i j hi hj ne => ?_⟩
    · rw [nth_map f hi]; exact h.rg i hi
    · rw [nth_map f hi, nth_map f hj] at e; exact h.inj i j hi hj e
    · rw [nth_map f hi, nth_map f hj]; exact h.tc i j hi hj ne
  · obtain ⟨i, hi, rfl⟩ := List.mem_map.mp hc
    rw [show (0 : Int) = ((0 : Nat) : Int) from rfl, nth_map f (by omega)]
    exact h0 i (List.mem_range.mp hi)
  · rw [hl, show (1 : Int) = ((1 : Nat) : Int) from rfl, nth_map f (by omega), nth_map f (by omega)]
    exact h1
/-- every ring has its told form -/
theorem RingF.told {m : Nat} {as : List (List Int)} {k : Nat} {f : Nat → Int} (h : RingF m as k f) : ∃ r, RingP m as r := by
  have h4 := h.four
  obtain ⟨p, hp, hmin⟩ := least_at f k (by omega)
  have g := h.turn hp
  have g0 : ∀ i, i < k → (fun i => f (if p + i < k then p + i else p + i - k)) 0 ≤ (fun i => f (if p + i < k then p + i else p + i - k)) i := fun i hi => by
    show f _ ≤ f _
    rw [Nat.add_zero, if_pos hp]
    exact hmin _ (by split <;> omega)
  generalize (fun i => f (if p + i < k then p + i else p + i - k)) = g1 at g g0
  by_cases h1 : g1 1 ≤ g1 (k - 1)
  · exact ⟨_, g.list g0 h1⟩
  · refine ⟨_, g.back.list (fun i hi => ?_) ?_⟩
    · show g1 _ ≤ g1 _
      rw [if_pos rfl]
      exact g0 _ (by split <;> omega)
    · show g1 _ ≤ g1 _
      rw [if_neg (by omega), if_neg (by omega), show k - (k - 1) = 1 by omega]
      omega
/-! cliques -/
theorem wi_congr {as : List (List Int)} {a b : List Int} (h : ∀ x, x ∈ a ↔ x ∈ b) : wi as a = wi as b := by
  rw [Bool.eq_iff_iff, wi_iff, wi_iff]
  exact ⟨fun ⟨c, hc, k⟩ => ⟨c, hc, fun x hx => k x ((h x).mpr hx)⟩, fun ⟨c, hc, k⟩ => ⟨c, hc, fun x hx => k x ((h x).mp hx)⟩⟩
structure CliqIn (m : Nat) (as : List (List Int)) (cs : List Int) : Prop where
  three : 3 ≤ cs.length
  nd : cs.Nodup
  rg : ∀ c ∈ cs, 0 ≤ c ∧ c < (m : Int)
  out : wi as cs = false
  near : ∀ c ∈ cs, wi as (cs.filter fun x => decide (x ≠ c)) = true
theorem nd_sI {a : List Int} (h : a.Nodup) : (sI a).Pairwise (· < ·) := by
  have h1 := sI_up a
  have h2 : (sI a).Nodup := (sI_perm a).symm.nodup h
  exact (h1.and h2).imp fun ⟨x, y⟩ => by omega
theorem CliqIn.told {m : Nat} {as : List (List Int)} {cs : List Int} (h : CliqIn m as cs) : CliqP m as (sI cs) := by
  refine ⟨by rw [len_sI]; exact h.three, nd_sI h.nd, fun c hc => h.rg c (mem_sI.mp hc), ?_, fun c hc => ?_⟩
  · rw [wi_congr fun x => mem_sI]; exact h.out
  · rw [wi_congr (b := cs.filter fun x => decide (x ≠ c)) fun x => by rw [List.mem_filter, List.mem_filter, mem_sI]]
    exact h.near c (mem_sI.mp hc)
def PatIn (m : Nat) (as : List (List Int)) : Prop := (∃ k f, RingF m as k f) ∨ ∃ cs, CliqIn m as cs
/-! atoms added within old ones, with new columns -/
structure Grown (s : Nat) (as0 bs : List (List Int)) : Prop where
  old : ∀ a ∈ as0, a ∈ bs
  new : ∀ b ∈ bs, ∃ a ∈ as0, ∀ x ∈ b, x < (s : Int) → x ∈ a
theorem Grown.tch {s : Nat} {as0 bs : List (List Int)} (g : Grown s as0 bs) {x y : Int} (hx : x < (s : Int)) (hy : y < (s : Int)) : tch bs x y = tch as0 x y := by
  rw [Bool.eq_iff_iff, tch_iff, tch_iff]
  refine ⟨fun ⟨h, b, hb, h1, h2⟩ => ?_, fun ⟨h, a, ha, h1, h2⟩ => ⟨h, a, g.old a ha, h1, h2⟩⟩
  obtain ⟨a, ha, k⟩ := g.new b hb
  exact ⟨h, a, ha, k x h1 hx, k y h2 hy⟩
theorem Grown.wi {s : Nat} {as0 bs : List (List Int)} (g : Grown s as0 bs) {cs : List Int} (hc : ∀ c ∈ cs, c < (s : Int)) : wi bs cs = wi as0 cs := by
  rw [Bool.eq_iff_iff, wi_iff, wi_iff]
  refine ⟨fun ⟨b, hb, h⟩ => ?_, fun ⟨a, ha, h⟩ => ⟨a, g.old a ha, h⟩⟩
  obtain ⟨a, ha, k⟩ := g.new b hb
  exact ⟨a, ha, fun c hcc => k c (h c hcc) (hc c hcc)⟩
theorem Grown.pat {s m : Nat} {as0 bs : List (List Int)} (g : Grown s as0 bs) (hm : s ≤ m) (h : PatIn s as0) : PatIn m bs := by
  rcases h with ⟨k, f, h⟩ | ⟨cs, h⟩
  · refine .inl ⟨k, f, h.four, fun i hi => by have := h.rg i hi; omega, h.inj, fun i j hi hj ne => ?_⟩
    rw [g.tch (h.rg i hi).2 (h.rg j hj).2]
    exact h.tc i j hi hj ne
  · refine .inr ⟨cs, h.three, h.nd, fun c hc => by have := h.rg c hc; omega, ?_, fun c hc => ?_⟩
    · rw [g.wi fun c hc => (h.rg c hc).2]; exact h.out
    · rw [g.wi fun x hx => (h.rg x (List.mem_filter.mp hx).1).2]; exact h.near c hc
/-! columns named anew -/
structure Named (m : Nat) (ns : List Int) (as bs : List (List Int)) : Prop where
  perm : ns.Perm (rI m)
  cols : ∀ a ∈ as, ∀ x ∈ a, 0 ≤ x ∧ x < (m : Int)
  to : ∀ a ∈ as, ∃ b ∈ bs, ∀ y, y ∈ b ↔ ∃ x ∈ a, nth ns x = y
  back : ∀ b ∈ bs, ∃ a ∈ as, ∀ y, y ∈ b ↔ ∃ x ∈ a, nth ns x = y
theorem named_inj {m : Nat} {ns : List Int} (p : ns.Perm (rI m)) {a b : Int} (ha : 0 ≤ a ∧ a < (m : Int)) (hb : 0 ≤ b ∧ b < (m : Int)) (e : nth ns a = nth ns b) : a = b := by
  have hl : ns.length = m := by rw [p.length_eq, len_rI]
  have nd : ns.Nodup := p.symm.nodup (nd_rI m)
  unfold nth at e
  have lx : a.toNat < ns.length := by omega
  have ly : b.toNat < ns.length := by omega
  rw [List.getD_eq_getElem?_getD, List.getElem?_eq_getElem lx, List.getD_eq_getElem?_getD, List.getElem?_eq_getElem ly, Option.getD_some, Option.getD_some, List.getElem_inj nd] at e
  omega
theorem named_rg {m : Nat} {ns : List Int} (p : ns.Perm (rI m)) {a : Int} (ha : 0 ≤ a ∧ a < (m : Int)) : 0 ≤ nth ns a ∧ nth ns a < (m : Int) := mem_rI.mp (p.mem_iff.mp (nth_mem ha.1 (by rw [p.length_eq, len_rI]; exact ha.2)))
theorem Named.mem {m : Nat} {ns : List Int} {as bs : List (List Int)} (h : Named m ns as bs) {a b : List Int} (ha : a ∈ as) (e : ∀ y, y ∈ b ↔ ∃ x ∈ a, nth ns x = y) {x : Int} (hx : 0 ≤ x ∧ x < (m : Int)) : nth ns x ∈ b ↔ x ∈ a := by
  rw [e]
  refine ⟨fun ⟨z, hz, q⟩ => ?_, fun k => ⟨x, k, rfl⟩⟩
  rw [← named_inj h.perm (h.cols a ha z hz) hx q]
  exact hz
theorem Named.tch {m : Nat} {ns : List Int} {as bs : List (List Int)} (h : Named m ns as bs) {x y : Int} (hx : 0 ≤ x ∧ x < (m : Int)) (hy : 0 ≤ y ∧ y < (m : Int)) : tch bs (nth ns x) (nth ns y) = tch as x y := by
  rw [Bool.eq_iff_iff, tch_iff, tch_iff]
  refine ⟨fun ⟨ne, b, hb, h1, h2⟩ => ?_, fun ⟨ne, a, ha, h1, h2⟩ => ?_⟩
  · obtain ⟨a, ha, e⟩ := h.back b hb
    exact ⟨fun z => ne (by rw [z]), a, ha, (h.mem ha e hx).mp h1, (h.mem ha e hy).mp h2⟩
  · obtain ⟨b, hb, e⟩ := h.to a ha
    exact ⟨fun z => ne (named_inj h.perm hx hy z), b, hb, (h.mem ha e hx).mpr h1, (h.mem ha e hy).mpr h2⟩
theorem Named.wi {m : Nat} {ns : List Int} {as bs : List (List Int)} (h : Named m ns as bs) {cs : List Int} (hc : ∀ c ∈ cs, 0 ≤ c ∧ c < (m : Int)) : wi bs (cs.map (nth ns)) = wi as cs := by
  rw [Bool.eq_iff_iff, wi_iff, wi_iff]
  refine ⟨fun ⟨b, hb, k⟩ => ?_, fun ⟨a, ha, k⟩ => ?_⟩
  · obtain ⟨a, ha, e⟩ := h.back b hb
    exact ⟨a, ha, fun c hcc => (h.mem ha e (hc c hcc)).mp (k _ (List.mem_map.mpr ⟨c, hcc, rfl⟩))⟩
  · obtain ⟨b, hb, e⟩ := h.to a ha
    refine ⟨b, hb, fun y hy => ?_⟩
    obtain ⟨c, hcc, rfl⟩ := List.mem_map.mp hy
    exact (h.mem ha e (hc c hcc)).mpr (k c hcc)
theorem Named.pat {m : Nat} {ns : List Int} {as bs : List (List Int)} (h : Named m ns as bs) (p : PatIn m as) : PatIn m bs := by
  rcases p with ⟨k, f, g⟩ | ⟨cs, g⟩
  · refine .inl ⟨k, fun i => nth ns (f i), g.four, fun i hi => named_rg h.perm (g.rg i hi), fun i j hi hj e => g.inj i j hi hj (named_inj h.perm (g.rg i hi) (g.rg j hj) e), fun i j hi hj ne => ?_⟩
    rw [h.tch (g.rg i hi) (g.rg j hj)]
    exact g.tc i j hi hj ne
  · refine .inr ⟨cs.map (nth ns), by rw [List.length_map]; exact g.three, ?_, fun c hc => ?_, ?_, fun c hc => ?_⟩
    · rw [List.nodup_iff_pairwise_ne, List.pairwise_map]
      exact List.Pairwise.imp_of_mem (R := (· ≠ ·)) (fun {x y} hx hy hne e => hne (named_inj h.perm (g.rg x hx) (g.rg y hy) e)) g.nd
    · obtain ⟨x, hx, rfl⟩ := List.mem_map.mp hc
      exact named_rg h.perm (g.rg x hx)
    · rw [h.wi g.rg]; exact g.out
    · obtain ⟨x, hx, rfl⟩ := List.mem_map.mp hc
      rw [wi_congr (b := (cs.filter fun z => decide (z ≠ x)).map (nth ns)) fun y => ?_, h.wi fun z hz => g.rg z (List.mem_filter.mp hz).1]
      · exact g.near x hx
      · rw [List.mem_filter, List.mem_map, List.mem_map]
        simp only [decide_eq_true_eq, List.mem_filter]
        exact ⟨fun ⟨⟨z, hz, e⟩, ne⟩ => ⟨z, ⟨hz, fun q => ne (by rw [← e, q])⟩, e⟩, fun ⟨z, ⟨hz, q⟩, e⟩ => ⟨⟨z, hz, e⟩, fun w => q (named_inj h.perm (g.rg z hz) (g.rg x hx) (by rw [e, w]))⟩⟩
/-! the planted ones -/
def ringA (s : Nat) : List (List Int) := (rI s).map fun k => sI [k, (k + 1) % (s : Int)]
def cliqA (s : Nat) : List (List Int) := (rI s).map fun k => (rI s).filter fun c => decide (c ≠ k)
theorem mod_next {s i : Nat} (h : i < s) : (((i : Nat) : Int) + 1) % (s : Int) = if i + 1 = s then 0 else (((i + 1 : Nat) : Nat) : Int) := by
  by_cases e : i + 1 = s
  · rw [if_pos e, show ((i : Nat) : Int) + 1 = ((s : Nat) : Int) by omega, Int.emod_self]
  · rw [if_neg e, Int.emod_eq_of_lt (by omega) (by omega)]
    omega
theorem ring_planted {s : Nat} (h : 4 ≤ s) : RingF s (ringA s) s fun i => ((i : Nat) : Int) := by
  refine ⟨h, fun i hi => by omega, fun i j hi hj e => by omega, fun i j hi hj ne => ?_⟩
  rw [tch_iff]
  unfold ringA adjI
  constructor
  · rintro ⟨_, a, ha, h1, h2⟩
    obtain ⟨k, hk, rfl⟩ := List.mem_map.mp ha
    have bk := mem_rI.mp hk
    obtain ⟨q, rfl⟩ := nat_of bk.1
    rw [mem_sI, mod_next (by omega)] at h1 h2
    simp only [List.mem_cons, List.not_mem_nil, or_false] at h1 h2
    split at h1 <;> omega
  · intro hadj
    refine ⟨by omega, ?_⟩
    have key : ∀ p q : Nat, p < s → q < s → (q = p + 1 ∨ (q = 0 ∧ p + 1 = s)) → ∃ a ∈ (rI s).map fun k => sI [k, (k + 1) % (s : Int)], ((p : Nat) : Int) ∈ a ∧ ((q : Nat) : Int) ∈ a := by
      intro p q hp hq hpq
      refine ⟨_, List.mem_map.mpr ⟨((p : Nat) : Int), mem_rI.mpr (by omega), rfl⟩, mem_sI.mpr List.mem_cons_self, mem_sI.mpr (List.mem_cons_of_mem _ ?_)⟩
      rw [mod_next hp, List.mem_singleton]
      split <;> omega
    by_cases c : j = i + 1 ∨ (j = 0 ∧ i + 1 = s)
    · exact key i j hi hj c
    · obtain ⟨a, ha, x, y⟩ := key j i hj hi (by omega)
      exact ⟨a, ha, y, x⟩
theorem cliq_planted {s : Nat} (h : 3 ≤ s) : CliqIn s (cliqA s) (rI s) := by
  refine ⟨by rw [len_rI]; exact h, nd_rI s, fun c hc => mem_rI.mp hc, ?_, fun c hc => ?_⟩
  · rw [Bool.eq_false_iff]
    intro z
    obtain ⟨a, ha, k⟩ := wi_iff.mp z
    unfold cliqA at ha
    obtain ⟨q, hq, rfl⟩ := List.mem_map.mp ha
    have := (List.mem_filter.mp (k q hq)).2
    simp at this
  · exact wi_iff.mpr ⟨_, List.mem_map.mpr ⟨c, hc, rfl⟩, fun x hx => hx⟩
/-! ## rings, found step by step -/
def rgI (lo hi : Int) : List Int := (List.range (hi - lo).toNat).map fun k : Nat => lo + (k : Nat)
theorem mem_rgI {lo hi c : Int} : c ∈ rgI lo hi ↔ lo ≤ c ∧ c < hi := by
  unfold rgI
  rw [List.mem_map]
  constructor
  · rintro ⟨k, hk, rfl⟩
    rw [List.mem_range] at hk
    omega
  · rintro ⟨h0, h1⟩
    exact ⟨(c - lo).toNat, List.mem_range.mpr (by omega), by omega⟩
theorem len_rgI (lo hi : Int) : (rgI lo hi).length = (hi - lo).toNat := by unfold rgI; rw [List.length_map, List.length_range]
def lnk (as : List (List Int)) (w : List Int) (c : Int) : List Int := w.dropLast.filter fun o => tch as o c
def lastI (w : List Int) : Int := nth w ((w.length - 1 : Nat) : Nat)
def opn (as : List (List Int)) (w : List Int) (c : Int) : Bool := decide (c ∉ w) && tch as (lastI w) c
def extB (as : List (List Int)) (w : List Int) (c : Int) : Bool := opn as w c && decide ((lnk as w c).length = 0)
def fndB (as : List (List Int)) (w : List Int) (c : Int) : Bool := opn as w c && (!decide ((lnk as w c).length = 0) && (decide (lnk as w c = [nth w 0]) && (decide (2 < w.length) && decide (nth w 1 < c))))
def ext (m : Nat) (as : List (List Int)) (w : List Int) : List (List Int) := ((rgI (nth w 0 + 1) m).filter fun c => extB as w c).map fun c => w ++ [c]
def fnd (m : Nat) (as : List (List Int)) (w : List Int) : List (List Int) := ((rgI (nth w 0 + 1) m).filter fun c => fndB as w c).map fun c => w ++ [c]
def bfsW (m : Nat) (as : List (List Int)) : Nat → List (List Int)
  | 0 => (rI m).map fun c => [c]
  | t + 1 => (bfsW m as t).flatMap (ext m as)
def bfsF (m : Nat) (as : List (List Int)) : Nat → List (List Int)
  | 0 => []
  | t + 1 => bfsF m as t ++ (bfsW m as t).flatMap (fnd m as)
structure PathP (m : Nat) (as : List (List Int)) (w : List Int) : Prop where
  one : 1 ≤ w.length
  rg : ∀ c ∈ w, 0 ≤ c ∧ c < (m : Int)
  inj : ∀ i j : Nat, i < w.length → j < w.length → nth w (i : Nat) = nth w (j : Nat) → i = j
  least : ∀ c ∈ w, nth w 0 ≤ c
  tc : ∀ i j : Nat, i < j → j < w.length → (tch as (nth w (i : Nat)) (nth w (j : Nat)) = true ↔ j = i + 1)
theorem nth_app {w : List Int} {c : Int} {i : Nat} (h : i < w.length) : nth (w ++ [c]) (i : Nat) = nth w (i : Nat) := by
  rw [nth_get h, nth_get (by rw [List.length_append]; omega), List.getElem_append_left h]
theorem nth_snoc (w : List Int) (c : Int) : nth (w ++ [c]) (w.length : Nat) = c := by
  rw [nth_get (by rw [List.length_append, List.length_singleton]; omega), List.getElem_append_right (Nat.le_refl _)]
  simp
theorem nth_in {w : List Int} {i : Nat} (h : i < w.length) : nth w (i : Nat) ∈ w := by
  rw [nth_get h]
  exact List.getElem_mem h
theorem in_nth {w : List Int} {c : Int} (h : c ∈ w) : ∃ i : Nat, i < w.length ∧ nth w (i : Nat) = c := by
  obtain ⟨i, hi, rfl⟩ := List.mem_iff_getElem.mp h
  exact ⟨i, hi, nth_get hi⟩
theorem in_drop {w : List Int} {c : Int} : c ∈ w.dropLast ↔ ∃ i : Nat, i + 1 < w.length ∧ nth w (i : Nat) = c := by
  constructor
  · intro h
    obtain ⟨i, hi, rfl⟩ := List.mem_iff_getElem.mp h
    rw [List.length_dropLast] at hi
    exact ⟨i, by omega, by rw [nth_get (by omega), List.getElem_dropLast]⟩
  · rintro ⟨i, hi, rfl⟩
    rw [nth_get (by omega)]
    exact List.mem_iff_getElem.mpr ⟨i, by rw [List.length_dropLast]; omega, by rw [List.getElem_dropLast]⟩
theorem opn_iff {as : List (List Int)} {w : List Int} {c : Int} : opn as w c = true ↔ c ∉ w ∧ tch as (lastI w) c = true := by
  unfold opn
  rw [Bool.and_eq_true, decide_eq_true_eq]
theorem ext_path {m : Nat} {as : List (List Int)} {w w' : List Int} (h : PathP m as w) (hw : w' ∈ ext m as w) : PathP m as w' ∧ w'.length = w.length + 1 := by
  have h1 := h.one
  unfold ext at hw
  obtain ⟨c, hc, rfl⟩ := List.mem_map.mp hw
  rw [List.mem_filter, mem_rgI] at hc
  obtain ⟨⟨c0, c1⟩, e⟩ := hc
  unfold extB at e
  rw [Bool.and_eq_true, opn_iff, decide_eq_true_eq] at e
  obtain ⟨⟨e1, e2⟩, e3⟩ := e
  have e3 := List.eq_nil_of_length_eq_zero e3
  have z0 := h.rg _ (nth_in (w := w) (i := 0) (by omega))
  have hl : (w ++ [c]).length = w.length + 1 := by rw [List.length_append, List.length_singleton]
  refine ⟨⟨by omega, fun x hx => ?_, fun i j hi hj e => ?_, fun x hx => ?_, fun i j hij hj => ?_⟩, hl⟩
  · rcases List.mem_append.mp hx with hx | hx
    · exact h.rg x hx
    · rw [List.mem_singleton.mp hx]
      have : (0 : Int) ≤ nth w 0 := z0.1
      omega
  · rw [hl] at hi hj
    by_cases a : i < w.length <;> by_cases b : j < w.length
    · rw [nth_app a, nth_app b] at e
      exact h.inj i j a b e
    · have : j = w.length := by omega
      subst this
      rw [nth_app a, nth_snoc] at e
      exact absurd (e ▸ nth_in a) e1
    · have : i = w.length := by omega
      subst this
      rw [nth_app b, nth_snoc] at e
      exact absurd (e ▸ nth_in b) e1
    · omega
  · rw [show (0 : Int) = ((0 : Nat) : Int) from rfl, nth_app (by omega)]
    rcases List.mem_append.mp hx with hx | hx
    · exact h.least x hx
    · rw [List.mem_singleton.mp hx]
      show nth w 0 ≤ c
      omega
  · rw [hl] at hj
    by_cases b : j < w.length
    · rw [nth_app (by omega), nth_app b]
      exact h.tc i j hij b
    · have : j = w.length := by omega
      subst this
      rw [nth_app (by omega), nth_snoc]
      by_cases a : i + 1 < w.length
      · refine ⟨fun t => ?_, fun t => by omega⟩
        have : nth w (i : Nat) ∈ lnk as w c := List.mem_filter.mpr ⟨in_drop.mpr ⟨i, a, rfl⟩, t⟩
        rw [e3] at this
        cases this
      · have : i = w.length - 1 := by omega
        subst this
        exact ⟨fun _ => by omega, fun _ => e2⟩
theorem fnd_ring {m : Nat} {as : List (List Int)} {w r : List Int} (h : PathP m as w) (hr : r ∈ fnd m as w) : RingP m as r := by
  have h1 := h.one
  unfold fnd at hr
  obtain ⟨c, hc, rfl⟩ := List.mem_map.mp hr
  rw [List.mem_filter, mem_rgI] at hc
  obtain ⟨⟨c0, c1⟩, e⟩ := hc
  unfold fndB at e
  rw [Bool.and_eq_true, opn_iff] at e
  simp only [Bool.and_eq_true, decide_eq_true_eq, Bool.not_eq_true', decide_eq_false_iff_not] at e
  obtain ⟨⟨e1, e2⟩, _, e3, e4, e5⟩ := e
  have z0 := h.rg _ (nth_in (w := w) (i := 0) (by omega))
  have hl : (w ++ [c]).length = w.length + 1 := by rw [List.length_append, List.length_singleton]
  have tl : ∀ i : Nat, i < w.length → (tch as (nth w (i : Nat)) c = true ↔ i + 1 = w.length ∨ i = 0) := fun i hi => by
    by_cases a : i + 1 = w.length
    · refine ⟨fun _ => .inl a, fun _ => ?_⟩
      rw [show i = w.length - 1 by omega]
      exact e2
    · constructor
      · intro t
        have : nth w (i : Nat) ∈ lnk as w c := List.mem_filter.mpr ⟨in_drop.mpr ⟨i, by omega, rfl⟩, t⟩
        rw [e3, List.mem_singleton] at this
        exact .inr (h.inj i 0 hi (by omega) this)
      · rintro (z | rfl)
        · exact absurd z a
        · have : nth w 0 ∈ lnk as w c := by rw [e3]; exact List.mem_singleton.mpr rfl
          exact (List.mem_filter.mp this).2
  refine ⟨⟨by omega, fun i hi => ?_, fun i j hi hj e => ?_, fun i j hi hj ne => ?_⟩, fun x hx => ?_, ?_⟩
  · rw [hl] at hi
    by_cases a : i < w.length
    · rw [nth_app a]; exact h.rg _ (nth_in a)
    · rw [show i = w.length by omega, nth_snoc]
      have : (0 : Int) ≤ nth w 0 := z0.1
      omega
  · rw [hl] at hi hj
    by_cases a : i < w.length <;> by_cases b : j < w.length
    · rw [nth_app a, nth_app b] at e
      exact h.inj i j a b e
    · have : j = w.length := by omega
      subst this
      rw [nth_app a, nth_snoc] at e
      exact absurd (e ▸ nth_in a) e1
    · have : i = w.length := by omega
      subst this
      rw [nth_app b, nth_snoc] at e
      exact absurd (e ▸ nth_in b) e1
    · omega
  · rw [hl] at hi hj ⊢
    unfold adjI
    by_cases a : i < w.length <;> by_cases b : j < w.length
    · rw [nth_app a, nth_app b]
      rcases Nat.lt_or_gt_of_ne ne with q | q
      · rw [h.tc i j q b]; omega
      · rw [tch_comm, h.tc j i q a]; omega
    · have : j = w.length := by omega
      subst this
      rw [nth_app a, nth_snoc, tl i a]
      omega
    · have : i = w.length := by omega
      subst this
      rw [nth_app b, nth_snoc, tch_comm, tl j b]
      omega
    · omega
  · rw [show (0 : Int) = ((0 : Nat) : Int) from rfl, nth_app (by omega)]
    rcases List.mem_append.mp hx with hx | hx
    · exact h.least x hx
    · rw [List.mem_singleton.mp hx]
      show nth w 0 ≤ c
      omega
  · rw [hl, show w.length + 1 - 1 = w.length by omega, nth_snoc, show (1 : Int) = ((1 : Nat) : Int) from rfl, nth_app (by omega)]
    show nth w 1 ≤ c
    omega
theorem nth_take {r : List Int} {t i : Nat} (h : i < t) (ht : t ≤ r.length) : nth (r.take t) (i : Nat) = nth r (i : Nat) := by
  rw [nth_get (by rw [List.length_take]; omega), nth_get (by omega), List.getElem_take]
theorem take_snoc {r : List Int} {t : Nat} (ht : t < r.length) : r.take (t + 1) = r.take t ++ [nth r (t : Nat)] := by
  rw [nth_get ht, List.take_succ, List.getElem?_eq_getElem ht]
  rfl
/-- what follows a beginning of a ring -/
theorem ring_opn {m : Nat} {as : List (List Int)} {r : List Int} (h : RingP m as r) {t : Nat} (h1 : 1 ≤ t) (ht : t < r.length) : nth r (t : Nat) ∈ rgI (nth (r.take t) 0 + 1) m ∧ opn as (r.take t) (nth r (t : Nat)) = true := by
  have hf := h.ring
  have hl : (r.take t).length = t := by rw [List.length_take]; omega
  refine ⟨mem_rgI.mpr ⟨?_, (hf.rg t ht).2⟩, opn_iff.mpr ⟨fun z => ?_, ?_⟩⟩
  · have e : nth (r.take t) 0 = nth r 0 := nth_take (i := 0) (by omega) (by omega)
    rw [e]
    have := h.least _ (nth_in ht)
    have ne : nth r 0 ≠ nth r (t : Nat) := fun q => by have := hf.inj 0 t (by omega) ht q; omega
    omega
  · obtain ⟨i, hi, e⟩ := in_nth z
    rw [nth_take (by omega) (by omega)] at e
    have := hf.inj i t (by omega) ht e
    omega
  · unfold lastI
    rw [hl, nth_take (by omega) (by omega)]
    refine (hf.tc (t - 1) t (by omega) ht (by omega)).mpr (.inl (by omega))
theorem ring_lnk {m : Nat} {as : List (List Int)} {r : List Int} (h : RingP m as r) {t : Nat} (h1 : 1 ≤ t) (ht : t < r.length) {o : Int} (ho : o ∈ lnk as (r.take t) (nth r (t : Nat))) : o = nth r 0 ∧ t + 1 = r.length := by
  have hf := h.ring
  have hl : (r.take t).length = t := by rw [List.length_take]; omega
  obtain ⟨i1, i2⟩ := List.mem_filter.mp ho
  obtain ⟨i, hi, rfl⟩ := in_drop.mp i1
  rw [hl] at hi
  rw [nth_take (by omega) (by omega)] at i2 ⊢
  have := (hf.tc i t (by omega) ht (by omega)).mp i2
  unfold adjI at this
  have e : i = 0 ∧ t + 1 = r.length := by omega
  rw [e.1]
  exact ⟨rfl, e.2⟩
theorem ring_step {m : Nat} {as : List (List Int)} {r : List Int} (h : RingP m as r) {t : Nat} (h1 : 1 ≤ t) (ht : t + 1 < r.length) : r.take (t + 1) ∈ ext m as (r.take t) := by
  obtain ⟨k1, k2⟩ := ring_opn h h1 (by omega)
  rw [take_snoc (by omega)]
  refine List.mem_map.mpr ⟨_, List.mem_filter.mpr ⟨k1, ?_⟩, rfl⟩
  unfold extB
  rw [k2, Bool.true_and, decide_eq_true_eq]
  refine Nat.eq_zero_of_not_pos fun p => ?_
  obtain ⟨o, ho⟩ := List.exists_mem_of_length_pos p
  have := (ring_lnk h h1 (by omega) ho).2
  omega
theorem ring_last {m : Nat} {as : List (List Int)} {r : List Int} (h : RingP m as r) : r ∈ fnd m as (r.take (r.length - 1)) := by
  have hf := h.ring
  have h4 := hf.four
  obtain ⟨k1, k2⟩ := ring_opn h (t := r.length - 1) (by omega) (by omega)
  have e : r.take (r.length - 1) ++ [nth r ((r.length - 1 : Nat) : Nat)] = r := by
    rw [← take_snoc (by omega), show r.length - 1 + 1 = r.length by omega, List.take_length]
  have hl : (r.take (r.length - 1)).length = r.length - 1 := by rw [List.length_take]; omega
  have e0 : nth (r.take (r.length - 1)) 0 = nth r 0 := nth_take (i := 0) (by omega) (by omega)
  have e1 : nth (r.take (r.length - 1)) 1 = nth r 1 := nth_take (i := 1) (by omega) (by omega)
  have el : lnk as (r.take (r.length - 1)) (nth r ((r.length - 1 : Nat) : Nat)) = [nth r 0] := by
    have m0 : nth r 0 ∈ lnk as (r.take (r.length - 1)) (nth r ((r.length - 1 : Nat) : Nat)) := by
      refine List.mem_filter.mpr ⟨in_drop.mpr ⟨0, by omega, e0⟩, ?_⟩
      exact (hf.tc 0 (r.length - 1) (by omega) (by omega) (by omega)).mpr (.inr (.inr (.inl ⟨rfl, by omega⟩)))
    have nd : (lnk as (r.take (r.length - 1)) (nth r ((r.length - 1 : Nat) : Nat))).Nodup := by
      refine List.Nodup.sublist (List.filter_sublist) ?_
      refine List.Nodup.sublist (List.dropLast_sublist _) ?_
      refine List.Nodup.sublist (List.take_sublist _ _) ?_
      rw [List.nodup_iff_pairwise_ne, List.pairwise_iff_getElem]
      intro i j hi hj hij q
      have := hf.inj i j hi hj (by rw [nth_get hi, nth_get hj]; exact q)
      omega
    have all0 : ∀ o ∈ lnk as (r.take (r.length - 1)) (nth r ((r.length - 1 : Nat) : Nat)), o = nth r 0 := fun o ho => (ring_lnk h (by omega) (by omega) ho).1
    generalize lnk as (r.take (r.length - 1)) (nth r ((r.length - 1 : Nat) : Nat)) = l at m0 nd all0
    match l, m0, nd, all0 with
    | [a], _, _, q => rw [q a List.mem_cons_self]
    | a :: b :: l, _, nd, q =>
      rw [List.nodup_cons] at nd
      exact absurd (by rw [q a List.mem_cons_self, q b (List.mem_cons_of_mem _ List.mem_cons_self)]; exact List.mem_cons_self) nd.1
  refine List.mem_map.mpr ⟨nth r ((r.length - 1 : Nat) : Nat), List.mem_filter.mpr ⟨k1, ?_⟩, e⟩
  unfold fndB
  rw [k2, el, e0, e1, hl]
  have w1 := h.way
  have ne : nth r 1 ≠ nth r ((r.length - 1 : Nat) : Nat) := fun q => by have := hf.inj 1 (r.length - 1) (by omega) (by omega) q; omega
  rw [decide_eq_true (show 2 < r.length - 1 by omega), decide_eq_true (show nth r 1 < nth r ((r.length - 1 : Nat) : Nat) by omega)]
  simp
theorem bfs_sound {m : Nat} {as : List (List Int)} : ∀ t : Nat, (∀ w ∈ bfsW m as t, PathP m as w ∧ w.length = t + 1) ∧ ∀ r ∈ bfsF m as t, RingP m as r
  | 0 => ⟨fun w hw => by
      obtain ⟨c, hc, rfl⟩ := List.mem_map.mp hw
      have bc := mem_rI.mp hc
      exact ⟨⟨by simp, fun x hx => by rw [List.mem_singleton.mp hx]; exact bc, fun i j hi hj _ => by simp at hi hj; omega, fun x hx => by rw [List.mem_singleton.mp hx]; exact Int.le_refl _, fun i j hij hj => by simp at hj; omega⟩, rfl⟩, fun _ h => nomatch h⟩
  | t + 1 => by
    obtain ⟨s1, s2⟩ := bfs_sound (m := m) (as := as) t
    refine ⟨fun w hw => ?_, fun r hr => ?_⟩
    · obtain ⟨v, hv, hw⟩ := List.mem_flatMap.mp hw
      obtain ⟨p, l⟩ := s1 v hv
      obtain ⟨a, b⟩ := ext_path p hw
      exact ⟨a, by omega⟩
    · rcases List.mem_append.mp hr with hr | hr
      · exact s2 r hr
      · obtain ⟨v, hv, hr⟩ := List.mem_flatMap.mp hr
        exact fnd_ring (s1 v hv).1 hr
theorem bfs_whole {m : Nat} {as : List (List Int)} {r : List Int} (h : RingP m as r) : ∀ t : Nat, (t + 2 ≤ r.length → r.take (t + 1) ∈ bfsW m as t) ∧ (r.length ≤ t + 1 → r ∈ bfsF m as t)
  | 0 => by
    have h4 := h.ring.four
    refine ⟨fun _ => List.mem_map.mpr ⟨nth r 0, mem_rI.mpr (h.ring.rg 0 (by omega)), ?_⟩, fun z => by omega⟩
    rw [take_snoc (by omega), List.take_zero]
    rfl
  | t + 1 => by
    obtain ⟨s1, s2⟩ := bfs_whole h t
    refine ⟨fun z => List.mem_flatMap.mpr ⟨_, s1 (by omega), ring_step h (by omega) (by omega)⟩, fun z => ?_⟩
    by_cases q : r.length ≤ t + 1
    · exact List.mem_append_left _ (s2 q)
    · refine List.mem_append_right _ (List.mem_flatMap.mpr ⟨_, s1 (by omega), ?_⟩)
      have e : t + 1 = r.length - 1 := by omega
      rw [e]
      exact ring_last h
theorem ring_few {m : Nat} {as : List (List Int)} {r : List Int} (h : RingP m as r) : r.length ≤ m := by
  have : Cols m r := by
    refine ⟨?_, fun c hc => ?_⟩
    · rw [List.nodup_iff_pairwise_ne, List.pairwise_iff_getElem]
      intro i j hi hj hij q
      have := h.ring.inj i j hi hj (by rw [nth_get hi, nth_get hj]; exact q)
      omega
    · obtain ⟨i, hi, rfl⟩ := in_nth hc
      exact h.ring.rg i hi
  exact this.len
theorem bfs_finds {m : Nat} {as : List (List Int)} {r : List Int} (h : RingP m as r) : r ∈ bfsF m as m := (bfs_whole h m).2 (by have := ring_few h; omega)
end Pl

namespace Pl
open PySem PySem.Spec PyProof.Rows L2

/-! is_ascending(things): registers  -/
abbrev N_is_ascending : List Str := ["things", "k"]
def e_is_ascending_1 : E := (.cmp .lt (.idx (.var 0) (.var 1)) (.idx (.var 0) (.bop .add (.var 1) (.lit (.int 1)))))
def b_is_ascending : Ss :=
 (.cons (.ret (.bi .all (.cons (.lc (.one 1) [1] (.rng1 (.bop .sub (.bi .len (.cons (.var 0) .nil)) (.lit (.int 1)))) .no e_is_ascending_1) .nil))) .nil)
-- calls: ; np 0, n 0; slots 0:things 1:k

/-! touch(query, x, y): registers  -/
abbrev N_touch : List Str := ["query", "x", "y", "atom"]
def e_touch_1 : E := (.and (.cmp .isin (.var 1) (.var 3)) (.cons (.cmp .isin (.var 2) (.var 3)) .nil))
def b_touch : Ss :=
 (.cons (.iff (.cmp .eq (.var 1) (.var 2)) (
  (.cons (.ret (.lit (.bool false))) .nil)) ( .nil))
 (.cons (.ret (.bi .any (.cons (.lc (.one 3) [3] (.seq (.idx (.var 0) (.lit (.int 2)))) .no e_touch_1) .nil))) .nil))
-- calls: ; np 0, n 0; slots 0:query 1:x 2:y 3:atom

/-! without(things, thing): registers  -/
abbrev N_without : List Str := ["things", "thing", "one"]
def c_without_1 : Eo := (.so (.cmp .ne (.var 2) (.var 1)))
def e_without_1 : E := (.var 2)
def b_without : Ss :=
 (.cons (.ret (.bi .tuple (.cons (.lc (.one 2) [2] (.seq (.var 0)) c_without_1 e_without_1) .nil))) .nil)
-- calls: ; np 0, n 0; slots 0:things 1:thing 2:one

/-! within_atom(query, columns): registers  -/
abbrev N_within_atom : List Str := ["query", "columns", "atom", "column"]
def e_within_atom_1 : E := (.cmp .isin (.var 3) (.var 2))
def e_within_atom_2 : E := (.bi .all (.cons (.lc (.one 3) [3] (.seq (.var 1)) .no e_within_atom_1) .nil))
def b_within_atom : Ss :=
 (.cons (.ret (.bi .any (.cons (.lc (.one 2) [2] (.seq (.idx (.var 0) (.lit (.int 2)))) .no e_within_atom_2) .nil))) .nil)
-- calls: ; np 0, n 0; slots 0:query 1:columns 2:atom 3:column

/-! is_clique(query, columns): registers  -/
abbrev N_is_clique : List Str := ["query", "columns", "column"]
def e_is_clique_1 : E := (.call 0 (.cons (.var 0) (.cons (.call 1 (.cons (.var 1) (.cons (.var 2) .nil))) .nil)))
def b_is_clique : Ss :=
 (.cons (.iff (.or (.cmp .lt (.bi .len (.cons (.var 1) .nil)) (.lit (.int 3))) (.cons (.call 0 (.cons (.var 0) (.cons (.var 1) .nil))) .nil)) (
  (.cons (.ret (.lit (.bool false))) .nil)) ( .nil))
 (.cons (.ret (.bi .all (.cons (.lc (.one 2) [2] (.seq (.var 1)) .no e_is_clique_1) .nil))) .nil))
-- calls: within_atom, without; np 0, n 0; slots 0:query 1:columns 2:column

/-! are_different(columns, query): registers  -/
abbrev N_are_different : List Str := ["columns", "query", "column"]
def e_are_different_1 : E := (.chn .le .lt (.lit (.int 0)) (.var 2) (.idx (.var 1) (.lit (.int 1))))
def b_are_different : Ss :=
 (.cons (.iff (.cmp .ne (.nset (.var 0)) (.bi .len (.cons (.var 0) .nil))) (
  (.cons (.ret (.lit (.bool false))) .nil)) ( .nil))
 (.cons (.ret (.bi .all (.cons (.lc (.one 2) [2] (.seq (.var 0)) .no e_are_different_1) .nil))) .nil))
-- calls: ; np 0, n 0; slots 0:columns 1:query 2:column

/-! is_ring(query, columns): registers  -/
abbrev N_is_ring : List Str := ["query", "columns", "many", "i", "j", "is_next"]
def r_is_ring_1 : Ss :=
 (.cons (.iff (.cmp .ne (.call 1 (.cons (.var 0) (.cons (.idx (.var 1) (.var 3)) (.cons (.idx (.var 1) (.var 4)) .nil)))) (.var 5)) (
  (.cons (.ret (.lit (.bool false))) .nil)) ( .nil)) .nil)
def l_is_ring_1 : Ss :=
 (.cons (.asg 5 none (.or (.cmp .eq (.var 4) (.bop .add (.var 3) (.lit (.int 1)))) (.cons (.and (.cmp .eq (.var 3) (.lit (.int 0))) (.cons (.cmp .eq (.var 4) (.bop .sub (.var 2) (.lit (.int 1)))) .nil)) .nil))) r_is_ring_1)
def l_is_ring_2 : Ss :=
 (.cons (.for [] (.one 4) (.rng2 (.bop .add (.var 3) (.lit (.int 1))) (.var 2)) l_is_ring_1) .nil)
def b_is_ring : Ss :=
 (.cons (.asg 2 none (.bi .len (.cons (.var 1) .nil)))
 (.cons (.iff (.or (.cmp .lt (.var 2) (.lit (.int 4))) (.cons (.not (.call 0 (.cons (.var 1) (.cons (.var 0) .nil)))) .nil)) (
  (.cons (.ret (.lit (.bool false))) .nil)) ( .nil))
 (.cons (.iff (.or (.cmp .ne (.idx (.var 1) (.lit (.int 0))) (.bi .min1 (.cons (.var 1) .nil))) (.cons (.cmp .gt (.idx (.var 1) (.lit (.int 1))) (.idx (.var 1) (.neg (.lit (.int 1))))) .nil)) (
  (.cons (.ret (.lit (.bool false))) .nil)) ( .nil))
 (.cons (.for [] (.one 3) (.rng1 (.var 2)) l_is_ring_2)
 (.cons (.ret (.lit (.bool true))) .nil)))))
-- calls: are_different, touch; np 0, n 0; slots 0:query 1:columns 2:many 3:i 4:j 5:is_next

/-! judge_pattern(query, pattern): registers  -/
abbrev N_judge_pattern : List Str := ["query", "pattern", "word", "columns"]
def b_judge_pattern : Ss :=
 (.cons (.iff (.cmp .ne (.bi .len (.cons (.var 1) .nil)) (.lit (.int 2))) (
  (.cons (.ret (.lit (.bool false))) .nil)) ( .nil))
 (.cons (.asgT [2, 3] (.var 1))
 (.cons (.iff (.cmp .eq (.var 2) (.lit (.str ("ring" : Str)))) (
  (.cons (.ret (.call 0 (.cons (.var 0) (.cons (.var 3) .nil)))) .nil)) ( .nil))
 (.cons (.iff (.or (.cmp .ne (.var 2) (.lit (.str ("clique" : Str)))) (.cons (.not (.call 1 (.cons (.var 3) (.cons (.var 0) .nil)))) .nil)) (
  (.cons (.ret (.lit (.bool false))) .nil)) ( .nil))
 (.cons (.ret (.and (.call 2 (.cons (.var 3) .nil)) (.cons (.call 3 (.cons (.var 0) (.cons (.var 3) .nil))) .nil))) .nil)))))
-- calls: is_ring, are_different, is_ascending, is_clique; np 0, n 0; slots 0:query 1:pattern 2:word 3:columns

/-! _law_touch(query, x, y): registers  -/
abbrev N__law_touch : List Str := ["query", "x", "y", "atom"]
def e__law_touch_1 : E := (.and (.cmp .isin (.var 1) (.var 3)) (.cons (.cmp .isin (.var 2) (.var 3)) .nil))
def b__law_touch : Ss :=
 (.cons (.ret (.and (.cmp .ne (.var 1) (.var 2)) (.cons (.bi .any (.cons (.lc (.one 3) [3] (.seq (.idx (.var 0) (.lit (.int 2)))) .no e__law_touch_1) .nil)) .nil))) .nil)
-- calls: ; np 0, n 0; slots 0:query 1:x 2:y 3:atom

/-! _law_knot(d, most): registers d=0 -/
abbrev N__law_knot : List Str := ["d", "most"]
def b__law_knot : Ss :=
 (.cons (.iff (.cmp .eq (.call 0 (.cons (.var 0) (.cons (.lit (.int 2)) .nil))) (.lit (.int 0))) (
  (.cons (.ret (.call 1 (.cons (.var 0) (.cons (.bop .add (.lit (.int 4)) (.call 0 (.cons (.var 0) (.cons (.bop .sub (.var 1) (.lit (.int 3))) .nil)))) (.cons (.lit (.int 0)) .nil))))) .nil)) ( .nil))
 (.cons (.ret (.call 2 (.cons (.var 0) (.cons (.bop .add (.lit (.int 3)) (.call 0 (.cons (.var 0) (.cons (.bop .sub (.var 1) (.lit (.int 2))) .nil)))) (.cons (.lit (.int 0)) .nil))))) .nil))
-- calls: _law_draw, _law_ring_query, _law_clique_query; np 1, n 0; slots 0:d 1:most

/-! _law_absent(columns, atom): registers  -/
abbrev N__law_absent : List Str := ["columns", "atom", "column"]
def c__law_absent_1 : Eo := (.so (.cmp .notin (.var 2) (.var 1)))
def e__law_absent_1 : E := (.var 2)
def b__law_absent : Ss :=
 (.cons (.ret (.lc (.one 2) [2] (.seq (.var 0)) c__law_absent_1 e__law_absent_1)) .nil)
-- calls: ; np 0, n 0; slots 0:columns 1:atom 2:column

/-! _law_rings(query): registers found=0, longer=1 -/
abbrev N__law_rings : List Str := ["query", "found", "ways", "step", "longer", "way", "column", "linked", "other"]
def e__law_rings_1 : E := (.tup (.cons (.var 6) .nil))
def c__law_rings_1 : Eo := (.so (.call 0 (.cons (.var 0) (.cons (.var 8) (.cons (.var 6) .nil)))))
def e__law_rings_2 : E := (.var 8)
def l__law_rings_1 : Ss :=
 (.cons (.iff (.and (.cmp .notin (.var 6) (.var 5)) (.cons (.call 0 (.cons (.var 0) (.cons (.idx (.var 5) (.neg (.lit (.int 1)))) (.cons (.var 6) .nil)))) .nil)) (
  (.cons (.asg 7 none (.lc (.one 8) [8] (.seq (.sli (.var 5) .no (.so (.neg (.lit (.int 1)))))) c__law_rings_1 e__law_rings_2))
  (.cons (.iff (.cmp .eq (.bi .len (.cons (.var 7) .nil)) (.lit (.int 0))) (
   (.cons (.exp (.met .append (.var 4) (.cons (.bop .add (.var 5) (.tup (.cons (.var 6) .nil))) .nil))) .nil)) (
   (.cons (.iff (.and (.cmp .eq (.var 7) (.lst (.cons (.idx (.var 5) (.lit (.int 0))) .nil))) (.cons (.cmp .gt (.bi .len (.cons (.var 5) .nil)) (.lit (.int 2))) (.cons (.cmp .lt (.idx (.var 5) (.lit (.int 1))) (.var 6)) .nil))) (
    (.cons (.exp (.met .append (.var 1) (.cons (.bop .add (.var 5) (.tup (.cons (.var 6) .nil))) .nil))) .nil)) ( .nil)) .nil))) .nil))) ( .nil)) .nil)
def l__law_rings_2 : Ss :=
 (.cons (.for [] (.one 6) (.rng2 (.bop .add (.idx (.var 5) (.lit (.int 0))) (.lit (.int 1))) (.idx (.var 0) (.lit (.int 1)))) l__law_rings_1) .nil)
def l__law_rings_3 : Ss :=
 (.cons (.asg 4 (some 1) (.lst .nil))
 (.cons (.for [] (.one 5) (.seq (.var 2)) l__law_rings_2)
 (.cons (.frz 4 1)
 (.cons (.asg 2 none (.var 4)) .nil))))
def b__law_rings : Ss :=
 (.cons (.asg 1 (some 0) (.lst .nil))
 (.cons (.asg 2 none (.lc (.one 6) [6] (.rng1 (.idx (.var 0) (.lit (.int 1)))) .no e__law_rings_1))
 (.cons (.for [] (.one 3) (.rng1 (.idx (.var 0) (.lit (.int 1)))) l__law_rings_3)
 (.cons (.retP 1 0) .nil))))
-- calls: _law_touch; np 0, n 2; slots 0:query 1:found 2:ways 3:step 4:longer 5:way 6:column 7:linked 8:other

-- constants: {}; not covered 0

local macro_rules | `(tactic| decreasing_trivial) => `(tactic| try simp only [wSs, wS, wE, wEs, wEo, wCond, wSrc, wAnd, wOr, Bool.false_eq_true, if_false, Bool.not_true, Bool.not_false, asT, onView_dat, onD_dat, fz_dat, fz_ptr, fz_fr, settled_dat, settled_ptr,  List.getElem?_cons_zero, List.getElem?_cons_succ, List.set_cons_zero, List.set_cons_succ, List.length_cons, List.length_nil, Nat.reduceAdd, Option.some.injEq, exists_eq_left', true_and, and_true, if_true, decide_eq_true_eq, Int.reduceToNat, Int.reducePow, Int.reduceLE, Int.reduceLT, Int.reduceMul, Int.reduceAdd, Int.reduceSub, Int.reduceNeg, Nat.reduceLT, Nat.reduceLeDiff, Nat.reduceMul, Nat.reducePow, Int.reduceAbs, Nat.reduceSub, List.map, List.replicate, List.cons_append, List.nil_append, List.append_nil, regsOf, renum, List.nodup_nil, r_add, r_adds, r_addt, r_addl, r_sub, r_mul, r_mull, r_mult, r_fdiv, r_mod, r_pow, r_band, r_bor, r_bxor, r_shl, r_shr, r_lt, r_le, r_gt, r_ge, r_lts, r_eq, r_ne, r_isin, r_notin, r_isin_list, r_isin_tuple, r_notin_list, r_notin_tuple, r_isnone, r_notnone, r_ixl, r_ixt, r_ixs, r_sll, r_slt, r_sls, r_len, r_int, r_intb, r_abs, r_min2, r_max2, r_sum, r_min1, r_max1, r_all, r_any, r_list, r_listt, r_tup, r_tupt, r_rl1, r_rl2, r_rt1, r_rt2, r_sort, r_sortt, r_isi, r_lenl, r_lent, r_lens, r_augi, r_augs, r_bitl, r_split, r_wtg, r_wtgm, r_at0, r_at1, r_at2, r_at3, r_at4, r_at5, r_ix1_0, r_ix2_0, r_ix2_1, r_ix3_0, r_ix3_1, r_ix3_2, r_ix4_0, r_ix4_1, r_ix4_2, r_ix4_3, r_ix5_0, r_ix5_1, r_ix5_2, r_ix5_3, r_ix5_4, r_v0, r_lenp0, r_typ0, r_app0, r_pop0, r_popAt0, r_ext0, r_outs0, r_v1, r_lenp1, r_typ1, r_app1, r_pop1, r_popAt1, r_ext1, r_outs1, r_v2, r_lenp2, r_typ2, r_app2, r_pop2, r_popAt2, r_ext2, r_outs2, r_v3, r_lenp3, r_typ3, r_app3, r_pop3, r_popAt3, r_ext3, r_outs3, r_tyd, r_mapp, r_mpop, r_mpopAt, r_mext, r_midxl, r_midxt, r_mspl, r_mbit, r_npd, r_npf, r_ty_int, r_ty_str, r_ty_list, r_ty_tuple, r_ty_bool, r_ixli, r_ixti, r_asgd, r_asgp, r_asgf, r_asgn, r_clr0, r_clr1, r_clr2, r_clr3, r_sto0, r_ag0, r_sto1, r_ag1, r_sto2, r_ag2, r_sto3, r_ag3, r_c0, r_c1, r_c2, r_c3, r_c4, r_c5, r_c6, r_c7, r_c8, r_c9, r_c10, r_c11, r_put1, r_put0, r_ptuple0, r_plist0, r_psum0, r_pmin10, r_pmax10, r_pall0, r_pany0, r_psorted0, r_ptuple1, r_plist1, r_psum1, r_pmin11, r_pmax11, r_pall1, r_pany1, r_psorted1, r_ptuple2, r_plist2, r_psum2, r_pmin12, r_pmax12, r_pall2, r_pany2, r_psorted2, r_ptuple3, r_plist3, r_psum3, r_pmin13, r_pmax13, r_pall3, r_pany3, r_psorted3, r_stab, r_wipe0, r_wipe1, stepLc, r_putc, frz1, reduceCtorEq, Nat.reduceEqDiff, reduceIte, r_clrD, r_frzD, setMany, r_sumt, r_min1t, r_max1t, r_ex0, r_exc, r_sz0, r_sz1, r_sz2, r_sz3, r_sz4, r_sz5, r_sz6, r_sz7, r_sz8, r_sz9, r_sz10, r_sz11, r_sz12, r_sz13, r_sz14, r_sz15, r_sz16, r_sz17, r_sz18, r_sz19, r_sz20, eqv_int, eqv_bool, r_depi, r_depb, true_or, or_true, Bool.not_eq_true', decide_eq_false_iff_not, not_true_eq_false, not_false_eq_true, List.not_mem_nil, false_implies, implies_true, qD, callN, r_szl0, r_szl1, r_szl2, r_szl3, r_szl4, r_szl5, r_szl6, r_szl7, r_szl8, r_szl9, r_szl10, r_szl11, r_szl12, r_szl13, r_szl14, r_szl15, r_szl16, r_szl17, r_szl18, r_szl19, r_szl20, r_szl21, r_szl22, r_szl23, r_szl24, r_szl25, r_szl26, r_szl27, r_szl28, r_szl29, r_szl30, r_szl31, r_szl32, r_szl33, r_szl34, r_szl35, r_szl36, r_szl37, r_szl38, r_szl39, r_szl40, r_isb, r_nisb, r_cut1, r_cut3, r_deps, eqv_str, eq_self, Int.reduceEq, Int.cast_ofNat_Int, decide_true, decide_false])
/-! ## sets of whole numbers: plain -/
theorem nset_ints {ns : List Int} {Q : Nat → Prop} (hl : ns.length < 64) (k : ∀ c : Nat, (∀ ms : List Int, ms.Nodup → (∀ x, x ∈ ms ↔ x ∈ ns) → ms.length = c) → Q c) : nsetD (.tuple (iD ns)) Q := ⟨ns, rfl, hl, k⟩
theorem sset_ints {ns : List Int} {Q : List Int → Prop} (hl : ns.length < 64) (k : ∀ ms : List Int, ms.Pairwise (· < ·) → (∀ x, x ∈ ms ↔ x ∈ ns) → Q ms) : ssetD (.tuple (iD ns)) Q := ⟨ns, rfl, hl, k⟩
def ded : List Int → List Int
  | [] => []
  | a :: l => if a ∈ ded l then ded l else a :: ded l
theorem ded_all : ∀ l : List Int, (ded l).Nodup ∧ (∀ x, x ∈ ded l ↔ x ∈ l) ∧ (ded l).length ≤ l.length ∧ ((ded l).length = l.length → l.Nodup)
  | [] => ⟨List.nodup_nil, fun _ => Iff.rfl, Nat.le_refl _, fun _ => List.nodup_nil⟩
  | a :: l => by
    obtain ⟨h1, h2, h3, h4⟩ := ded_all l
    unfold ded
    by_cases e : a ∈ ded l
    · rw [if_pos e]
      refine ⟨h1, fun x => ?_, by rw [List.length_cons]; omega, fun z => by rw [List.length_cons] at z; omega⟩
      rw [h2, List.mem_cons]
      refine ⟨.inr, fun z => ?_⟩
      rcases z with rfl | z
      · exact (h2 x).mp e
      · exact z
    · rw [if_neg e]
      refine ⟨List.nodup_cons.mpr ⟨e, h1⟩, fun x => by rw [List.mem_cons, List.mem_cons, h2], by rw [List.length_cons, List.length_cons]; omega, fun z => ?_⟩
      rw [List.length_cons, List.length_cons] at z
      exact List.nodup_cons.mpr ⟨fun q => e ((h2 a).mpr q), h4 (by omega)⟩
theorem count_nodup {ns : List Int} {c : Nat} (h : ∀ ms : List Int, ms.Nodup → (∀ x, x ∈ ms ↔ x ∈ ns) → ms.length = c) : c = ns.length ↔ ns.Nodup := by
  obtain ⟨h1, h2, h3, h4⟩ := ded_all ns
  have := h _ h1 h2
  exact ⟨fun e => h4 (by omega), fun nd => (h ns nd fun _ => Iff.rfl).symm⟩
theorem up_same {a b : List Int} (ha : a.Pairwise (· < ·)) (hb : b.Pairwise (· < ·)) (h : ∀ x, x ∈ a ↔ x ∈ b) : a = b := by
  have na : a.Nodup := ha.imp fun q => by omega
  have nb : b.Nodup := hb.imp fun q => by omega
  exact List.Perm.eq_of_pairwise (le := (· < ·)) (fun x y _ _ h1 h2 => by omega) ha hb ((List.perm_ext_iff_of_nodup na nb).mpr h)
theorem asc_iff {ns : List Int} : ((rI (ns.length - 1)).all fun k => decide (nth ns k < nth ns (k + 1))) = decide (ns.Pairwise (· < ·)) := by
  rw [Bool.eq_iff_iff, decide_eq_true_iff, List.all_eq_true]
  constructor
  · intro h
    have step : ∀ i : Nat, i + 1 < ns.length → nth ns (i : Nat) < nth ns ((i + 1 : Nat) : Nat) := fun i hi => by
      have := h ((i : Nat) : Int) (mem_rI.mpr (by omega))
      exact of_decide_eq_true this
    have far : ∀ d i : Nat, i + d + 1 < ns.length → nth ns (i : Nat) < nth ns ((i + d + 1 : Nat) : Nat) := by
      intro d
      induction d with
      | zero => exact fun i hi => step i hi
      | succ d ih =>
        intro i hi
        have h1 := ih i (by omega)
        have h2 := step (i + d + 1) (by omega)
        exact Int.lt_trans h1 h2
    rw [List.pairwise_iff_getElem]
    intro i j hi hj hij
    have := far (j - i - 1) i (by omega)
    rw [show i + (j - i - 1) + 1 = j by omega, nth_get hi, nth_get hj] at this
    exact this
  · intro h k hk
    have bk := mem_rI.mp hk
    obtain ⟨i, rfl⟩ := nat_of bk.1
    refine decide_eq_true ?_
    rw [show ((i : Nat) : Int) + 1 = ((i + 1 : Nat) : Int) by omega, nth_get (by omega), nth_get (by omega)]
    exact List.pairwise_iff_getElem.mp h i (i + 1) (by omega) (by omega) (by omega)
/-! ## the program's judges of patterns -/
def spAsc : PSpec := fun vs obs Q => ∃ ns : List Int, vs = [.dat (.tuple (iD ns))] ∧ obs = [] ∧ ns.length ≤ 1000 ∧ Q (.dat (.bool (decide (ns.Pairwise (· < ·))))) []
theorem rd_asc {vs : List Vl} {obs : List Ob} {Q : Vl → List Ob → Prop} (h : spAsc vs obs Q) : vs.length = 1 ∧ obs.length = 0 ∧ wFn [] b_is_ascending 2 0 vs obs Q := by
  obtain ⟨ns, rfl, rfl, hl, kk⟩ := h
  refine ⟨rfl, rfl, wFn_of rfl ?_⟩
  unfold b_is_ascending
  decreasing_trivial
  rw [len_iD]
  refine ⟨by unfold sizeLine; omega, by omega, ?_⟩
  rw [show (((ns.length : Nat) : Int) - 1).toNat = ns.length - 1 by omega, rI_map]
  refine lc_map PyData.int (fun k => some (.bool (decide (nth ns k < nth ns (k + 1))))) trivial _ (fun k hk K hK => ?_) ?_
  · have bk := mem_rI.mp hk
    unfold e_is_ascending_1
    decreasing_trivial
    refine ⟨_, at_nth bk.1 (by omega), ?_⟩
    decreasing_trivial
    refine ⟨_, at_nth (by omega) (by omega), ?_⟩
    decreasing_trivial
    exact hK
  rw [fm_some, map_bool]
  refine ⟨_, rfl, ?_⟩
  rw [all_id, asc_iff]
  exact kk
def spTch : PSpec := fun vs obs Q => ∃ (m : Nat) (as : List (List Int)) (sh : List Int) (x y : Int), vs = [.dat (qS m as sh), .dat (.int x), .dat (.int y)] ∧ obs = [] ∧ Q (.dat (.bool (tch as x y))) []
theorem any_id {α : Type} (p : α → Bool) (ys : List α) : (ys.map p).any id = ys.any p := by rw [List.any_map]; rfl
theorem rd_touch {vs : List Vl} {obs : List Ob} {Q : Vl → List Ob → Prop} (h : spTch vs obs Q) : vs.length = 3 ∧ obs.length = 0 ∧ wFn [] b_touch 4 0 vs obs Q := by
  obtain ⟨m, as, sh, x, y, rfl, rfl, kk⟩ := h
  refine ⟨rfl, rfl, wFn_of rfl ?_⟩
  unfold b_touch qS
  unfold tch at kk
  decreasing_trivial
  refine ite_i (fun e => fk kk (by simp [e])) fun e => ?_
  refine lc_map (fun a => .tuple (iD a)) (fun a => some (.bool (decide (x ∈ a) && decide (y ∈ a)))) trivial as (fun a ha K hK => ?_) ?_
  · unfold e_touch_1
    decreasing_trivial
    rw [eqv_mem, eqv_mem]
    refine ite_dec (fun h1 => ?_) fun h1 => by rw [decide_eq_false h1] at hK; exact hK
    rw [decide_eq_true h1, Bool.true_and] at hK
    exact b_ite (K := fun b => K (some (.bool b)) _) hK
  rw [fm_some, map_bool]
  refine ⟨_, rfl, ?_⟩
  rw [any_id]
  exact fk kk (by rw [decide_eq_true e, Bool.true_and])
theorem rd_ltouch {vs : List Vl} {obs : List Ob} {Q : Vl → List Ob → Prop} (h : spTch vs obs Q) : vs.length = 3 ∧ obs.length = 0 ∧ wFn [] b__law_touch 4 0 vs obs Q := by
  obtain ⟨m, as, sh, x, y, rfl, rfl, kk⟩ := h
  refine ⟨rfl, rfl, wFn_of rfl ?_⟩
  unfold b__law_touch qS
  unfold tch at kk
  decreasing_trivial
  refine ite_i (fun e => ?_) fun e => fk kk (by simp at e; simp [e])
  refine lc_map (fun a => .tuple (iD a)) (fun a => some (.bool (decide (x ∈ a) && decide (y ∈ a)))) trivial as (fun a ha K hK => ?_) ?_
  · unfold e__law_touch_1
    decreasing_trivial
    rw [eqv_mem, eqv_mem]
    refine ite_dec (fun h1 => ?_) fun h1 => by rw [decide_eq_false h1] at hK; exact hK
    rw [decide_eq_true h1, Bool.true_and] at hK
    exact b_ite (K := fun b => K (some (.bool b)) _) hK
  rw [fm_some, map_bool]
  refine ⟨_, rfl, ?_⟩
  rw [any_id]
  refine b_ite (K := fun b => Q (.dat (.bool b)) []) (fk kk (by rw [decide_eq_true e, Bool.true_and]))
def spWithout : PSpec := fun vs obs Q => ∃ (ns : List Int) (c : Int), vs = [.dat (.tuple (iD ns)), .dat (.int c)] ∧ obs = [] ∧ Q (.dat (.tuple (iD (ns.filter fun x => decide (x ≠ c))))) []
theorem rd_without {vs : List Vl} {obs : List Ob} {Q : Vl → List Ob → Prop} (h : spWithout vs obs Q) : vs.length = 2 ∧ obs.length = 0 ∧ wFn [] b_without 3 0 vs obs Q := by
  obtain ⟨ns, c, rfl, rfl, kk⟩ := h
  refine ⟨rfl, rfl, wFn_of rfl ?_⟩
  unfold b_without
  decreasing_trivial
  refine lc_map PyData.int (fun x => if decide (x ≠ c) = true then some (.int x) else none) trivial ns (fun x hx K hK => ?_) ?_
  · unfold c_without_1 e_without_1
    decreasing_trivial
    by_cases e : x = c
    · rw [if_neg (by simpa using e)]
      rw [if_neg (by simpa using e)] at hK
      exact hK
    · rw [if_pos e]
      rw [if_pos (by simpa using e)] at hK
      exact hK
  rw [fm_ints]
  exact kk
def spWi : PSpec := fun vs obs Q => ∃ (m : Nat) (as : List (List Int)) (sh cs : List Int), vs = [.dat (qS m as sh), .dat (.tuple (iD cs))] ∧ obs = [] ∧ Q (.dat (.bool (wi as cs))) []
theorem rd_within {vs : List Vl} {obs : List Ob} {Q : Vl → List Ob → Prop} (h : spWi vs obs Q) : vs.length = 2 ∧ obs.length = 0 ∧ wFn [] b_within_atom 4 0 vs obs Q := by
  obtain ⟨m, as, sh, cs, rfl, rfl, kk⟩ := h
  refine ⟨rfl, rfl, wFn_of rfl ?_⟩
  unfold b_within_atom qS
  unfold wi at kk
  decreasing_trivial
  refine lc_map (fun a => .tuple (iD a)) (fun a => some (.bool (cs.all fun c => decide (c ∈ a)))) trivial as (fun a ha K hK => ?_) ?_
  · unfold e_within_atom_2
    decreasing_trivial
    refine lc_map PyData.int (fun c => some (.bool (decide (c ∈ a)))) trivial cs (fun c hc K2 hK2 => ?_) ?_
    · unfold e_within_atom_1
      decreasing_trivial
      rw [eqv_mem]
      exact hK2
    rw [fm_some, map_bool]
    refine ⟨_, rfl, ?_⟩
    rw [all_id]
    exact hK
  rw [fm_some, map_bool]
  refine ⟨_, rfl, ?_⟩
  rw [any_id]
  exact kk
def difB (m : Nat) (ns : List Int) : Bool := decide ns.Nodup && ns.all fun c => decide (0 ≤ c ∧ c < (m : Int))
def spDif : PSpec := fun vs obs Q => ∃ (m : Nat) (as : List (List Int)) (sh ns : List Int), vs = [.dat (.tuple (iD ns)), .dat (qS m as sh)] ∧ obs = [] ∧ ns.length < 64 ∧ Q (.dat (.bool (difB m ns))) []
theorem rd_dif {vs : List Vl} {obs : List Ob} {Q : Vl → List Ob → Prop} (h : spDif vs obs Q) : vs.length = 2 ∧ obs.length = 0 ∧ wFn [] b_are_different 3 0 vs obs Q := by
  obtain ⟨m, as, sh, ns, rfl, rfl, hl, kk⟩ := h
  refine ⟨rfl, rfl, wFn_of rfl ?_⟩
  unfold b_are_different qS
  unfold difB at kk
  decreasing_trivial
  refine nset_ints hl fun c hc => ?_
  have e := count_nodup hc
  rw [len_iD]
  decreasing_trivial
  refine ite_i (fun h1 => fk kk ?_) fun h1 => ?_
  · rw [decide_eq_false fun z => ?_]
    · rfl
    · have := e.mpr z
      omega
  have nd : ns.Nodup := e.mp (by omega)
  rw [decide_eq_true nd, Bool.true_and] at kk
  refine lc_map PyData.int (fun c => some (.bool (decide (0 ≤ c ∧ c < (m : Int))))) trivial ns (fun c hc K hK => ?_) ?_
  · unfold e_are_different_1
    decreasing_trivial
    exact chn_b (K := fun b => K (some (.bool b)) _) hK
  rw [fm_some, map_bool]
  refine ⟨_, rfl, ?_⟩
  rw [all_id]
  exact kk
def nearB (as : List (List Int)) (ns : List Int) : Bool := !decide (ns.length < 3) && (!wi as ns && ns.all fun c => wi as (ns.filter fun x => decide (x ≠ c)))
def spClq : PSpec := fun vs obs Q => ∃ (m : Nat) (as : List (List Int)) (sh ns : List Int), vs = [.dat (qS m as sh), .dat (.tuple (iD ns))] ∧ obs = [] ∧ Q (.dat (.bool (nearB as ns))) []
theorem rd_clq {vs : List Vl} {obs : List Ob} {Q : Vl → List Ob → Prop} (h : spClq vs obs Q) : vs.length = 2 ∧ obs.length = 0 ∧ wFn [("within_atom", spWi), ("without", spWithout)] b_is_clique 3 0 vs obs Q := by
  obtain ⟨m, as, sh, ns, rfl, rfl, kk⟩ := h
  refine ⟨rfl, rfl, wFn_of rfl ?_⟩
  unfold b_is_clique
  unfold nearB at kk
  decreasing_trivial
  rw [len_iD]
  refine ite_i (fun h0 => fk kk (by rw [decide_eq_true (by omega)]; rfl)) fun h0 => ?_
  rw [decide_eq_false (by omega), Bool.not_false, Bool.true_and] at kk
  refine call_0 rfl rfl ⟨m, as, sh, ns, rfl, rfl, rfl, trivial, ?_⟩
  decreasing_trivial
  refine ite_i (fun h1 => fk kk (by rw [h1]; rfl)) fun h1 => ?_
  rw [Bool.not_eq_true] at h1
  rw [h1, Bool.not_false, Bool.true_and] at kk
  refine lc_map PyData.int (fun c => some (.bool (wi as (ns.filter fun x => decide (x ≠ c))))) trivial ns (fun c hc K hK => ?_) ?_
  · unfold e_is_clique_1
    decreasing_trivial
    refine call_0 rfl rfl ⟨ns, c, rfl, rfl, rfl, trivial, ?_⟩
    decreasing_trivial
    refine call_0 rfl rfl ⟨m, as, sh, _, rfl, rfl, rfl, trivial, ?_⟩
    decreasing_trivial
    exact hK
  rw [fm_some, map_bool]
  refine ⟨_, rfl, ?_⟩
  rw [all_id]
  exact kk
open Classical in
noncomputable def ringB (m : Nat) (as : List (List Int)) (ns : List Int) : Bool := decide (RingP m as ns)
open Classical in
noncomputable def clqB (m : Nat) (as : List (List Int)) (ns : List Int) : Bool := decide (CliqP m as ns)
theorem ringB_iff {m : Nat} {as : List (List Int)} {ns : List Int} : ringB m as ns = true ↔ RingP m as ns := by
  unfold ringB
  exact @decide_eq_true_iff _ (Classical.propDecidable _)
theorem clqB_iff {m : Nat} {as : List (List Int)} {ns : List Int} : clqB m as ns = true ↔ CliqP m as ns := by
  unfold clqB
  exact @decide_eq_true_iff _ (Classical.propDecidable _)
theorem difB_iff {m : Nat} {ns : List Int} : difB m ns = true ↔ ns.Nodup ∧ ∀ c ∈ ns, 0 ≤ c ∧ c < (m : Int) := by
  unfold difB
  rw [Bool.and_eq_true, decide_eq_true_iff, List.all_eq_true]
  simp only [decide_eq_true_eq]
theorem nodup_inj {ns : List Int} : ns.Nodup ↔ ∀ i j : Nat, i < ns.length → j < ns.length → nth ns (i : Nat) = nth ns (j : Nat) → i = j := by
  constructor
  · intro nd i j hi hj e
    rw [nth_get hi, nth_get hj, List.getElem_inj nd] at e
    exact e
  · intro h
    rw [List.nodup_iff_pairwise_ne, List.pairwise_iff_getElem]
    intro i j hi hj hij q
    have := h i j hi hj (by rw [nth_get hi, nth_get hj]; exact q)
    omega
theorem RingP.dif {m : Nat} {as : List (List Int)} {ns : List Int} (h : RingP m as ns) : difB m ns = true := by
  refine difB_iff.mpr ⟨nodup_inj.mpr h.ring.inj, fun c hc => ?_⟩
  obtain ⟨i, hi, rfl⟩ := in_nth hc
  exact h.ring.rg i hi
def nextI (n i j : Nat) : Prop := j = i + 1 ∨ (i = 0 ∧ j + 1 = n)
theorem RingP.next {m : Nat} {as : List (List Int)} {ns : List Int} (h : RingP m as ns) {i j : Nat} (hij : i < j) (hj : j < ns.length) : tch as (nth ns (i : Nat)) (nth ns (j : Nat)) = true ↔ nextI ns.length i j := by
  rw [h.ring.tc i j (by omega) hj (by omega)]
  unfold adjI nextI
  omega
theorem RingP.of {m : Nat} {as : List (List Int)} {ns : List Int} (h4 : 4 ≤ ns.length) (hd : difB m ns = true) (h0 : ∀ c ∈ ns, nth ns 0 ≤ c) (h1 : nth ns 1 ≤ nth ns ((ns.length - 1 : Nat) : Nat)) (ht : ∀ i j : Nat, i < j → j < ns.length → (tch as (nth ns (i : Nat)) (nth ns (j : Nat)) = true ↔ nextI ns.length i j)) : RingP m as ns := by
  obtain ⟨nd, rg⟩ := difB_iff.mp hd
  refine ⟨⟨h4, fun i hi => rg _ (nth_in hi), nodup_inj.mp nd, fun i j hi hj ne => ?_⟩, h0, h1⟩
  unfold nextI at ht
  unfold adjI
  rcases Nat.lt_or_gt_of_ne ne with q | q
  · rw [ht i j q hj]; omega
  · rw [tch_comm, ht j i q hi]; omega
theorem at_last {ns : List Int} (h : 0 < ns.length) : atI (iD ns) (-1) = some (.int (nth ns ((ns.length - 1 : Nat) : Nat))) := by
  unfold atI ixN
  rw [if_neg (by omega), if_pos (by rw [len_iD]; omega)]
  rw [len_iD, show (-1 + ((ns.length : Nat) : Int)).toNat = ns.length - 1 by omega]
  show (iD ns)[ns.length - 1]? = _
  rw [nth_get (by omega), List.getElem?_map, List.getElem?_eq_getElem (by omega)]
  rfl
def spRg : PSpec := fun vs obs Q => ∃ (m : Nat) (as : List (List Int)) (sh ns : List Int), vs = [.dat (qS m as sh), .dat (.tuple (iD ns))] ∧ obs = [] ∧ ns.length < 64 ∧ Q (.dat (.bool (ringB m as ns))) []
theorem rd_isring {vs : List Vl} {obs : List Ob} {Q : Vl → List Ob → Prop} (h : spRg vs obs Q) : vs.length = 2 ∧ obs.length = 0 ∧ wFn [("are_different", spDif), ("touch", spTch)] b_is_ring 6 0 vs obs Q := by
  obtain ⟨m, as, sh, ns, rfl, rfl, hl, kk⟩ := h
  have no : (¬ RingP m as ns) → Q (.dat (.bool false)) [] := fun h => fk kk (Bool.eq_false_iff.mpr fun z => h (ringB_iff.mp z))
  refine ⟨rfl, rfl, wFn_of rfl ?_⟩
  unfold b_is_ring
  decreasing_trivial
  rw [len_iD]
  refine ite_i (fun h0 => no fun z => by have := z.ring.four; omega) fun h0 => ?_
  have h4 : 4 ≤ ns.length := by omega
  refine call_0 rfl rfl ⟨m, as, sh, ns, rfl, rfl, hl, rfl, trivial, ?_⟩
  decreasing_trivial
  refine ite_i (fun h1 => no fun z => by rw [z.dif] at h1; cases h1) fun h1 => ?_
  rw [Bool.not_eq_false] at h1
  refine ⟨_, at_nth (c := 0) (by omega) (by omega), ?_⟩
  decreasing_trivial
  refine intsOf_ints ⟨by omega, fun mn hmn hle => ?_⟩
  decreasing_trivial
  refine ite_i (fun h2 => no fun z => h2 ?_) fun h2 => ?_
  · have a1 := z.least mn hmn
    have a2 := hle _ (nth_in (w := ns) (i := 0) (by omega))
    have a3 : mn ≤ nth ns 0 := a2
    omega
  refine ⟨_, at_nth (c := 1) (by omega) (by omega), ?_⟩
  decreasing_trivial
  refine ⟨_, at_last (by omega), ?_⟩
  decreasing_trivial
  refine ite_i (fun h3 => no fun z => by have := z.way; omega) fun h3 => ?_
  have h2' : nth ns 0 = mn := by
    by_cases e : nth ns 0 = mn
    · exact e
    · exact absurd e h2
  have hle0 : ∀ c ∈ ns, nth ns 0 ≤ c := fun c hc => by rw [h2']; exact hle c hc
  refine ⟨by unfold sizeLine; omega, by omega, ?_⟩
  rw [Int.toNat_natCast]
  refine for_rng0 (fun i ρ η => ∃ x3 x4 x5 : Option D, ρ = [some (.dat (qS m as sh)), some (.dat (.tuple (iD ns))), some (.dat (.int (ns.length : Nat))), sd x3, sd x4, sd x5] ∧ η = [] ∧ ∀ a b : Nat, a < i → a < b → b < ns.length → (tch as (nth ns (a : Nat)) (nth ns (b : Nat)) = true ↔ nextI ns.length a b)) _ ?_ ?_ ⟨none, none, none, rfl, rfl, fun a b h => by omega⟩
  · rintro i ρ η N hi ⟨x3, x4, x5, rfl, rfl, ht⟩ go
    unfold l_is_ring_2
    decreasing_trivial
    refine ⟨⟨by unfold sizeLine; omega, by omega⟩, ?_⟩
    rw [show (((ns.length : Nat) : Int) - (((i : Nat) : Int) + 1)).toNat = ns.length - (i + 1) by omega, show ((i : Nat) : Int) + 1 = ((i + 1 : Nat) : Int) by omega]
    refine for_rng (fun j ρ η => ∃ x4 x5 : Option D, ρ = [some (.dat (qS m as sh)), some (.dat (.tuple (iD ns))), some (.dat (.int (ns.length : Nat))), some (.dat (.int (i : Nat))), sd x4, sd x5] ∧ η = [] ∧ ∀ b : Nat, i < b → b < j → b < ns.length → (tch as (nth ns (i : Nat)) (nth ns (b : Nat)) = true ↔ nextI ns.length i b)) (i + 1) (ns.length - (i + 1)) ?_ ?_ ⟨x4, x5, rfl, rfl, fun b h1 h2 => by omega⟩
    · rintro j ρ η N2 j0 j1 ⟨x4, x5, rfl, rfl, hj⟩ go2
      have st : ∀ (P : LEnds) (b : Bool), (b = true ↔ nextI ns.length i j) → ((tch as (nth ns (i : Nat)) (nth ns (j : Nat)) = true ↔ nextI ns.length i j) → P.nx [some (.dat (qS m as sh)), some (.dat (.tuple (iD ns))), some (.dat (.int (ns.length : Nat))), some (.dat (.int (i : Nat))), some (.dat (.int (j : Nat))), some (.dat (.bool b))] []) → (¬ RingP m as ns → P.rt (.dat (.bool false)) []) →
          wSs [("are_different", spDif), ("touch", spTch)] r_is_ring_1 P [some (.dat (qS m as sh)), some (.dat (.tuple (iD ns))), some (.dat (.int (ns.length : Nat))), some (.dat (.int (i : Nat))), some (.dat (.int (j : Nat))), some (.dat (.bool b))] [] := by
        intro P b hb hP hR
        unfold r_is_ring_1
        decreasing_trivial
        refine ⟨_, at_nth (by omega) (by omega), ?_⟩
        decreasing_trivial
        refine ⟨_, at_nth (by omega) (by omega), ?_⟩
        decreasing_trivial
        refine call_0 rfl rfl ⟨m, as, sh, _, _, rfl, rfl, rfl, trivial, ?_⟩
        decreasing_trivial
        refine ite_i (fun e => hR fun z => e ?_) fun e => hP ?_
        · rw [Bool.eq_iff_iff, hb]
          exact z.next (by omega) (by omega)
        · rw [← hb, ← Bool.eq_iff_iff]
          exact Classical.not_not.mp e
      have go3 : ∀ b : Bool, (tch as (nth ns (i : Nat)) (nth ns (j : Nat)) = true ↔ nextI ns.length i j) → N2 [some (.dat (qS m as sh)), some (.dat (.tuple (iD ns))), some (.dat (.int (ns.length : Nat))), some (.dat (.int (i : Nat))), some (.dat (.int (j : Nat))), some (.dat (.bool b))] [] := fun b ht2 => go2 _ _ ⟨some _, some _, rfl, rfl, fun b' h1 h2 h3 => by
        by_cases e : b' = j
        · subst e; exact ht2
        · exact hj b' h1 (by omega) h3⟩
      unfold l_is_ring_1
      decreasing_trivial
      refine ite_i (fun e => ?_) fun e => ite_i (fun e2 => ite_i (fun e3 => ?_) fun e3 => ?_) fun e2 => ?_
      · exact st _ true ⟨fun _ => .inl (by omega), fun _ => rfl⟩ (go3 true) fun z => ⟨trivial, no z⟩
      · exact st _ true ⟨fun _ => .inr (by omega), fun _ => rfl⟩ (go3 true) fun z => ⟨trivial, no z⟩
      · exact st _ false ⟨fun z => Bool.noConfusion z, fun z => by unfold nextI at z; omega⟩ (go3 false) fun z => ⟨trivial, no z⟩
      · exact st _ false ⟨fun z => Bool.noConfusion z, fun z => by unfold nextI at z; omega⟩ (go3 false) fun z => ⟨trivial, no z⟩
    · rintro ρ η ⟨x4, x5, rfl, rfl, hj⟩
      refine go _ _ ⟨some _, x4, x5, rfl, rfl, fun a b ha hab hb => ?_⟩
      by_cases e : a = i
      · subst e; exact hj b hab (by omega) hb
      · exact ht a b (by omega) hab hb
  · rintro ρ η ⟨x3, x4, x5, rfl, rfl, ht⟩
    decreasing_trivial
    exact fk kk (ringB_iff.mpr (RingP.of h4 h1 hle0 (by omega) fun i j hij hj => ht i j (by omega) hij hj))
/-! ## a pattern's paper -/
def paD2 (w : Str) (ns : List Int) : D := .tuple [.str w, .tuple (iD ns)]
noncomputable def patB (m : Nat) (as : List (List Int)) (w : Str) (ns : List Int) : Bool := if w = ("ring" : Str) then ringB m as ns else clqB m as ns
theorem clq_parts {m : Nat} {as : List (List Int)} {ns : List Int} : clqB m as ns = (difB m ns && (decide (ns.Pairwise (· < ·)) && nearB as ns)) := by
  rw [Bool.eq_iff_iff, clqB_iff]
  unfold nearB
  simp only [Bool.and_eq_true, difB_iff, decide_eq_true_eq, Bool.not_eq_true', decide_eq_false_iff_not, List.all_eq_true]
  constructor
  · intro h
    exact ⟨⟨h.up.imp fun q => by omega, h.rg⟩, h.up, by have := h.three; omega, h.out, h.near⟩
  · rintro ⟨⟨h1, h2⟩, h3, h4, h5, h6⟩
    exact ⟨by omega, h3, h2, h5, h6⟩
def IsWord (w : Str) : Prop := w = ("ring" : Str) ∨ w = ("clique" : Str)
def spPat : PSpec := fun vs obs Q => ∃ (m : Nat) (as : List (List Int)) (sh ns : List Int) (w : Str), vs = [.dat (qS m as sh), .dat (paD2 w ns)] ∧ obs = [] ∧ ns.length < 64 ∧ IsWord w ∧ Q (.dat (.bool (patB m as w ns))) []
theorem rd_pat {vs : List Vl} {obs : List Ob} {Q : Vl → List Ob → Prop} (h : spPat vs obs Q) : vs.length = 2 ∧ obs.length = 0 ∧ wFn [("is_ring", spRg), ("are_different", spDif), ("is_ascending", spAsc), ("is_clique", spClq)] b_judge_pattern 4 0 vs obs Q := by
  obtain ⟨m, as, sh, ns, w, rfl, rfl, hl, hw, kk⟩ := h
  refine ⟨rfl, rfl, wFn_of rfl ?_⟩
  unfold b_judge_pattern paD2
  unfold patB at kk
  rcases hw with rfl | rfl
  · decreasing_trivial
    rw [if_pos rfl] at kk
    refine call_0 rfl rfl ⟨m, as, sh, ns, rfl, rfl, hl, rfl, trivial, ?_⟩
    decreasing_trivial
    exact kk
  · decreasing_trivial
    rw [if_neg (by decide +kernel)] at kk
    rw [if_neg (by decide +kernel)]
    rw [clq_parts] at kk
    refine call_0 rfl rfl ⟨m, as, sh, ns, rfl, rfl, hl, rfl, trivial, ?_⟩
    decreasing_trivial
    refine ite_i (fun h1 => fk kk (by rw [h1]; rfl)) fun h1 => ?_
    rw [Bool.not_eq_false] at h1
    rw [h1, Bool.true_and] at kk
    refine call_0 rfl rfl ⟨ns, rfl, rfl, by omega, rfl, trivial, ?_⟩
    decreasing_trivial
    refine ite_i (fun h2 => ?_) fun h2 => fk kk (by rw [decide_eq_false h2, Bool.false_and])
    rw [decide_eq_true h2, Bool.true_and] at kk
    refine call_0 rfl rfl ⟨m, as, sh, ns, rfl, rfl, rfl, trivial, ?_⟩
    decreasing_trivial
    exact b_ite (K := fun b => Q (.dat (.bool b)) []) kk
/-! ## the knots -/
def Cover (s : Nat) (as : List (List Int)) : Prop := ∀ c : Int, 0 ≤ c → c < (s : Int) → ∃ a ∈ as, c ∈ a
theorem Named.cover {m : Nat} {ns : List Int} {as bs : List (List Int)} (h : Named m ns as bs) (g : Cover m as) : Cover m bs := fun c c0 c1 => by
  obtain ⟨i, hi, e⟩ := in_nth (h.perm.symm.mem_iff.mp (mem_rI.mpr ⟨c0, c1⟩))
  have hl : ns.length = m := by rw [h.perm.length_eq, len_rI]
  obtain ⟨a, ha, hx⟩ := g ((i : Nat) : Int) (by omega) (by omega)
  obtain ⟨b, hb, q⟩ := h.to a ha
  exact ⟨b, hb, (q c).mpr ⟨_, hx, e⟩⟩
theorem named_of {m : Nat} {ns : List Int} {as cs : List (List Int)} (p : ns.Perm (rI m)) (hc : ∀ a ∈ as, Cols m a) (pc : cs.Perm as) : Named m ns as (cs.map fun a => sI (a.map (nth ns))) := by
  have key : ∀ (a : List Int) (y : Int), y ∈ sI (a.map (nth ns)) ↔ ∃ x ∈ a, nth ns x = y := fun a y => by rw [mem_sI, List.mem_map]
  refine ⟨p, fun a ha x hx => (hc a ha).2 x hx, fun a ha => ⟨_, List.mem_map.mpr ⟨a, pc.mem_iff.mpr ha, rfl⟩, key a⟩, fun b hb => ?_⟩
  obtain ⟨a, ha, rfl⟩ := List.mem_map.mp hb
  exact ⟨a, pc.mem_iff.mp ha, key a⟩
def spRen2 : PSpec := fun vs obs Q => ∃ (m : Nat) (as : List (List Int)) (o : Ob), vs = [.ptr 0, .dat (.list (tD as)), .dat (.int (m : Nat))] ∧ obs = [o] ∧ Std o ∧ m ≤ 1000 ∧ as.length ≤ 1000 ∧ (∀ a ∈ as, Cols m a) ∧
  ∀ (ns : List Int) (bs : List (List Int)) (o' : Ob), bs.length = as.length → (∀ b ∈ bs, Cols m b) → Named m ns as bs → Std o' → Q (.dat (.tuple (tD bs))) [o']
theorem rd_ren2 {vs : List Vl} {obs : List Ob} {Q : Vl → List Ob → Prop} (h : spRen2 vs obs Q) : vs.length = 3 ∧ obs.length = 1 ∧ wFn [("_law_shuffled", spShuf)] b__law_renamed 6 0 vs obs Q := by
  obtain ⟨m, as, o, rfl, rfl, hs, hm, hl, hc, k⟩ := h
  refine ⟨rfl, rfl, wFn_of rfl ?_⟩
  unfold b__law_renamed
  decreasing_trivial
  refine ⟨⟨by omega, by omega⟩, ?_⟩
  rw [Int.toNat_natCast, rng_rI]
  refine call_r rfl rfl rfl ⟨_, _, .inl rfl, rfl, hs, by rw [len_iD, len_rI]; omega, fun es o' pm hs' => ⟨rfl, trivial, ?_⟩⟩
  obtain ⟨ns, rfl, pn⟩ := perm_map pm.symm (as := rI m) rfl
  have hln : ns.length = m := by rw [pn.length_eq, len_rI]
  decreasing_trivial
  refine call_r rfl rfl rfl ⟨_, _, .inl rfl, rfl, hs', by rw [len_tD]; omega, fun es o' pm hs' => ⟨rfl, trivial, ?_⟩⟩
  obtain ⟨cs, rfl, pb⟩ := perm_map pm.symm (as := as) rfl
  decreasing_trivial
  refine lc_map (fun a => PyData.tuple (iD a)) (fun a => some (.tuple (iD (sI (a.map (nth ns)))))) trivial cs (fun a ha K hK => ?_) ?_
  · have ca := hc a (pb.mem_iff.mp ha)
    unfold e__law_renamed_2
    decreasing_trivial
    refine lc_map PyData.int (fun c => some (.int (nth ns c))) trivial a (fun c hcc K2 hK2 => ?_) ?_
    · have bc := ca.2 c hcc
      unfold e__law_renamed_1
      decreasing_trivial
      exact ⟨_, at_nth bc.1 (by omega), hK2⟩
    rw [fm_some, show (a.map fun c => PyData.int (nth ns c)) = iD (a.map (nth ns)) from (List.map_map ..).symm]
    refine ⟨srt_ok _, ?_⟩
    rw [sort_iD]
    decreasing_trivial
    exact hK
  rw [fm_some, show (cs.map fun a => PyData.tuple (iD (sI (a.map (nth ns))))) = tD (cs.map fun a => sI (a.map (nth ns))) by unfold tD; rw [List.map_map]; rfl]
  refine k ns _ o' (by rw [List.length_map]; exact pb.length_eq) (fun b hb => ?_) (named_of pn hc pb) hs'
  obtain ⟨a, ha, rfl⟩ := List.mem_map.mp hb
  exact ((hc a (pb.mem_iff.mp ha)).rename pn).perm (sI_perm _)
structure Knot (s : Nat) (as : List (List Int)) : Prop where
  qry : Qry s as
  pat : PatIn s as
  cov : Cover s as
  few : as.length = s
def spRing2 : PSpec := fun vs obs Q => ∃ (s : Nat) (o : Ob), vs = [.ptr 0, .dat (.int (s : Nat)), .dat (.int 0)] ∧ obs = [o] ∧ Std o ∧ 4 ≤ s ∧ s ≤ 50 ∧
  ∀ (as : List (List Int)) (o' : Ob), Knot s as → Std o' → Q (.dat (qD s as)) [o']
theorem cols_ring {s : Nat} (h : 4 ≤ s) : ∀ a ∈ ringA s, Cols s a := fun a ha => by
  obtain ⟨k, hk, rfl⟩ := List.mem_map.mp ha
  have bk := mem_rI.mp hk
  obtain ⟨i, rfl⟩ := nat_of bk.1
  refine Cols.perm ?_ (sI_perm _)
  rw [mod_next (by omega)]
  refine Cols.app (a := [((i : Nat) : Int)]) (Cols.one (by omega) (by omega)) (Cols.one (by split <;> omega) (by split <;> omega)) fun c h1 h2 => ?_
  rw [List.mem_singleton] at h1 h2
  split at h2 <;> omega
theorem cover_ring (s : Nat) : Cover s (ringA s) := fun c c0 c1 => ⟨_, List.mem_map.mpr ⟨c, mem_rI.mpr ⟨c0, c1⟩, rfl⟩, mem_sI.mpr List.mem_cons_self⟩
theorem rd_ring2 {vs : List Vl} {obs : List Ob} {Q : Vl → List Ob → Prop} (h : spRing2 vs obs Q) : vs.length = 3 ∧ obs.length = 1 ∧ wFn [("_law_draw", spDraw), ("_law_renamed", spRen2)] b__law_ring_query 6 1 vs obs Q := by
  obtain ⟨s, o, rfl, rfl, hs, s0, s1, k⟩ := h
  refine ⟨rfl, rfl, wFn_of rfl ?_⟩
  unfold b__law_ring_query
  decreasing_trivial
  refine ⟨by unfold sizeLine; omega, by omega, ?_⟩
  rw [Int.toNat_natCast, rI_map]
  refine lc_map PyData.int (fun k => some (.tuple (iD (sI [k, (k + 1) % (s : Int)])))) trivial _ (fun c hc K hK => ?_) ?_
  · unfold e__law_ring_query_1
    decreasing_trivial
    refine ⟨by omega, ?_⟩
    decreasing_trivial
    rw [show ([PyData.int c, .int ((c + 1) % ((s : Nat) : Int))] : List D) = iD [c, (c + 1) % ((s : Nat) : Int)] from rfl]
    refine ⟨srt_ok _, ?_⟩
    rw [sort_iD]
    decreasing_trivial
    exact hK
  rw [fm_some, show ((rI s).map fun k => PyData.tuple (iD (sI [k, (k + 1) % (s : Int)]))) = tD (ringA s) by unfold tD ringA; rw [List.map_map]; rfl]
  decreasing_trivial
  unfold r__law_ring_query_2
  decreasing_trivial
  unfold r__law_ring_query_1
  decreasing_trivial
  have hl : (ringA s).length = s := by unfold ringA; rw [List.length_map, len_rI]
  refine call_r rfl rfl rfl ⟨s, ringA s, o, rfl, rfl, hs, by omega, by omega, cols_ring s0, fun ns bs o' hlb hcb hn ho' => ⟨rfl, trivial, ?_⟩⟩
  decreasing_trivial
  refine ⟨⟨by omega, by omega⟩, ?_⟩
  rw [Int.toNat_natCast, rng_rI]
  exact k bs o' ⟨⟨by omega, by omega, by omega, by omega, hcb⟩, hn.pat (.inl ⟨s, _, ring_planted s0⟩), hn.cover (cover_ring s), by omega⟩ ho'
def spClq2 : PSpec := fun vs obs Q => ∃ (s : Nat) (o : Ob), vs = [.ptr 0, .dat (.int (s : Nat)), .dat (.int 0)] ∧ obs = [o] ∧ Std o ∧ 3 ≤ s ∧ s ≤ 50 ∧
  ∀ (as : List (List Int)) (o' : Ob), Knot s as → Std o' → Q (.dat (qD s as)) [o']
theorem cols_clq (s : Nat) : ∀ a ∈ cliqA s, Cols s a := fun a ha => by
  obtain ⟨k, hk, rfl⟩ := List.mem_map.mp ha
  exact (cols_rI s).sub List.filter_sublist
theorem cover_clq {s : Nat} (h : 2 ≤ s) : Cover s (cliqA s) := fun c c0 c1 => by
  refine ⟨_, List.mem_map.mpr ⟨if c = 0 then 1 else 0, mem_rI.mpr (by split <;> omega), rfl⟩, List.mem_filter.mpr ⟨mem_rI.mpr ⟨c0, c1⟩, decide_eq_true ?_⟩⟩
  split <;> omega
theorem rd_clq2 {vs : List Vl} {obs : List Ob} {Q : Vl → List Ob → Prop} (h : spClq2 vs obs Q) : vs.length = 3 ∧ obs.length = 1 ∧ wFn [("_law_draw", spDraw), ("_law_renamed", spRen2)] b__law_clique_query 7 1 vs obs Q := by
  obtain ⟨s, o, rfl, rfl, hs, s0, s1, k⟩ := h
  refine ⟨rfl, rfl, wFn_of rfl ?_⟩
  unfold b__law_clique_query
  decreasing_trivial
  refine ⟨by unfold sizeLine; omega, by omega, ?_⟩
  rw [Int.toNat_natCast, rI_map]
  refine lc_map PyData.int (fun k => some (.tuple (iD ((rI s).filter fun c => decide (c ≠ k))))) trivial _ (fun k hk K hK => ?_) ?_
  · unfold e__law_clique_query_2
    decreasing_trivial
    refine ⟨by unfold sizeLine; omega, by omega, ?_⟩
    rw [Int.toNat_natCast, rI_map]
    refine lc_map PyData.int (fun c => if decide (c ≠ k) = true then some (.int c) else none) trivial _ (fun c hc K2 hK2 => ?_) ?_
    · unfold c__law_clique_query_1 e__law_clique_query_1
      decreasing_trivial
      by_cases e : c = k
      · rw [if_neg (by simpa using e)]
        rw [if_neg (by simpa using e)] at hK2
        exact hK2
      · rw [if_pos e]
        rw [if_pos (by simpa using e)] at hK2
        exact hK2
    rw [fm_ints]
    decreasing_trivial
    exact hK
  rw [fm_some, show ((rI s).map fun k => PyData.tuple (iD ((rI s).filter fun c => decide (c ≠ k)))) = tD (cliqA s) by unfold tD cliqA; rw [List.map_map]; rfl]
  decreasing_trivial
  unfold r__law_clique_query_1
  decreasing_trivial
  have hl : (cliqA s).length = s := by unfold cliqA; rw [List.length_map, len_rI]
  refine call_r rfl rfl rfl ⟨s, cliqA s, o, rfl, rfl, hs, by omega, by omega, cols_clq s, fun ns bs o' hlb hcb hn ho' => ⟨rfl, trivial, ?_⟩⟩
  decreasing_trivial
  refine ⟨⟨by omega, by omega⟩, ?_⟩
  rw [Int.toNat_natCast, rng_rI]
  exact k bs o' ⟨⟨by omega, by omega, by omega, by omega, hcb⟩, hn.pat (.inr ⟨_, cliq_planted s0⟩), hn.cover (cover_clq (by omega)), by omega⟩ ho'
def spKnot : PSpec := fun vs obs Q => ∃ (mc : Int) (o : Ob), vs = [.ptr 0, .dat (.int mc)] ∧ obs = [o] ∧ Std o ∧ 4 ≤ mc ∧ mc ≤ 40 ∧ ∀ (s : Nat) (as : List (List Int)) (o' : Ob), (s : Int) ≤ mc → Knot s as → Std o' → Q (.dat (qD s as)) [o']
theorem rd_knot {vs : List Vl} {obs : List Ob} {Q : Vl → List Ob → Prop} (h : spKnot vs obs Q) : vs.length = 2 ∧ obs.length = 1 ∧ wFn [("_law_draw", spDraw), ("_law_ring_query", spRing2), ("_law_clique_query", spClq2)] b__law_knot 2 0 vs obs Q := by
  obtain ⟨mc, o, rfl, rfl, hs, c0, c1, k⟩ := h
  refine ⟨rfl, rfl, wFn_of rfl ?_⟩
  unfold b__law_knot
  decreasing_trivial
  refine draw_w rfl hs (by omega) (by omega) fun r o1 r0 r1 hs1 => ?_
  decreasing_trivial
  refine ite_i (fun _ => ?_) fun _ => ?_
  · refine draw_w rfl hs1 (by omega) (by omega) fun z o2 z0 z1 hs2 => ?_
    decreasing_trivial
    obtain ⟨s, e⟩ := nat_of (z := 4 + z) (by omega)
    rw [e]
    refine call_r rfl rfl rfl ⟨s, o2, rfl, rfl, hs2, by omega, by omega, fun as o3 hk ho3 => ⟨rfl, trivial, ?_⟩⟩
    decreasing_trivial
    exact k s as o3 (by omega) hk ho3
  · refine draw_w rfl hs1 (by omega) (by omega) fun z o2 z0 z1 hs2 => ?_
    decreasing_trivial
    obtain ⟨s, e⟩ := nat_of (z := 3 + z) (by omega)
    rw [e]
    refine call_r rfl rfl rfl ⟨s, o2, rfl, rfl, hs2, by omega, by omega, fun as o3 hk ho3 => ⟨rfl, trivial, ?_⟩⟩
    decreasing_trivial
    exact k s as o3 (by omega) hk ho3
def spAbsent : PSpec := fun vs obs Q => ∃ cs a : List Int, vs = [.dat (.tuple (iD cs)), .dat (.tuple (iD a))] ∧ obs = [] ∧ Q (.fr (.lst (iD (cs.filter fun c => decide (c ∉ a))))) []
theorem rd_absent {vs : List Vl} {obs : List Ob} {Q : Vl → List Ob → Prop} (h : spAbsent vs obs Q) : vs.length = 2 ∧ obs.length = 0 ∧ wFn [] b__law_absent 3 0 vs obs Q := by
  obtain ⟨cs, a, rfl, rfl, kk⟩ := h
  refine ⟨rfl, rfl, wFn_of rfl ?_⟩
  unfold b__law_absent
  decreasing_trivial
  refine lc_map PyData.int (fun c => if decide (c ∉ a) = true then some (.int c) else none) trivial cs (fun c hc K hK => ?_) ?_
  · unfold c__law_absent_1 e__law_absent_1
    decreasing_trivial
    rw [eqv_mem]
    refine ite_i (fun e => ?_) fun e => ?_
    · rw [if_pos (by simpa using e)] at hK; exact hK
    · rw [if_neg (by simpa using e)] at hK; exact hK
  rw [fm_ints]
  exact kk
/-! ## the law's rings -/
theorem flat_len {α β : Type} (f : α → List β) (k : Nat) : ∀ l : List α, (∀ a ∈ l, (f a).length ≤ k) → (l.flatMap f).length ≤ k * l.length
  | [], _ => by simp
  | a :: l, h => by
    rw [List.flatMap_cons, List.length_append, List.length_cons, Nat.mul_succ]
    have h1 := h a List.mem_cons_self
    have h2 := flat_len f k l fun b hb => h b (List.mem_cons_of_mem _ hb)
    omega
theorem ext_len {m : Nat} {as : List (List Int)} {w : List Int} (hm : m ≤ 7) (h : PathP m as w) : (ext m as w).length ≤ 7 ∧ (fnd m as w).length ≤ 7 := by
  have h1 := h.one
  have z0 := h.rg _ (nth_in (w := w) (i := 0) (by omega))
  have z1 : (0 : Int) ≤ nth w 0 := z0.1
  have l := len_rgI (nth w 0 + 1) m
  have a := List.length_filter_le (fun c => extB as w c) (rgI (nth w 0 + 1) m)
  have b := List.length_filter_le (fun c => fndB as w c) (rgI (nth w 0 + 1) m)
  unfold ext fnd
  rw [List.length_map, List.length_map]
  omega
theorem bfs_len {m : Nat} {as : List (List Int)} (hm : m ≤ 7) : ∀ t : Nat, (bfsW m as t).length ≤ 7 ^ (t + 1) ∧ (bfsF m as t).length ≤ 2 * 7 ^ (t + 1)
  | 0 => by
    refine ⟨?_, by simp [bfsF]⟩
    unfold bfsW
    rw [List.length_map, len_rI]
    omega
  | t + 1 => by
    obtain ⟨h1, h2⟩ := bfs_len (as := as) hm t
    have s1 := fun w hw => ext_len hm ((bfs_sound (m := m) (as := as) t).1 w hw).1
    have k1 := flat_len (ext m as) 7 (bfsW m as t) fun w hw => (s1 w hw).1
    have k2 := flat_len (fnd m as) 7 (bfsW m as t) fun w hw => (s1 w hw).2
    have e : 7 ^ (t + 1 + 1) = 7 * 7 ^ (t + 1) := by rw [Nat.pow_succ 7 (t + 1), Nat.mul_comm]
    unfold bfsW bfsF
    rw [List.length_append]
    omega
theorem cut_last (w : List Int) : cutL (iD w) none (some (-1)) = iD w.dropLast := by
  have e : HT.sIx (iD w).length (iD w).length (some (-1)) = w.length - 1 := by
    unfold HT.sIx
    rw [len_iD]
    simp
    omega
  unfold cutL
  rw [e, HT.sIx_none, List.drop_zero, Nat.sub_zero]
  rw [← List.map_take, List.dropLast_eq_take]
theorem rg2_ints (lo : Int) (n : Nat) : rangeD lo n = (rgI lo (lo + (n : Nat))).map PyData.int := by
  unfold rangeD rgI
  rw [show (lo + ((n : Nat) : Int) - lo).toNat = n by omega, List.map_map]
  rfl
def spRings : PSpec := fun vs obs Q => ∃ (m : Nat) (as : List (List Int)) (sh : List Int), vs = [.dat (qS m as sh)] ∧ obs = [] ∧ m ≤ 7 ∧ Q (.fr (.lst (tD (bfsF m as m)))) []
theorem rd_rings {vs : List Vl} {obs : List Ob} {Q : Vl → List Ob → Prop} (h : spRings vs obs Q) : vs.length = 1 ∧ obs.length = 0 ∧ wFn [("_law_touch", spTch)] b__law_rings 9 2 vs obs Q := by
  obtain ⟨m, as, sh, rfl, rfl, hm, kk⟩ := h
  refine ⟨rfl, rfl, wFn_of rfl ?_⟩
  -- one way
  have one : ∀ (w : List Int), PathP m as w → ∀ (P : LEnds) (Fd Lg : List (List Int)) (ws : List (List Int)) (x3 : Option D) (x6 x7 : Option D), Fd.length < 16000000 → Lg.length < 16000000 → (Fd ++ fnd m as w).length < 16000000 → (Lg ++ ext m as w).length < 16000000 →
      (∀ x6 x7 : Option D, P.nx [some (.dat (qS m as sh)), some (.ptr 0), some (.dat (.list (tD ws))), sd x3, some (.ptr 1), some (.dat (.tuple (iD w))), sd x6, sd x7, none] [some (.lst (tD (Fd ++ fnd m as w))), some (.lst (tD (Lg ++ ext m as w)))]) →
      wSs [("_law_touch", spTch)] l__law_rings_2 P [some (.dat (qS m as sh)), some (.ptr 0), some (.dat (.list (tD ws))), sd x3, some (.ptr 1), some (.dat (.tuple (iD w))), sd x6, sd x7, none] [some (.lst (tD Fd)), some (.lst (tD Lg))] := by
    intro w hp P Fd Lg ws x3 x6 x7 b1 b2 b3 b4 hP
    have w1 := hp.one
    have w0 := hp.rg _ (nth_in (w := w) (i := 0) (by omega))
    have w0' : 0 ≤ nth w 0 ∧ nth w 0 < (m : Int) := w0
    have wl : w.length ≤ m := by
      have : Cols m w := ⟨nodup_inj.mpr hp.inj, hp.rg⟩
      exact this.len
    unfold l__law_rings_2 qS
    decreasing_trivial
    refine ⟨_, at_nth (c := 0) (by omega) (by omega), ?_⟩
    decreasing_trivial
    refine ⟨⟨by unfold sizeLine; omega, by omega⟩, ?_⟩
    rw [rg2_ints, show nth w 0 + 1 + (((m : Int) - (nth w 0 + 1)).toNat : Nat) = (m : Int) by omega]
    refine for_ints (fun r ρ η => ∃ (F1 L1 : List (List Int)) (x6 x7 : Option D), ρ = [some (.dat (qS m as sh)), some (.ptr 0), some (.dat (.list (tD ws))), sd x3, some (.ptr 1), some (.dat (.tuple (iD w))), sd x6, sd x7, none] ∧ η = [some (.lst (tD F1)), some (.lst (tD L1))] ∧
      F1 ++ ((r.filter fun c => fndB as w c).map fun c => w ++ [c]) = Fd ++ fnd m as w ∧ L1 ++ ((r.filter fun c => extB as w c).map fun c => w ++ [c]) = Lg ++ ext m as w) ?_ ?_ _ ⟨Fd, Lg, x6, x7, rfl, rfl, rfl, rfl⟩
    · rintro c r ρ η N ⟨F1, L1, x6, x7, rfl, rfl, hF, hL⟩ go
      have lF : F1.length < 16000000 := by have := congrArg List.length hF; rw [List.length_append] at this; omega
      have lL : L1.length < 16000000 := by have := congrArg List.length hL; rw [List.length_append] at this; omega
      have skip : ∀ x7 : Option D, fndB as w c = false → extB as w c = false → N [some (.dat (qS m as sh)), some (.ptr 0), some (.dat (.list (tD ws))), sd x3, some (.ptr 1), some (.dat (.tuple (iD w))), some (.dat (.int c)), sd x7, none] [some (.lst (tD F1)), some (.lst (tD L1))] := fun x7 e1 e2 => by
        rw [List.filter_cons, e1] at hF
        rw [List.filter_cons, e2] at hL
        exact go _ _ ⟨F1, L1, some _, x7, rfl, rfl, hF, hL⟩
      unfold l__law_rings_1
      decreasing_trivial
      rw [eqv_mem]
      refine ite_i (fun h1 => ?_) fun h1 => skip x7 (by unfold fndB opn; rw [Bool.not_eq_false] at h1; rw [decide_eq_false (by simpa using h1)]; rfl) (by unfold extB opn; rw [Bool.not_eq_false] at h1; rw [decide_eq_false (by simpa using h1)]; rfl)
      have h1 := of_decide_eq_false h1
      refine ⟨_, at_last (by omega), ?_⟩
      decreasing_trivial
      refine call_0 rfl rfl ⟨m, as, sh, _, _, rfl, rfl, rfl, trivial, ?_⟩
      decreasing_trivial
      have eo : opn as w c = tch as (nth w ((w.length - 1 : Nat) : Nat)) c := by unfold opn lastI; rw [decide_eq_true h1, Bool.true_and]
      refine ite_i (fun h2 => ?_) fun h2 => skip x7 (by unfold fndB; rw [eo, Bool.eq_false_iff.mpr h2]; rfl) (by unfold extB; rw [eo, Bool.eq_false_iff.mpr h2]; rfl)
      have eo2 : opn as w c = true := by rw [eo]; exact h2
      rw [cut_last]
      refine lc_map PyData.int (fun o => if tch as o c = true then some (.int o) else none) trivial w.dropLast (fun o ho K hK => ?_) ?_
      · unfold c__law_rings_1 e__law_rings_2
        decreasing_trivial
        refine call_0 rfl rfl ⟨m, as, sh, _, _, rfl, rfl, rfl, trivial, ?_⟩
        decreasing_trivial
        exact lc_ite hK
      rw [fm_ints (fun o => tch as o c)]
      have el : w.dropLast.filter (fun o => tch as o c) = lnk as w c := rfl
      rw [el]
      have ll : (lnk as w c).length ≤ 100 := by
        have := List.length_filter_le (fun o => tch as o c) w.dropLast
        rw [List.length_dropLast] at this
        show (w.dropLast.filter fun o => tch as o c).length ≤ 100
        omega
      decreasing_trivial
      rw [len_iD, len_iD]
      refine ite_i (fun h3 => ?_) fun h3 => ?_
      · have e1 : extB as w c = true := by unfold extB; rw [eo2, decide_eq_true (by omega)]; rfl
        have e2 : fndB as w c = false := by unfold fndB; rw [eo2, decide_eq_true (by omega)]; rfl
        rw [List.filter_cons, e2] at hF
        rw [List.filter_cons, e1] at hL
        decreasing_trivial
        rw [iD_add]
        refine ⟨by unfold sizeLine; omega, by rw [len_tD]; unfold sizeLine; omega, ?_⟩
        rw [tD_add]
        refine go _ _ ⟨F1, L1 ++ [w ++ [c]], some _, some _, rfl, rfl, hF, ?_⟩
        rw [← hL, if_pos rfl, List.map_cons, List.append_assoc]
        rfl
      · have e1 : extB as w c = false := by unfold extB; rw [eo2, decide_eq_false (by omega)]; rfl
        have skip2 : fndB as w c = false → N [some (.dat (qS m as sh)), some (.ptr 0), some (.dat (.list (tD ws))), sd x3, some (.ptr 1), some (.dat (.tuple (iD w))), some (.dat (.int c)), some (.dat (.list (iD (lnk as w c)))), none] [some (.lst (tD F1)), some (.lst (tD L1))] := fun e2 => skip (some _) e2 e1
        have ef : fndB as w c = (decide (lnk as w c = [nth w 0]) && (decide (2 < w.length) && decide (nth w 1 < c))) := by unfold fndB; rw [eo2, decide_eq_false (by omega)]; rfl
        refine ⟨_, at_nth (c := 0) (by omega) (by omega), .inl (dep_lI _), ?_⟩
        rw [show PyData.list [PyData.int (nth w 0)] = PyData.list (iD [nth w 0]) from rfl, eqv_lists]
        refine ite_dec (fun h4 => ?_) fun h4 => skip2 (by rw [ef, decide_eq_false h4]; rfl)
        refine ite_i (fun h5 => ?_) fun h5 => skip2 (by rw [ef, decide_eq_false (show ¬ 2 < w.length by omega), Bool.false_and, Bool.and_false])
        refine ⟨_, at_nth (c := 1) (by omega) (by omega), ?_⟩
        decreasing_trivial
        refine ite_i (fun h6 => ?_) fun h6 => skip2 (by rw [ef, decide_eq_false h6, Bool.and_false, Bool.and_false])
        have e2 : fndB as w c = true := by rw [ef, decide_eq_true h4, decide_eq_true (show 2 < w.length by omega), decide_eq_true h6]; rfl
        rw [List.filter_cons, e2] at hF
        rw [List.filter_cons, e1] at hL
        refine ⟨by unfold sizeLine; omega, by rw [len_tD]; unfold sizeLine; omega, ?_⟩
        rw [iD_add, tD_add]
        refine go _ _ ⟨F1 ++ [w ++ [c]], L1, some _, some _, rfl, rfl, ?_, hL⟩
        rw [← hF, if_pos rfl, List.map_cons, List.append_assoc]
        rfl
    · rintro ρ η ⟨F1, L1, x6, x7, rfl, rfl, hF, hL⟩
      rw [List.filter_nil, List.map_nil, List.append_nil] at hF hL
      subst hF hL
      exact hP x6 x7
  unfold b__law_rings qS
  decreasing_trivial
  refine ⟨by unfold sizeLine; omega, by omega, ?_⟩
  rw [Int.toNat_natCast, rI_map]
  refine lc_map PyData.int (fun c => some (.tuple (iD [c]))) trivial _ (fun c hc K hK => ?_) ?_
  · unfold e__law_rings_1
    decreasing_trivial
    exact hK
  rw [fm_some, show ((rI m).map fun c => PyData.tuple (iD [c])) = tD (bfsW m as 0) by unfold tD bfsW; rw [List.map_map]; rfl, ← rI_map]
  refine ⟨by unfold sizeLine; omega, by omega, ?_⟩
  refine for_rng0 (fun t ρ η => ∃ (x3 x5 x6 x7 : Option D) (x4 : Option D), ρ = [some (.dat (qS m as sh)), some (.ptr 0), some (.dat (.list (tD (bfsW m as t)))), sd x3, sd x4, sd x5, sd x6, sd x7, none] ∧ η = [some (.lst (tD (bfsF m as t))), none]) m ?_ ?_ ⟨none, none, none, none, none, rfl, rfl⟩
  · rintro t ρ η N ht ⟨x3, x5, x6, x7, x4, rfl, rfl⟩ go
    have s1 := (bfs_sound (m := m) (as := as) t).1
    obtain ⟨l1, l2⟩ := bfs_len (as := as) hm t
    obtain ⟨l3, l4⟩ := bfs_len (as := as) hm (t + 1)
    have p7 : 7 ^ (t + 1 + 1) ≤ 7 ^ 8 := Nat.pow_le_pow_right (by omega) (by omega)
    have p6 : 7 ^ (t + 1) ≤ 7 ^ 7 := Nat.pow_le_pow_right (by omega) (by omega)
    unfold l__law_rings_3
    decreasing_trivial
    refine for_map (fun a => PyData.tuple (iD a)) (fun l ρ η => ∃ (F1 L1 : List (List Int)) (x5 x6 x7 : Option D), ρ = [some (.dat (qS m as sh)), some (.ptr 0), some (.dat (.list (tD (bfsW m as t)))), some (.dat (.int (t : Nat))), some (.ptr 1), sd x5, sd x6, sd x7, none] ∧ η = [some (.lst (tD F1)), some (.lst (tD L1))] ∧
      (∀ w ∈ l, PathP m as w) ∧ F1 ++ l.flatMap (fnd m as) = bfsF m as (t + 1) ∧ L1 ++ l.flatMap (ext m as) = bfsW m as (t + 1)) ?_ ?_ (bfsW m as t) ⟨bfsF m as t, [], x5, x6, x7, rfl, rfl, fun w hw => (s1 w hw).1, rfl, rfl⟩
    · rintro w l ρ η N2 ⟨F1, L1, x5, x6, x7, rfl, rfl, hp, hF, hL⟩ go2
      rw [List.flatMap_cons, ← List.append_assoc] at hF hL
      have c1 := congrArg List.length hF
      have c2 := congrArg List.length hL
      rw [List.length_append, List.length_append] at c1 c2
      refine one w (hp w List.mem_cons_self) _ F1 L1 _ (some _) x6 x7 (by omega) (by omega) (by rw [List.length_append]; omega) (by rw [List.length_append]; omega) fun x6 x7 => ?_
      refine ⟨trivial, go2 _ _ ⟨_, _, some _, x6, x7, rfl, rfl, fun v hv => hp v (List.mem_cons_of_mem _ hv), hF, hL⟩⟩
    · rintro ρ η ⟨F1, L1, x5, x6, x7, rfl, rfl, hp, hF, hL⟩
      rw [List.flatMap_nil, List.append_nil] at hF hL
      subst hF hL
      have e : List.map (frz1 1 (PyData.list (tD (bfsW m as (t + 1))))) [some (.dat (qS m as sh)), some (.ptr 0), some (.dat (.list (tD (bfsW m as t)))), some (.dat (.int (t : Nat))), some (.ptr 1), sd x5, sd x6, sd x7, none] =
          [some (.dat (qS m as sh)), some (.ptr 0), some (.dat (.list (tD (bfsW m as t)))), some (.dat (.int (t : Nat))), some (.dat (.list (tD (bfsW m as (t + 1))))), sd x5, sd x6, sd x7, none] := by
        cases x5 <;> cases x6 <;> cases x7 <;> rfl
      refine ⟨rfl, ?_⟩
      dsimp only [List.getElem?_cons_succ, List.getElem?_cons_zero]
      rw [e]
      exact go _ _ ⟨some _, x5, x6, x7, some _, rfl, rfl⟩
  · rintro ρ η ⟨x3, x5, x6, x7, x4, rfl, rfl⟩
    decreasing_trivial
    exact kk
end Pl

namespace Pl
open PySem PySem.Spec PyProof.Rows L2

/-! _law_woven(d): registers d=0, atoms=1, atom=2 -/
abbrev N__law_woven : List Str := ["d", "most", "query", "size", "atoms", "k", "atom"]
def r__law_woven_1 : Ss :=
 (.cons (.iff (.cmp .eq (.bi .len (.cons (.var 6) .nil)) (.lit (.int 0))) (
  (.cons (.asg 6 (some 2) (.lst (.cons (.call 2 (.cons (.var 0) (.cons (.var 3) .nil))) .nil))) .nil)) ( .nil))
 (.cons (.exp (.met .append (.var 4) (.cons (.bi .tuple (.cons (.bi .sorted (.cons (.var 6) .nil)) .nil)) .nil))) .nil))
def l__law_woven_1 : Ss :=
 (.cons (.asg 6 (some 2) (.call 3 (.cons (.var 0) (.cons (.call 4 (.cons (.var 0) (.cons (.var 4) .nil))) .nil))))
 (.cons (.iff (.and (.cmp .lt (.var 3) (.lit (.int 7))) (.cons (.or (.cmp .eq (.bi .len (.cons (.var 6) .nil)) (.lit (.int 0))) (.cons (.cmp .eq (.call 2 (.cons (.var 0) (.cons (.lit (.int 2)) .nil))) (.lit (.int 0))) .nil)) .nil)) (
  (.cons (.exp (.met .append (.var 6) (.cons (.var 3) .nil)))
  (.cons (.augN 3 (.lit (.int 1))) .nil))) ( .nil)) r__law_woven_1))
def r__law_woven_2 : Ss :=
 (.cons (.frz 4 1)
 (.cons (.ret (.call 5 (.cons (.var 0) (.cons (.tup (.cons (.lit (.str ("query" : Str))) (.cons (.var 3) (.cons (.call 6 (.cons (.var 0) (.cons (.var 4) (.cons (.var 3) .nil)))) (.cons (.bi .rtup1 (.cons (.var 3) .nil)) .nil))))) .nil)))) .nil))
def r__law_woven_3 : Ss :=
 (.cons (.asg 2 none (.call 1 (.cons (.var 0) (.cons (.var 1) .nil))))
 (.cons (.asg 3 none (.idx (.var 2) (.lit (.int 1))))
 (.cons (.asg 4 (some 1) (.bi .list (.cons (.idx (.var 2) (.lit (.int 2))) .nil)))
 (.cons (.for [] (.one 5) (.rng1 (.call 2 (.cons (.var 0) (.cons (.bi .min2 (.cons (.lit (.int 4)) (.cons (.bop .sub (.lit (.int 9)) (.bi .len (.cons (.var 4) .nil))) .nil))) .nil)))) l__law_woven_1) r__law_woven_2))))
def b__law_woven : Ss :=
 (.cons (.asg 1 none (.lit (.int 5)))
 (.cons (.iff (.call 0 (.cons (.var 0) (.cons (.lit (.int 8)) .nil))) (
  (.cons (.asg 1 none (.lit (.int 7))) .nil)) ( .nil)) r__law_woven_3))
-- calls: _law_rare, _law_knot, _law_draw, _law_some, _law_pick, _law_shown, _law_renamed; np 1, n 2; slots 0:d 1:most 2:query 3:size 4:atoms 5:k 6:atom

/-! _law_world(d): registers d=0, atoms=1 -/
abbrev N__law_world : List Str := ["d", "query", "atoms", "at"]
def b__law_world : Ss :=
 (.cons (.iff (.cmp .eq (.call 0 (.cons (.var 0) (.cons (.lit (.int 3)) .nil))) (.lit (.int 0))) (
  (.cons (.ret (.call 1 (.cons (.var 0) (.cons (.call 2 (.cons (.var 0) (.cons (.lit (.int 5)) .nil))) .nil)))) .nil)) ( .nil))
 (.cons (.asg 1 none (.call 3 (.cons (.var 0) .nil)))
 (.cons (.iff (.cmp .eq (.call 0 (.cons (.var 0) (.cons (.lit (.int 2)) .nil))) (.lit (.int 0))) (
  (.cons (.ret (.var 1)) .nil)) ( .nil))
 (.cons (.asg 2 (some 1) (.bi .list (.cons (.idx (.var 1) (.lit (.int 2))) .nil)))
 (.cons (.asg 3 none (.call 0 (.cons (.var 0) (.cons (.bi .len (.cons (.var 2) .nil)) .nil))))
 (.cons (.sto (.var 2) (.var 3) (.bi .tuple (.cons (.sset (.bop .add (.idx (.var 2) (.var 3)) (.call 4 (.cons (.var 0) (.cons (.var 2) .nil))))) .nil)))
 (.cons (.ret (.tup (.cons (.lit (.str ("query" : Str))) (.cons (.idx (.var 1) (.lit (.int 1))) (.cons (.bi .tuple (.cons (.var 2) .nil)) (.cons (.idx (.var 1) (.lit (.int 3))) .nil)))))) .nil)))))))
-- calls: _law_draw, _law_shown, _law_any_query, _law_woven, _law_pick; np 1, n 1; slots 0:d 1:query 2:atoms 3:at

/-! _law_is_ring(query, columns): registers  -/
abbrev N__law_is_ring : List Str := ["query", "columns", "size", "i", "j", "is_next", "column"]
def e__law_is_ring_1 : E := (.chn .le .lt (.lit (.int 0)) (.var 6) (.idx (.var 0) (.lit (.int 1))))
def r__law_is_ring_1 : Ss :=
 (.cons (.iff (.cmp .ne (.call 0 (.cons (.var 0) (.cons (.idx (.var 1) (.var 3)) (.cons (.idx (.var 1) (.var 4)) .nil)))) (.var 5)) (
  (.cons (.ret (.lit (.bool false))) .nil)) ( .nil)) .nil)
def l__law_is_ring_1 : Ss :=
 (.cons (.asg 5 none (.or (.cmp .eq (.bop .sub (.var 3) (.var 4)) (.lit (.int 1))) (.cons (.cmp .eq (.bop .sub (.var 3) (.var 4)) (.bop .sub (.var 2) (.lit (.int 1)))) .nil))) r__law_is_ring_1)
def l__law_is_ring_2 : Ss :=
 (.cons (.for [] (.one 4) (.rng1 (.var 3)) l__law_is_ring_1) .nil)
def b__law_is_ring : Ss :=
 (.cons (.asg 2 none (.bi .len (.cons (.var 1) .nil)))
 (.cons (.iff (.or (.cmp .lt (.var 2) (.lit (.int 4))) (.cons (.cmp .ne (.nset (.var 1)) (.var 2)) .nil)) (
  (.cons (.ret (.lit (.bool false))) .nil)) ( .nil))
 (.cons (.iff (.not (.bi .all (.cons (.lc (.one 6) [6] (.seq (.var 1)) .no e__law_is_ring_1) .nil))) (
  (.cons (.ret (.lit (.bool false))) .nil)) ( .nil))
 (.cons (.iff (.or (.cmp .ne (.idx (.var 1) (.lit (.int 0))) (.bi .min1 (.cons (.var 1) .nil))) (.cons (.cmp .gt (.idx (.var 1) (.lit (.int 1))) (.idx (.var 1) (.bop .sub (.var 2) (.lit (.int 1))))) .nil)) (
  (.cons (.ret (.lit (.bool false))) .nil)) ( .nil))
 (.cons (.for [] (.one 3) (.rng1 (.var 2)) l__law_is_ring_2)
 (.cons (.ret (.lit (.bool true))) .nil))))))
-- calls: _law_touch; np 0, n 0; slots 0:query 1:columns 2:size 3:i 4:j 5:is_next 6:column

/-! _law_is_clique(query, columns): registers  -/
abbrev N__law_is_clique : List Str := ["query", "columns", "absent", "atom", "column"]
def e__law_is_clique_1 : E := (.chn .le .lt (.lit (.int 0)) (.var 4) (.idx (.var 0) (.lit (.int 1))))
def e__law_is_clique_2 : E := (.call 0 (.cons (.var 1) (.cons (.var 3) .nil)))
def e__law_is_clique_3 : E := (.cmp .isin (.lst (.cons (.var 4) .nil)) (.var 2))
def b__law_is_clique : Ss :=
 (.cons (.iff (.or (.cmp .lt (.bi .len (.cons (.var 1) .nil)) (.lit (.int 3))) (.cons (.cmp .ne (.bi .list (.cons (.var 1) .nil)) (.sset (.var 1))) .nil)) (
  (.cons (.ret (.lit (.bool false))) .nil)) ( .nil))
 (.cons (.iff (.not (.bi .all (.cons (.lc (.one 4) [4] (.seq (.var 1)) .no e__law_is_clique_1) .nil))) (
  (.cons (.ret (.lit (.bool false))) .nil)) ( .nil))
 (.cons (.asg 2 none (.lc (.one 3) [3] (.seq (.idx (.var 0) (.lit (.int 2)))) .no e__law_is_clique_2))
 (.cons (.ret (.and (.cmp .notin (.lst .nil) (.var 2)) (.cons (.bi .all (.cons (.lc (.one 4) [4] (.seq (.var 1)) .no e__law_is_clique_3) .nil)) .nil))) .nil))))
-- calls: _law_absent; np 0, n 0; slots 0:query 1:columns 2:absent 3:atom 4:column

/-! _law_is_pattern(query, paper): registers  -/
abbrev N__law_is_pattern : List Str := ["query", "paper"]
def b__law_is_pattern : Ss :=
 (.cons (.iff (.cmp .eq (.idx (.var 1) (.lit (.int 0))) (.lit (.str ("ring" : Str)))) (
  (.cons (.ret (.call 0 (.cons (.var 0) (.cons (.idx (.var 1) (.lit (.int 1))) .nil)))) .nil)) ( .nil))
 (.cons (.ret (.call 1 (.cons (.var 0) (.cons (.idx (.var 1) (.lit (.int 1))) .nil)))) .nil))
-- calls: _law_is_ring, _law_is_clique; np 0, n 0; slots 0:query 1:paper

/-! _law_patterns(query): registers found=0 -/
abbrev N__law_patterns : List Str := ["query", "found", "mask", "columns", "column"]
def e__law_patterns_1 : E := (.tup (.cons (.lit (.str ("ring" : Str))) (.cons (.var 3) .nil)))
def c__law_patterns_1 : Eo := (.so (.cmp .eq (.bop .mod (.bi .int (.cons (.bop .shr (.var 2) (.var 4)) .nil)) (.lit (.int 2))) (.lit (.int 1))))
def e__law_patterns_2 : E := (.var 4)
def l__law_patterns_1 : Ss :=
 (.cons (.asg 3 none (.bi .tuple (.cons (.lc (.one 4) [4] (.rng1 (.idx (.var 0) (.lit (.int 1)))) c__law_patterns_1 e__law_patterns_2) .nil)))
 (.cons (.iff (.call 1 (.cons (.var 0) (.cons (.var 3) .nil))) (
  (.cons (.exp (.met .append (.var 1) (.cons (.tup (.cons (.lit (.str ("clique" : Str))) (.cons (.var 3) .nil))) .nil))) .nil)) ( .nil)) .nil))
def b__law_patterns : Ss :=
 (.cons (.asg 1 (some 0) (.lc (.one 3) [3] (.seq (.call 0 (.cons (.var 0) .nil))) .no e__law_patterns_1))
 (.cons (.for [] (.one 2) (.rng1 (.bop .shl (.lit (.int 1)) (.idx (.var 0) (.lit (.int 1))))) l__law_patterns_1)
 (.cons (.retP 1 0) .nil)))
-- calls: _law_rings, _law_is_clique; np 0, n 1; slots 0:query 1:found 2:mask 3:columns 4:column

/-! _law_back(row): registers  -/
abbrev N__law_back : List Str := ["row", "k"]
def e__law_back_1 : E := (.idx (.var 0) (.bop .sub (.bop .sub (.bi .len (.cons (.var 0) .nil)) (.lit (.int 1))) (.var 1)))
def b__law_back : Ss :=
 (.cons (.ret (.lc (.one 1) [1] (.rng1 (.bi .len (.cons (.var 0) .nil))) .no e__law_back_1)) .nil)
-- calls: ; np 0, n 0; slots 0:row 1:k

/-! _law_told_form(columns): registers  -/
abbrev N__law_told_form : List Str := ["columns", "at", "found"]
def b__law_told_form : Ss :=
 (.cons (.asg 1 none (.met .index (.var 0) (.cons (.bi .min1 (.cons (.var 0) .nil)) .nil)))
 (.cons (.asg 2 none (.bop .add (.sli (.var 0) (.so (.var 1)) .no) (.sli (.var 0) .no (.so (.var 1)))))
 (.cons (.iff (.and (.cmp .gt (.bi .len (.cons (.var 2) .nil)) (.lit (.int 2))) (.cons (.cmp .gt (.idx (.var 2) (.lit (.int 1))) (.idx (.var 2) (.neg (.lit (.int 1))))) .nil)) (
  (.cons (.asg 2 none (.bop .add (.sli (.var 2) .no (.so (.lit (.int 1)))) (.call 0 (.cons (.sli (.var 2) (.so (.lit (.int 1))) .no) .nil)))) .nil)) ( .nil))
 (.cons (.ret (.tup (.cons (.lit (.str ("ring" : Str))) (.cons (.bi .tuple (.cons (.var 2) .nil)) .nil)))) .nil))))
-- calls: _law_back; np 0, n 0; slots 0:columns 1:at 2:found

/-! _law_touching_way(d, query): registers d=0, found=1 -/
abbrev N__law_touching_way : List Str := ["d", "query", "found", "step", "able", "column"]
def c__law_touching_way_1 : Eo := (.so (.and (.cmp .notin (.var 5) (.var 2)) (.cons (.call 1 (.cons (.var 1) (.cons (.idx (.var 2) (.neg (.lit (.int 1)))) (.cons (.var 5) .nil)))) .nil)))
def e__law_touching_way_1 : E := (.var 5)
def l__law_touching_way_1 : Ss :=
 (.cons (.asg 4 none (.lc (.one 5) [5] (.rng1 (.idx (.var 1) (.lit (.int 1)))) c__law_touching_way_1 e__law_touching_way_1))
 (.cons (.iff (.cmp .gt (.bi .len (.cons (.var 4) .nil)) (.lit (.int 0))) (
  (.cons (.exp (.met .append (.var 2) (.cons (.call 2 (.cons (.var 0) (.cons (.var 4) .nil))) .nil))) .nil)) ( .nil)) .nil))
def b__law_touching_way : Ss :=
 (.cons (.asg 2 (some 1) (.lst (.cons (.call 0 (.cons (.var 0) (.cons (.idx (.var 1) (.lit (.int 1))) .nil))) .nil)))
 (.cons (.for [] (.one 3) (.rng1 (.bop .add (.lit (.int 2)) (.call 0 (.cons (.var 0) (.cons (.lit (.int 4)) .nil))))) l__law_touching_way_1)
 (.cons (.retP 2 1) .nil)))
-- calls: _law_draw, _law_touch, _law_pick; np 1, n 1; slots 0:d 1:query 2:found 3:step 4:able 5:column

/-! _law_spoilt(d, query, paper): registers d=0, found=1 -/
abbrev N__law_spoilt : List Str := ["d", "query", "paper", "word", "found", "size", "at", "column", "way", "other"]
def r__law_spoilt_1 : Ss :=
 (.cons (.iff (.cmp .eq (.var 8) (.lit (.int 9))) (
  (.cons (.asg 4 (some 1) (.bop .add (.var 4) (.sli (.var 4) .no (.so (.lit (.int 1)))))) .nil)) ( .nil)) .nil)
def r__law_spoilt_2 : Ss :=
 (.cons (.iff (.and (.cmp .eq (.var 8) (.lit (.int 8))) (.cons (.cmp .lt (.var 6) (.var 5)) .nil)) (
  (.cons (.sto (.var 4) (.var 6) (.call 1 (.cons (.var 0) (.cons (.lst (.cons (.bop .sub (.idx (.var 4) (.var 6)) (.idx (.var 1) (.lit (.int 1)))) (.cons (.bop .add (.idx (.var 4) (.var 6)) (.idx (.var 1) (.lit (.int 1)))) (.cons (.lit (.int 1000000)) (.cons (.neg (.lit (.int 1000000))) .nil))))) .nil)))) .nil)) ( r__law_spoilt_1)) .nil)
def r__law_spoilt_3 : Ss :=
 (.cons (.iff (.and (.cmp .eq (.var 8) (.lit (.int 7))) (.cons (.cmp .lt (.var 6) (.var 5)) .nil)) (
  (.cons (.asg 9 none (.call 0 (.cons (.var 0) (.cons (.var 5) .nil))))
  (.cons (.sto (.var 4) (.var 6) (.idx (.idx (.var 2) (.lit (.int 1))) (.var 9)))
  (.cons (.sto (.var 4) (.var 9) (.idx (.idx (.var 2) (.lit (.int 1))) (.var 6))) .nil)))) ( r__law_spoilt_2)) .nil)
def r__law_spoilt_4 : Ss :=
 (.cons (.iff (.and (.cmp .eq (.var 8) (.lit (.int 6))) (.cons (.cmp .lt (.var 6) (.var 5)) .nil)) (
  (.cons (.sto (.var 4) (.var 6) (.var 7)) .nil)) ( r__law_spoilt_3)) .nil)
def r__law_spoilt_5 : Ss :=
 (.cons (.iff (.cmp .eq (.var 8) (.lit (.int 5))) (
  (.cons (.asg 4 (some 1) (.bop .add (.bop .add (.sli (.var 4) .no (.so (.var 6))) (.lst (.cons (.var 7) .nil))) (.sli (.var 4) (.so (.var 6)) .no))) .nil)) ( r__law_spoilt_4)) .nil)
def r__law_spoilt_6 : Ss :=
 (.cons (.iff (.cmp .eq (.var 8) (.lit (.int 4))) (
  (.cons (.asg 4 (some 1) (.bop .add (.sli (.var 4) .no (.so (.var 6))) (.sli (.var 4) (.so (.bop .add (.var 6) (.lit (.int 1)))) .no))) .nil)) ( r__law_spoilt_5)) .nil)
def r__law_spoilt_7 : Ss :=
 (.cons (.iff (.cmp .eq (.var 8) (.lit (.int 3))) (
  (.cons (.asg 4 (some 1) (.bop .add (.sli (.var 4) .no (.so (.lit (.int 1)))) (.call 2 (.cons (.sli (.var 4) (.so (.lit (.int 1))) .no) .nil)))) .nil)) ( r__law_spoilt_6)) .nil)
def r__law_spoilt_8 : Ss :=
 (.cons (.iff (.cmp .eq (.var 8) (.lit (.int 2))) (
  (.cons (.asg 4 (some 1) (.bop .add (.sli (.var 4) (.so (.var 6)) .no) (.sli (.var 4) .no (.so (.var 6))))) .nil)) ( r__law_spoilt_7)) .nil)
def r__law_spoilt_9 : Ss :=
 (.cons (.iff (.cmp .eq (.var 8) (.lit (.int 1))) (
  (.cons (.frz 4 1)
  (.cons (.asg 4 (some 1) (.call 2 (.cons (.var 4) .nil))) .nil))) ( r__law_spoilt_8)) .nil)
def r__law_spoilt_10 : Ss :=
 (.cons (.iff (.cmp .eq (.var 8) (.lit (.int 0))) (
  (.cons (.asg 3 none (.call 1 (.cons (.var 0) (.cons (.lst (.cons (.lit (.str ("ring" : Str))) (.cons (.lit (.str ("clique" : Str))) .nil))) .nil)))) .nil)) ( r__law_spoilt_9))
 (.cons (.ret (.tup (.cons (.var 3) (.cons (.bi .tuple (.cons (.var 4) .nil)) .nil)))) .nil))
def b__law_spoilt : Ss :=
 (.cons (.asg 3 none (.idx (.var 2) (.lit (.int 0))))
 (.cons (.asg 4 (some 1) (.bi .list (.cons (.idx (.var 2) (.lit (.int 1))) .nil)))
 (.cons (.asg 5 none (.bi .len (.cons (.var 4) .nil)))
 (.cons (.asg 6 none (.call 0 (.cons (.var 0) (.cons (.bop .add (.var 5) (.lit (.int 1))) .nil))))
 (.cons (.asg 7 none (.bop .sub (.call 0 (.cons (.var 0) (.cons (.bop .add (.idx (.var 1) (.lit (.int 1))) (.lit (.int 2))) .nil))) (.lit (.int 1))))
 (.cons (.asg 8 none (.call 0 (.cons (.var 0) (.cons (.lit (.int 10)) .nil)))) r__law_spoilt_10))))))
-- calls: _law_draw, _law_pick, _law_back; np 1, n 1; slots 0:d 1:query 2:paper 3:word 4:found 5:size 6:at 7:column 8:way 9:other

/-! _law_papers(d, query): registers d=0, papers=1 -/
abbrev N__law_papers : List Str := ["d", "query", "known", "columns", "drawn", "bases", "papers", "base", "way", "time"]
def l__law_papers_1 : Ss :=
 (.cons (.exp (.met .append (.var 6) (.cons (.call 4 (.cons (.var 0) (.cons (.var 1) (.cons (.var 7) .nil)))) .nil))) .nil)
def l__law_papers_2 : Ss :=
 (.cons (.for [] (.one 9) (.rng1 (.lit (.int 4))) l__law_papers_1) .nil)
def r__law_papers_1 : Ss :=
 (.cons (.asg 8 none (.call 5 (.cons (.var 0) (.cons (.var 1) .nil))))
 (.cons (.exp (.met .append (.var 6) (.cons (.call 6 (.cons (.var 8) .nil)) .nil)))
 (.cons (.exp (.met .append (.var 6) (.cons (.tup (.cons (.lit (.str ("clique" : Str))) (.cons (.bi .tuple (.cons (.bi .sorted (.cons (.var 8) .nil)) .nil)) .nil))) .nil)))
 (.cons (.exp (.met .append (.var 6) (.cons (.tup (.cons (.lit (.str ("clique" : Str))) (.cons (.bi .tuple (.cons (.sset (.bop .add (.call 3 (.cons (.var 0) (.cons (.idx (.var 1) (.lit (.int 2))) .nil))) (.call 3 (.cons (.var 0) (.cons (.idx (.var 1) (.lit (.int 2))) .nil))))) .nil)) .nil))) .nil)))
 (.cons (.exp (.met .append (.var 6) (.cons (.call 6 (.cons (.call 5 (.cons (.var 0) (.cons (.var 1) .nil))) .nil)) .nil)))
 (.cons (.retP 6 1) .nil))))))
def r__law_papers_2 : Ss :=
 (.cons (.asg 6 (some 1) (.bi .list (.cons (.var 5) .nil)))
 (.cons (.for [] (.one 7) (.seq (.sli (.var 5) .no (.so (.lit (.int 2))))) l__law_papers_2) r__law_papers_1))
def b__law_papers : Ss :=
 (.cons (.asg 2 none (.call 0 (.cons (.var 1) .nil)))
 (.cons (.asg 3 none (.call 1 (.cons (.var 0) (.cons (.bi .rlist1 (.cons (.idx (.var 1) (.lit (.int 1))) .nil)) .nil))))
 (.cons (.asg 4 none (.bi .tuple (.cons (.sli (.var 3) .no (.so (.call 2 (.cons (.var 0) (.cons (.bop .add (.idx (.var 1) (.lit (.int 1))) (.lit (.int 1))) .nil))))) .nil)))
 (.cons (.asg 5 none (.lst (.cons (.tup (.cons (.call 3 (.cons (.var 0) (.cons (.lst (.cons (.lit (.str ("ring" : Str))) (.cons (.lit (.str ("clique" : Str))) .nil))) .nil))) (.cons (.var 4) .nil))) (.cons (.tup (.cons (.lit (.str ("clique" : Str))) (.cons (.bi .tuple (.cons (.bi .sorted (.cons (.var 4) .nil)) .nil)) .nil))) .nil))))
 (.cons (.iff (.cmp .gt (.bi .len (.cons (.var 2) .nil)) (.lit (.int 0))) (
  (.cons (.asg 5 none (.bop .add (.lst (.cons (.call 3 (.cons (.var 0) (.cons (.var 2) .nil))) (.cons (.call 3 (.cons (.var 0) (.cons (.var 2) .nil))) .nil))) (.var 5))) .nil)) ( .nil)) r__law_papers_2)))))
-- calls: _law_patterns, _law_shuffled, _law_draw, _law_pick, _law_spoilt, _law_touching_way, _law_told_form; np 1, n 1; slots 0:d 1:query 2:known 3:columns 4:drawn 5:bases 6:papers 7:base 8:way 9:time

/-! law(script): registers d=0 -/
abbrev N_law : List Str := ["script", "d", "one", "other", "firsts", "seconds", "at", "pairs", "query", "paper", "told"]
def l_law_1 : Ss :=
 (.cons (.asg 10 none (.call 3 (.cons (.var 8) (.cons (.var 9) .nil))))
 (.cons (.iff (.or (.not (.bi (.isi "bool") (.cons (.var 10) .nil))) (.cons (.cmp .ne (.var 10) (.call 4 (.cons (.var 8) (.cons (.var 9) .nil)))) .nil)) (
  (.cons (.ret (.lit (.bool false))) .nil)) ( .nil)) .nil))
def l_law_2 : Ss :=
 (.cons (.asg 7 none (.lst (.cons (.tup (.cons (.var 3) (.cons (.idx (.var 5) (.var 6)) .nil))) (.cons (.tup (.cons (.var 2) (.cons (.idx (.var 5) (.var 6)) .nil))) .nil))))
 (.cons (.iff (.cmp .lt (.var 6) (.bi .len (.cons (.var 4) .nil))) (
  (.cons (.asg 7 none (.bop .add (.lst (.cons (.tup (.cons (.var 2) (.cons (.idx (.var 4) (.var 6)) .nil))) .nil)) (.var 7))) .nil)) ( .nil))
 (.cons (.for [] (.many [8, 9]) (.seq (.var 7)) l_law_1) .nil)))
def r_law_1 : Ss :=
 (.cons (.iff (.or (.not (.call 3 (.cons (.var 3) (.cons (.idx (.var 5) (.lit (.int 0))) .nil)))) (.cons (.not (.call 3 (.cons (.var 3) (.cons (.idx (.var 5) (.lit (.int 1))) .nil)))) .nil)) (
  (.cons (.ret (.lit (.bool false))) .nil)) ( .nil))
 (.cons (.ret (.cmp .eq (.call 3 (.cons (.var 2) (.cons (.idx (.var 4) (.lit (.int 0))) .nil))) (.call 4 (.cons (.var 2) (.cons (.idx (.var 4) (.lit (.int 0))) .nil))))) .nil))
def r_law_2 : Ss :=
 (.cons (.for [] (.one 6) (.rng1 (.bi .len (.cons (.var 5) .nil))) l_law_2) r_law_1)
def b_law : Ss :=
 (.cons (.asg 2 none (.call 0 (.cons (.var 1) .nil)))
 (.cons (.asg 3 none (.call 1 (.cons (.var 1) .nil)))
 (.cons (.asg 4 none (.call 2 (.cons (.var 1) (.cons (.var 2) .nil))))
 (.cons (.asg 5 none (.call 2 (.cons (.var 1) (.cons (.var 3) .nil)))) r_law_2))))
-- calls: _law_world, _law_woven, _law_papers, judge_pattern, _law_is_pattern; np 0, n 1; slots 0:script 1:d 2:one 3:other 4:firsts 5:seconds 6:at 7:pairs 8:query 9:paper 10:told

-- constants: {}; not covered 0

local macro_rules | `(tactic| decreasing_trivial) => `(tactic| try simp only [wSs, wS, wE, wEs, wEo, wCond, wSrc, wAnd, wOr, Bool.false_eq_true, if_false, Bool.not_true, Bool.not_false, asT, onView_dat, onD_dat, fz_dat, fz_ptr, fz_fr, settled_dat, settled_ptr,  List.getElem?_cons_zero, List.getElem?_cons_succ, List.set_cons_zero, List.set_cons_succ, List.length_cons, List.length_nil, Nat.reduceAdd, Option.some.injEq, exists_eq_left', true_and, and_true, if_true, decide_eq_true_eq, Int.reduceToNat, Int.reducePow, Int.reduceLE, Int.reduceLT, Int.reduceMul, Int.reduceAdd, Int.reduceSub, Int.reduceNeg, Nat.reduceLT, Nat.reduceLeDiff, Nat.reduceMul, Nat.reducePow, Int.reduceAbs, Nat.reduceSub, List.map, List.replicate, List.cons_append, List.nil_append, List.append_nil, regsOf, renum, List.nodup_nil, r_add, r_adds, r_addt, r_addl, r_sub, r_mul, r_mull, r_mult, r_fdiv, r_mod, r_pow, r_band, r_bor, r_bxor, r_shl, r_shr, r_lt, r_le, r_gt, r_ge, r_lts, r_eq, r_ne, r_isin, r_notin, r_isin_list, r_isin_tuple, r_notin_list, r_notin_tuple, r_isnone, r_notnone, r_ixl, r_ixt, r_ixs, r_sll, r_slt, r_sls, r_len, r_int, r_intb, r_abs, r_min2, r_max2, r_sum, r_min1, r_max1, r_all, r_any, r_list, r_listt, r_tup, r_tupt, r_rl1, r_rl2, r_rt1, r_rt2, r_sort, r_sortt, r_isi, r_lenl, r_lent, r_lens, r_augi, r_augs, r_bitl, r_split, r_wtg, r_wtgm, r_at0, r_at1, r_at2, r_at3, r_at4, r_at5, r_ix1_0, r_ix2_0, r_ix2_1, r_ix3_0, r_ix3_1, r_ix3_2, r_ix4_0, r_ix4_1, r_ix4_2, r_ix4_3, r_ix5_0, r_ix5_1, r_ix5_2, r_ix5_3, r_ix5_4, r_v0, r_lenp0, r_typ0, r_app0, r_pop0, r_popAt0, r_ext0, r_outs0, r_v1, r_lenp1, r_typ1, r_app1, r_pop1, r_popAt1, r_ext1, r_outs1, r_v2, r_lenp2, r_typ2, r_app2, r_pop2, r_popAt2, r_ext2, r_outs2, r_v3, r_lenp3, r_typ3, r_app3, r_pop3, r_popAt3, r_ext3, r_outs3, r_tyd, r_mapp, r_mpop, r_mpopAt, r_mext, r_midxl, r_midxt, r_mspl, r_mbit, r_npd, r_npf, r_ty_int, r_ty_str, r_ty_list, r_ty_tuple, r_ty_bool, r_ixli, r_ixti, r_asgd, r_asgp, r_asgf, r_asgn, r_clr0, r_clr1, r_clr2, r_clr3, r_sto0, r_ag0, r_sto1, r_ag1, r_sto2, r_ag2, r_sto3, r_ag3, r_c0, r_c1, r_c2, r_c3, r_c4, r_c5, r_c6, r_c7, r_c8, r_c9, r_c10, r_c11, r_put1, r_put0, r_ptuple0, r_plist0, r_psum0, r_pmin10, r_pmax10, r_pall0, r_pany0, r_psorted0, r_ptuple1, r_plist1, r_psum1, r_pmin11, r_pmax11, r_pall1, r_pany1, r_psorted1, r_ptuple2, r_plist2, r_psum2, r_pmin12, r_pmax12, r_pall2, r_pany2, r_psorted2, r_ptuple3, r_plist3, r_psum3, r_pmin13, r_pmax13, r_pall3, r_pany3, r_psorted3, r_stab, r_wipe0, r_wipe1, stepLc, r_putc, frz1, reduceCtorEq, Nat.reduceEqDiff, reduceIte, r_clrD, r_frzD, setMany, r_sumt, r_min1t, r_max1t, r_ex0, r_exc, r_sz0, r_sz1, r_sz2, r_sz3, r_sz4, r_sz5, r_sz6, r_sz7, r_sz8, r_sz9, r_sz10, r_sz11, r_sz12, r_sz13, r_sz14, r_sz15, r_sz16, r_sz17, r_sz18, r_sz19, r_sz20, eqv_int, eqv_bool, r_depi, r_depb, true_or, or_true, Bool.not_eq_true', decide_eq_false_iff_not, not_true_eq_false, not_false_eq_true, List.not_mem_nil, false_implies, implies_true, qD, callN, r_szl0, r_szl1, r_szl2, r_szl3, r_szl4, r_szl5, r_szl6, r_szl7, r_szl8, r_szl9, r_szl10, r_szl11, r_szl12, r_szl13, r_szl14, r_szl15, r_szl16, r_szl17, r_szl18, r_szl19, r_szl20, r_szl21, r_szl22, r_szl23, r_szl24, r_szl25, r_szl26, r_szl27, r_szl28, r_szl29, r_szl30, r_szl31, r_szl32, r_szl33, r_szl34, r_szl35, r_szl36, r_szl37, r_szl38, r_szl39, r_szl40, r_isb, r_nisb, r_cut1, r_cut3, r_deps, eqv_str, eq_self, Int.reduceEq, Int.cast_ofNat_Int, decide_true, decide_false])
/-! ## queries with a pattern -/
structure Wov (m : Nat) (as : List (List Int)) : Prop where
  pos : 1 ≤ m
  few : m ≤ 7
  one : 1 ≤ as.length
  fewa : as.length ≤ 70
  cols : ∀ a ∈ as, Cols m a
abbrev Γw : Env := [("_law_rare", spRare), ("_law_knot", spKnot), ("_law_draw", spDraw), ("_law_some", spSome), ("_law_pick", spPick), ("_law_shown", spShown), ("_law_renamed", spRen2)]
def spWoven : PSpec := fun vs obs Q => ∃ o : Ob, vs = [.ptr 0] ∧ obs = [o] ∧ Std o ∧ ∀ (m : Nat) (as : List (List Int)) (sh : List Int) (o' : Ob), Wov m as → Cols m sh → PatIn m as → Std o' → Q (.dat (qS m as sh)) [o']
theorem rd_woven {vs : List Vl} {obs : List Ob} {Q : Vl → List Ob → Prop} (h : spWoven vs obs Q) : vs.length = 1 ∧ obs.length = 1 ∧ wFn Γw b__law_woven 7 2 vs obs Q := by
  obtain ⟨o, rfl, rfl, hs, kk⟩ := h
  refine ⟨rfl, rfl, wFn_of rfl ?_⟩
  -- the end
  have st1 : ∀ (P : LEnds) (o : Ob) (q : D) (mc : Int) (m : Nat) (as : List (List Int)) (x5 : Option D) (v6 : Option Vl) (y2 : Option Ob), (v6 = none ∨ v6 = some (.ptr 2)) → Std o → Wov m as → PatIn m as → (∀ (as : List (List Int)) (sh : List Int) (o' : Ob), Wov m as → Cols m sh → PatIn m as → Std o' → P.rt (.dat (qS m as sh)) [some o', none, y2]) →
      wSs Γw r__law_woven_2 P [some (.ptr 0), some (.dat (.int mc)), some (.dat q), some (.dat (.int (m : Nat))), some (.ptr 1), sd x5, v6] [some o, some (.lst (tD as)), y2] := by
    intro P o q mc m as x5 v6 y2 hv ho hW hp hP
    have m0 := hW.pos
    have m1 := hW.few
    have l1 := hW.fewa
    unfold r__law_woven_2
    rcases hv with rfl | rfl
    all_goals
      decreasing_trivial
      refine call_r rfl rfl rfl ⟨m, as, o, rfl, rfl, ho, by omega, by omega, hW.cols, fun ns bs o2 hlb hcb hn ho2 => ⟨rfl, trivial, ?_⟩⟩
      decreasing_trivial
      refine ⟨⟨by omega, by omega⟩, ?_⟩
      rw [Int.toNat_natCast, rng_rI]
      refine call_r rfl rfl rfl ⟨m, bs, o2, rfl, rfl, ho2, fun sh o3 hsh _ ho3 => ⟨rfl, trivial, ?_⟩⟩
      decreasing_trivial
      exact hP bs sh o3 ⟨m0, m1, by rw [hlb]; exact hW.one, by rw [hlb]; exact l1, hcb⟩ hsh (hn.pat hp) ho3
  have st2 : ∀ (P : LEnds) (o : Ob) (mc : Int), Std o → 4 ≤ mc → mc ≤ 7 → (∀ (m : Nat) (as : List (List Int)) (sh : List Int) (o' : Ob) (y2 : Option Ob), Wov m as → Cols m sh → PatIn m as → Std o' → P.rt (.dat (qS m as sh)) [some o', none, y2]) →
      wSs Γw r__law_woven_3 P [some (.ptr 0), some (.dat (.int mc)), none, none, none, none, none] [some o, none, none] := by
    intro P o mc ho c0 c1 hP
    unfold r__law_woven_3
    decreasing_trivial
    refine call_r rfl rfl rfl ⟨mc, o, rfl, rfl, ho, c0, by omega, fun s as0 o2 hsm hk ho2 => ⟨rfl, trivial, ?_⟩⟩
    have k1 := hk.qry.pos
    have k2 := hk.few
    decreasing_trivial
    rw [len_tD]
    obtain ⟨z, hz⟩ := nat_of (z := if 9 - ((as0.length : Nat) : Int) < 4 then 9 - ((as0.length : Nat) : Int) else 4) (by split <;> omega)
    have z1 : 1 ≤ z ∧ z ≤ 4 := by split at hz <;> omega
    rw [hz]
    refine draw_w rfl ho2 (by omega) (by omega) fun r o3 r0 r1 ho3 => ?_
    decreasing_trivial
    obtain ⟨t, rfl⟩ := nat_of r0
    refine ⟨by unfold sizeLine; omega, by omega, ?_⟩
    rw [Int.toNat_natCast]
    refine for_rng0 (fun j ρ η => ∃ (o : Ob) (n : Nat) (bs : List (List Int)) (x5 : Option D) (v6 : Option Vl) (y2 : Option Ob), ρ = [some (.ptr 0), some (.dat (.int mc)), some (.dat (qD s as0)), some (.dat (.int (n : Nat))), some (.ptr 1), sd x5, v6] ∧ (v6 = none ∨ v6 = some (.ptr 2)) ∧ η = [some o, some (.lst (tD bs)), y2] ∧ Std o ∧
      s ≤ n ∧ n ≤ 7 ∧ Grown s as0 bs ∧ (∀ b ∈ bs, Cols n b) ∧ 1 ≤ bs.length ∧ bs.length ≤ 7 + j) _ ?_ ?_ ⟨o3, s, as0, none, none, none, rfl, .inl rfl, rfl, ho3, Nat.le_refl _, by omega, ⟨fun a ha => ha, fun b hb => ⟨b, hb, fun x hx _ => hx⟩⟩, hk.qry.cols, by omega, by omega⟩
    · rintro j ρ η N hj ⟨o, n, bs, x5, v6, y2, rfl, hv, rfl, ho, n0, n1, hg, hc, b0, b1⟩ go
      have more : ∀ (o : Ob) (n' : Nat) (e : List Int), Std o → n ≤ n' → n' ≤ 7 → Cols n' e → (∃ a ∈ as0, ∀ x ∈ e, x < (s : Int) → x ∈ a) → N [some (.ptr 0), some (.dat (.int mc)), some (.dat (qD s as0)), some (.dat (.int (n' : Nat))), some (.ptr 1), some (.dat (.int (j : Nat))), some (.ptr 2)] [some o, some (.lst (tD (bs ++ [sI e]))), some (.lst (iD e))] := by
        intro o n' e ho hn hn7 he ha
        refine go _ _ ⟨o, n', bs ++ [sI e], some _, _, _, rfl, .inr rfl, rfl, ho, by omega, hn7, ⟨fun a h => List.mem_append_left _ (hg.old a h), fun b hb => ?_⟩, fun b hb => ?_, by rw [List.length_append]; omega, by rw [List.length_append, List.length_singleton]; omega⟩
        · rcases List.mem_append.mp hb with hb | hb
          · exact hg.new b hb
          · rw [List.mem_singleton.mp hb]
            obtain ⟨a, h1, h2⟩ := ha
            exact ⟨a, h1, fun x hx => h2 x (mem_sI.mp hx)⟩
        · rcases List.mem_append.mp hb with hb | hb
          · exact (hc b hb).up hn
          · rw [List.mem_singleton.mp hb]
            exact he.perm (sI_perm _)
      have fin : ∀ (P : LEnds) (o : Ob) (n' : Nat) (e : List Int), Std o → n ≤ n' → n' ≤ 7 → Cols n' e → (∃ a ∈ as0, ∀ x ∈ e, x < (s : Int) → x ∈ a) → (∀ (o : Ob) (e : List Int), Std o → Cols n' e → (∃ a ∈ as0, ∀ x ∈ e, x < (s : Int) → x ∈ a) → P.nx [some (.ptr 0), some (.dat (.int mc)), some (.dat (qD s as0)), some (.dat (.int (n' : Nat))), some (.ptr 1), some (.dat (.int (j : Nat))), some (.ptr 2)] [some o, some (.lst (tD (bs ++ [sI e]))), some (.lst (iD e))]) →
          wSs Γw r__law_woven_1 P [some (.ptr 0), some (.dat (.int mc)), some (.dat (qD s as0)), some (.dat (.int (n' : Nat))), some (.ptr 1), some (.dat (.int (j : Nat))), some (.ptr 2)] [some o, some (.lst (tD bs)), some (.lst (iD e))] := by
        intro P o n' e ho hn hn7 he ha hP
        have sz : (tD bs).length < sizeLine := by rw [len_tD]; unfold sizeLine; omega
        unfold r__law_woven_1
        decreasing_trivial
        rw [len_iD]
        refine ite_i (fun h0 => ?_) fun h0 => ?_
        · refine draw_w rfl ho (by omega) (by omega) fun r o2 r0 r1 ho2 => ?_
          decreasing_trivial
          rw [show ([PyData.int r] : List D) = iD [r] from rfl]
          refine ⟨srt_ok _, sz, ?_⟩
          rw [sort_iD, tD_add]
          refine hP o2 [r] ho2 (Cols.one r0 r1) ?_
          by_cases hr : r < (s : Int)
          · obtain ⟨a, h1, h2⟩ := hk.cov r r0 hr
            exact ⟨a, h1, fun x hx _ => by rw [List.mem_singleton.mp hx]; exact h2⟩
          · obtain ⟨a, h1, _⟩ := ha
            exact ⟨a, h1, fun x hx hxs => by rw [List.mem_singleton.mp hx] at hxs; exact absurd hxs hr⟩
        · refine ⟨srt_ok _, sz, ?_⟩
          rw [sort_iD, tD_add]
          exact hP o e ho he ha
      unfold l__law_woven_1
      have sz : (tD bs).length < sizeLine := by rw [len_tD]; unfold sizeLine; omega
      rcases hv with rfl | rfl
      all_goals
        decreasing_trivial
        refine call_2 (n := 0) (k := 1) rfl rfl (by decide) rfl rfl ⟨tD bs, o, ho, by rw [len_tD]; omega, by rw [len_tD]; omega, .inr (.inr ⟨rfl, rfl, fun d o2 hd ho2 => ⟨rfl, trivial, ?_⟩⟩)⟩
        obtain ⟨b, hb, rfl⟩ := List.mem_map.mp hd
        decreasing_trivial
        refine call_r rfl rfl rfl ⟨_, _, .inr rfl, rfl, ho2, fun es o3 hsub ho3 => ⟨rfl, trivial, ?_⟩⟩
        obtain ⟨e, rfl, he⟩ := sub_map hsub (as := b) rfl
        decreasing_trivial
        rw [show List.map PyData.int e = iD e from rfl, len_iD]
        have hce : Cols n e := (hc b hb).sub he
        have hold : ∃ a ∈ as0, ∀ x ∈ e, x < (s : Int) → x ∈ a := by
          obtain ⟨a, h1, h2⟩ := hg.new b hb
          exact ⟨a, h1, fun x hx => h2 x (he.subset hx)⟩
        have hle := hce.len
        have grow : Cols (n + 1) (e ++ [((n : Nat) : Int)]) := (hce.up (by omega)).snoc (by omega) (by omega) fun z => by have := hce.2 _ z; omega
        have growo : ∃ a ∈ as0, ∀ x ∈ e ++ [((n : Nat) : Int)], x < (s : Int) → x ∈ a := by
          obtain ⟨a, h1, h2⟩ := hold
          refine ⟨a, h1, fun x hx hxs => ?_⟩
          rcases List.mem_append.mp hx with hx | hx
          · exact h2 x hx hxs
          · rw [List.mem_singleton.mp hx] at hxs; omega
        have szl : (iD e).length < sizeLine := by rw [len_iD]; unfold sizeLine; omega
        refine ite_i (fun h7 => ite_i (fun h0 => ?_) fun h0 => ?_) fun h7 => fin _ o3 n e ho3 (Nat.le_refl _) n1 hce hold fun o e h1 h2 h3 => more o n e h1 (Nat.le_refl _) n1 h2 h3
        · refine ⟨by unfold sizeLine; omega, ?_⟩
          rw [iD_add, show ((n : Nat) : Int) + 1 = ((n + 1 : Nat) : Int) by omega]
          exact fin _ o3 (n + 1) _ ho3 (by omega) (by omega) grow growo fun o e h1 h2 h3 => more o (n + 1) e h1 (by omega) (by omega) h2 h3
        · refine draw_w rfl ho3 (by omega) (by omega) fun r o4 r0 r1 ho4 => ?_
          decreasing_trivial
          refine ite_i (fun _ => ?_) fun _ => fin _ o4 n e ho4 (Nat.le_refl _) n1 hce hold fun o e h1 h2 h3 => more o n e h1 (Nat.le_refl _) n1 h2 h3
          decreasing_trivial
          refine ⟨szl, ?_⟩
          rw [iD_add, show ((n : Nat) : Int) + 1 = ((n + 1 : Nat) : Int) by omega]
          exact fin _ o4 (n + 1) _ ho4 (by omega) (by omega) grow growo fun o e h1 h2 h3 => more o (n + 1) e h1 (by omega) (by omega) h2 h3
    · rintro ρ η ⟨o, n, bs, x5, v6, y2, rfl, hv, rfl, ho, n0, n1, hg, hc, b0, b1⟩
      exact st1 _ o _ mc n bs x5 v6 y2 hv ho ⟨by omega, n1, b0, by omega, hc⟩ (hg.pat n0 hk.pat) fun as sh o' h1 h2 h3 h4 => hP n as sh o' y2 h1 h2 h3 h4
  unfold b__law_woven
  decreasing_trivial
  refine call_r rfl rfl rfl ⟨8, o, rfl, rfl, hs, by omega, by omega, fun b o2 ho2 => ⟨rfl, trivial, ?_⟩⟩
  decreasing_trivial
  refine ite_of (fun _ => ?_) fun _ => ?_
  · refine st2 _ o2 7 ho2 (by omega) (by omega) fun m as sh o' y2 h1 h2 h3 h4 => ?_
    decreasing_trivial
    exact kk m as sh o' h1 h2 h3 h4
  · refine st2 _ o2 5 ho2 (by omega) (by omega) fun m as sh o' y2 h1 h2 h3 h4 => ?_
    decreasing_trivial
    exact kk m as sh o' h1 h2 h3 h4
theorem ix_of2 {n : Nat} {c : Int} (h0 : 0 ≤ c) (h1 : c < (n : Int)) : ixN n c = some c.toNat := by
  unfold ixN
  rw [if_pos h0, if_pos h1]
def spWorld : PSpec := fun vs obs Q => ∃ o : Ob, vs = [.ptr 0] ∧ obs = [o] ∧ Std o ∧ ∀ (m : Nat) (as : List (List Int)) (sh : List Int) (o' : Ob), Wov m as → Cols m sh → Std o' → Q (.dat (qS m as sh)) [o']
theorem rd_world {vs : List Vl} {obs : List Ob} {Q : Vl → List Ob → Prop} (h : spWorld vs obs Q) : vs.length = 1 ∧ obs.length = 1 ∧ wFn [("_law_draw", spDraw), ("_law_shown", spShown), ("_law_any_query", spAny), ("_law_woven", spWoven), ("_law_pick", spPick)] b__law_world 4 1 vs obs Q := by
  obtain ⟨o, rfl, rfl, hs, kk⟩ := h
  refine ⟨rfl, rfl, wFn_of rfl ?_⟩
  unfold b__law_world
  decreasing_trivial
  refine draw_w rfl hs (by omega) (by omega) fun r o1 r0 r1 hs1 => ?_
  decreasing_trivial
  refine ite_i (fun _ => ?_) fun _ => ?_
  · refine call_r rfl rfl rfl ⟨5, o1, rfl, rfl, hs1, by omega, by omega, fun m as o2 hq hm ho2 => ⟨rfl, trivial, ?_⟩⟩
    decreasing_trivial
    refine call_r rfl rfl rfl ⟨m, as, o2, rfl, rfl, ho2, fun sh o3 hsh _ ho3 => ⟨rfl, trivial, ?_⟩⟩
    decreasing_trivial
    exact kk m as sh o3 ⟨hq.pos, by omega, hq.one, hq.fewa, hq.cols⟩ hsh ho3
  · refine call_r rfl rfl rfl ⟨o1, rfl, rfl, hs1, fun m as sh o2 hW hsh _ ho2 => ⟨rfl, trivial, ?_⟩⟩
    have l0 := hW.one
    have l1 := hW.fewa
    have m1 := hW.few
    decreasing_trivial
    refine draw_w rfl ho2 (by omega) (by omega) fun r o3 r0 r1 ho3 => ?_
    decreasing_trivial
    refine ite_i (fun _ => kk m as sh o3 hW hsh ho3) fun _ => ?_
    unfold qS
    decreasing_trivial
    rw [len_tD]
    refine draw_w rfl ho3 (by omega) (by omega) fun t o4 t0 t1 ho4 => ?_
    decreasing_trivial
    refine ⟨_, at_tD t0 t1, ?_⟩
    decreasing_trivial
    refine call_2 (n := 0) (k := 1) rfl rfl (by decide) rfl rfl ⟨tD as, o4, ho4, by rw [len_tD]; omega, by rw [len_tD]; omega, .inr (.inr ⟨rfl, rfl, fun d o5 hd ho5 => ⟨rfl, trivial, ?_⟩⟩)⟩
    obtain ⟨b, hb, rfl⟩ := List.mem_map.mp hd
    have ta : t.toNat < as.length := by omega
    have ha : as.getD t.toNat [] ∈ as := by
      rw [List.getD_eq_getElem?_getD, List.getElem?_eq_getElem ta]
      exact List.getElem_mem ta
    have ca := hW.cols _ ha
    have cb := hW.cols b hb
    have la := ca.len
    have lb := cb.len
    decreasing_trivial
    rw [show iD (as.getD t.toNat []) ++ iD b = iD (as.getD t.toNat [] ++ b) from (List.map_append ..).symm]
    refine ⟨by rw [len_iD, len_iD]; unfold sizeLine; omega, sset_ints (by rw [List.length_append]; omega) fun ms hms hmem => ?_⟩
    decreasing_trivial
    refine ⟨_, ix_of2 t0 (by rw [len_tD]; exact t1), ?_⟩
    rw [show (tD as).set t.toNat (.tuple (iD ms)) = tD (as.set t.toNat ms) from List.map_set.symm]
    exact kk m (as.set t.toNat ms) sh o5 ⟨hW.pos, hW.few, by rw [List.length_set]; exact l0, by rw [List.length_set]; exact l1, fun a ha => by
      rcases List.mem_or_eq_of_mem_set ha with h | h
      · exact hW.cols a h
      · rw [h]
        refine ⟨hms.imp fun q => by omega, fun c hc => ?_⟩
        rcases List.mem_append.mp ((hmem c).mp hc) with h | h
        · exact ca.2 c h
        · exact cb.2 c h⟩ hsh ho5
def spLRg : PSpec := spRg
theorem rd_lring {vs : List Vl} {obs : List Ob} {Q : Vl → List Ob → Prop} (h : spRg vs obs Q) : vs.length = 2 ∧ obs.length = 0 ∧ wFn [("_law_touch", spTch)] b__law_is_ring 7 0 vs obs Q := by
  obtain ⟨m, as, sh, ns, rfl, rfl, hl, kk⟩ := h
  have no : (¬ RingP m as ns) → Q (.dat (.bool false)) [] := fun h => fk kk (Bool.eq_false_iff.mpr fun z => h (ringB_iff.mp z))
  refine ⟨rfl, rfl, wFn_of rfl ?_⟩
  unfold b__law_is_ring
  decreasing_trivial
  rw [len_iD]
  refine ite_i (fun h0 => no fun z => by have := z.ring.four; omega) fun h0 => ?_
  have h4 : 4 ≤ ns.length := by omega
  refine nset_ints hl fun c hc => ?_
  have e := count_nodup hc
  decreasing_trivial
  refine ite_i (fun h1 => no fun z => ?_) fun h1 => ?_
  · have := e.mpr (difB_iff.mp z.dif).1
    omega
  have nd : ns.Nodup := e.mp (by omega)
  refine lc_map PyData.int (fun c => some (.bool (decide (0 ≤ c ∧ c < (m : Int))))) trivial ns (fun c hc K hK => ?_) ?_
  · unfold e__law_is_ring_1 qS
    decreasing_trivial
    exact chn_b (K := fun b => K (some (.bool b)) _) hK
  rw [fm_some, map_bool]
  refine ⟨_, rfl, ?_⟩
  rw [all_id]
  refine ite_i (fun h1 => no fun z => ?_) fun h1 => ?_
  · refine Bool.eq_false_iff.mp h1 (List.all_eq_true.mpr fun c hc => decide_eq_true ((difB_iff.mp z.dif).2 c hc))
  rw [Bool.not_eq_false] at h1
  have hd : difB m ns = true := difB_iff.mpr ⟨nd, fun c hc => of_decide_eq_true (List.all_eq_true.mp h1 c hc)⟩
  refine ⟨_, at_nth (c := 0) (by omega) (by omega), ?_⟩
  decreasing_trivial
  refine intsOf_ints ⟨by omega, fun mn hmn hle => ?_⟩
  decreasing_trivial
  refine ite_i (fun h2 => no fun z => h2 ?_) fun h2 => ?_
  · have a1 := z.least mn hmn
    have a2 := hle _ (nth_in (w := ns) (i := 0) (by omega))
    have a3 : mn ≤ nth ns 0 := a2
    omega
  refine ⟨_, at_nth (c := 1) (by omega) (by omega), ?_⟩
  decreasing_trivial
  refine ⟨_, at_nth (c := ((ns.length : Nat) : Int) - 1) (by omega) (by omega), ?_⟩
  decreasing_trivial
  have ew : nth ns (((ns.length : Nat) : Int) - 1) = nth ns ((ns.length - 1 : Nat) : Nat) := by rw [show ((ns.length : Nat) : Int) - 1 = ((ns.length - 1 : Nat) : Int) by omega]
  rw [ew]
  refine ite_i (fun h3 => no fun z => by have := z.way; omega) fun h3 => ?_
  have h2' : nth ns 0 = mn := by
    by_cases e : nth ns 0 = mn
    · exact e
    · exact absurd e h2
  have hle0 : ∀ c ∈ ns, nth ns 0 ≤ c := fun c hc => by rw [h2']; exact hle c hc
  refine ⟨by unfold sizeLine; omega, by omega, ?_⟩
  rw [Int.toNat_natCast]
  refine for_rng0 (fun i ρ η => ∃ x3 x4 x5 : Option D, ρ = [some (.dat (qS m as sh)), some (.dat (.tuple (iD ns))), some (.dat (.int (ns.length : Nat))), sd x3, sd x4, sd x5, none] ∧ η = [] ∧ ∀ a b : Nat, b < i → a < b → (tch as (nth ns (a : Nat)) (nth ns (b : Nat)) = true ↔ nextI ns.length a b)) _ ?_ ?_ ⟨none, none, none, rfl, rfl, fun a b h => by omega⟩
  · rintro i ρ η N hi ⟨x3, x4, x5, rfl, rfl, ht⟩ go
    unfold l__law_is_ring_2
    decreasing_trivial
    refine ⟨by unfold sizeLine; omega, by omega, ?_⟩
    rw [Int.toNat_natCast]
    refine for_rng0 (fun j ρ η => ∃ x4 x5 : Option D, ρ = [some (.dat (qS m as sh)), some (.dat (.tuple (iD ns))), some (.dat (.int (ns.length : Nat))), some (.dat (.int (i : Nat))), sd x4, sd x5, none] ∧ η = [] ∧ ∀ a : Nat, a < j → (tch as (nth ns (a : Nat)) (nth ns (i : Nat)) = true ↔ nextI ns.length a i)) _ ?_ ?_ ⟨x4, x5, rfl, rfl, fun a h1 => by omega⟩
    · rintro j ρ η N2 hj ⟨x4, x5, rfl, rfl, hjt⟩ go2
      have st : ∀ (P : LEnds) (b : Bool), (b = true ↔ nextI ns.length j i) → ((tch as (nth ns (j : Nat)) (nth ns (i : Nat)) = true ↔ nextI ns.length j i) → P.nx [some (.dat (qS m as sh)), some (.dat (.tuple (iD ns))), some (.dat (.int (ns.length : Nat))), some (.dat (.int (i : Nat))), some (.dat (.int (j : Nat))), some (.dat (.bool b)), none] []) → (¬ RingP m as ns → P.rt (.dat (.bool false)) []) →
          wSs [("_law_touch", spTch)] r__law_is_ring_1 P [some (.dat (qS m as sh)), some (.dat (.tuple (iD ns))), some (.dat (.int (ns.length : Nat))), some (.dat (.int (i : Nat))), some (.dat (.int (j : Nat))), some (.dat (.bool b)), none] [] := by
        intro P b hb hP hR
        unfold r__law_is_ring_1
        decreasing_trivial
        refine ⟨_, at_nth (by omega) (by omega), ?_⟩
        decreasing_trivial
        refine ⟨_, at_nth (by omega) (by omega), ?_⟩
        decreasing_trivial
        refine call_0 rfl rfl ⟨m, as, sh, _, _, rfl, rfl, rfl, trivial, ?_⟩
        decreasing_trivial
        rw [tch_comm]
        refine ite_i (fun e => hR fun z => e ?_) fun e => hP ?_
        · rw [Bool.eq_iff_iff, hb]
          exact z.next hj hi
        · rw [← hb, ← Bool.eq_iff_iff]
          exact Classical.not_not.mp e
      have go3 : ∀ b : Bool, (tch as (nth ns (j : Nat)) (nth ns (i : Nat)) = true ↔ nextI ns.length j i) → N2 [some (.dat (qS m as sh)), some (.dat (.tuple (iD ns))), some (.dat (.int (ns.length : Nat))), some (.dat (.int (i : Nat))), some (.dat (.int (j : Nat))), some (.dat (.bool b)), none] [] := fun b ht2 => go2 _ _ ⟨some _, some _, rfl, rfl, fun a h1 => by
        by_cases e : a = j
        · subst e; exact ht2
        · exact hjt a (by omega)⟩
      unfold l__law_is_ring_1
      decreasing_trivial
      refine ite_i (fun e => ?_) fun e => ite_i (fun e3 => ?_) fun e3 => ?_
      · exact st _ true ⟨fun _ => .inl (by omega), fun _ => rfl⟩ (go3 true) fun z => ⟨trivial, no z⟩
      · exact st _ true ⟨fun _ => .inr (by omega), fun _ => rfl⟩ (go3 true) fun z => ⟨trivial, no z⟩
      · exact st _ false ⟨fun z => Bool.noConfusion z, fun z => by unfold nextI at z; omega⟩ (go3 false) fun z => ⟨trivial, no z⟩
    · rintro ρ η ⟨x4, x5, rfl, rfl, hjt⟩
      refine go _ _ ⟨some _, x4, x5, rfl, rfl, fun a b hb hab => ?_⟩
      by_cases e : b = i
      · subst e; exact hjt a hab
      · exact ht a b (by omega) hab
  · rintro ρ η ⟨x3, x4, x5, rfl, rfl, ht⟩
    decreasing_trivial
    exact fk kk (ringB_iff.mpr (RingP.of h4 hd hle0 (by omega) fun i j hij hj => ht i j hj hij))
/-! ## the law's cliques -/
theorem alone {l : List Int} {c : Int} (nd : l.Nodup) (hc : c ∈ l) (h : ∀ x ∈ l, x = c) : l = [c] := by
  match l, nd, hc, h with
  | [x], _, _, h => rw [h x List.mem_cons_self]
  | x :: y :: r, nd, _, h =>
    have h1 := h x List.mem_cons_self
    have h2 := h y (List.mem_cons_of_mem _ List.mem_cons_self)
    rw [List.nodup_cons] at nd
    exact absurd (by rw [h1, ← h2]; exact List.mem_cons_self) nd.1
theorem absent_one {ns a : List Int} {c : Int} (nd : ns.Nodup) (hc : c ∈ ns) : (ns.filter fun x => decide (x ∉ a)) = [c] ↔ c ∉ a ∧ ∀ x ∈ ns, x ≠ c → x ∈ a := by
  constructor
  · intro h
    have m : ∀ x, x ∈ (ns.filter fun x => decide (x ∉ a)) ↔ x = c := fun x => by rw [h, List.mem_singleton]
    simp only [List.mem_filter, decide_eq_true_eq] at m
    refine ⟨((m c).mpr rfl).2, fun x hx ne => Classical.byContradiction fun z => ne ((m x).mp ⟨hx, z⟩)⟩
  · rintro ⟨h1, h2⟩
    refine alone (nd.sublist List.filter_sublist) (List.mem_filter.mpr ⟨hc, decide_eq_true h1⟩) fun x hx => ?_
    obtain ⟨hx, hn⟩ := List.mem_filter.mp hx
    exact Classical.byContradiction fun z => of_decide_eq_true hn (h2 x hx z)
theorem absent_nil {ns a : List Int} : (ns.filter fun x => decide (x ∉ a)) = [] ↔ ∀ x ∈ ns, x ∈ a := by
  rw [List.filter_eq_nil_iff]
  simp only [decide_eq_true_eq, Classical.not_not]
def spLClq : PSpec := fun vs obs Q => ∃ (m : Nat) (as : List (List Int)) (sh ns : List Int), vs = [.dat (qS m as sh), .dat (.tuple (iD ns))] ∧ obs = [] ∧ ns.length < 64 ∧ Q (.dat (.bool (clqB m as ns))) []
theorem rd_lclq {vs : List Vl} {obs : List Ob} {Q : Vl → List Ob → Prop} (h : spLClq vs obs Q) : vs.length = 2 ∧ obs.length = 0 ∧ wFn [("_law_absent", spAbsent)] b__law_is_clique 5 0 vs obs Q := by
  obtain ⟨m, as, sh, ns, rfl, rfl, hl, kk⟩ := h
  have no : (¬ CliqP m as ns) → Q (.dat (.bool false)) [] := fun h => fk kk (Bool.eq_false_iff.mpr fun z => h (clqB_iff.mp z))
  refine ⟨rfl, rfl, wFn_of rfl ?_⟩
  unfold b__law_is_clique
  decreasing_trivial
  rw [len_iD]
  refine ite_i (fun h0 => no fun z => by have := z.three; omega) fun h0 => ?_
  refine sset_ints hl fun ms hms hmem => ?_
  decreasing_trivial
  refine ⟨.inl (dep_lI _), ?_⟩
  rw [eqv_lists]
  refine ite_i (fun h1 => no fun z => ?_) fun h1 => ?_
  · exact of_decide_eq_false h1 (up_same z.up hms fun x => (hmem x).symm)
  rw [Bool.not_eq_false] at h1
  have e := of_decide_eq_true h1
  rw [← e] at hms
  have nd : ns.Nodup := hms.imp fun q => by omega
  refine lc_map PyData.int (fun c => some (.bool (decide (0 ≤ c ∧ c < (m : Int))))) trivial ns (fun c hc K hK => ?_) ?_
  · unfold e__law_is_clique_1 qS
    decreasing_trivial
    exact chn_b (K := fun b => K (some (.bool b)) _) hK
  rw [fm_some, map_bool]
  refine ⟨_, rfl, ?_⟩
  rw [all_id]
  refine ite_i (fun h1 => no fun z => ?_) fun h2 => ?_
  · refine Bool.eq_false_iff.mp h1 (List.all_eq_true.mpr fun c hc => decide_eq_true (z.rg c hc))
  rw [Bool.not_eq_false] at h2
  have rg : ∀ c ∈ ns, 0 ≤ c ∧ c < (m : Int) := fun c hc => of_decide_eq_true (List.all_eq_true.mp h2 c hc)
  unfold qS
  decreasing_trivial
  refine lc_map (fun a => PyData.tuple (iD a)) (fun a => some (.list (iD (ns.filter fun x => decide (x ∉ a))))) trivial as (fun a ha K hK => ?_) ?_
  · unfold e__law_is_clique_2
    decreasing_trivial
    refine call_0 rfl rfl ⟨ns, a, rfl, rfl, rfl, trivial, ?_⟩
    decreasing_trivial
    exact hK
  rw [fm_some, show (as.map fun a => PyData.list (iD (ns.filter fun x => decide (x ∉ a)))) = lD (as.map fun a => ns.filter fun x => decide (x ∉ a)) by unfold lD; rw [List.map_map]; rfl]
  decreasing_trivial
  rw [show (PyData.list []) = PyData.list (iD []) from rfl, in_lists]
  refine ⟨.inr (dep_lI []), ?_⟩
  have e1 : ([] ∈ as.map fun a => ns.filter fun x => decide (x ∉ a)) ↔ wi as ns = true := by
    rw [List.mem_map, wi_iff]
    exact ⟨fun ⟨a, ha, q⟩ => ⟨a, ha, absent_nil.mp q⟩, fun ⟨a, ha, q⟩ => ⟨a, ha, absent_nil.mpr q⟩⟩
  refine ite_i (fun h3 => ?_) fun h3 => no fun z => ?_
  · have h3 := of_decide_eq_false h3
    have out : wi as ns = false := Bool.eq_false_iff.mpr fun z => h3 (e1.mpr z)
    refine lc_map PyData.int (fun c => some (.bool (decide ([c] ∈ as.map fun a => ns.filter fun x => decide (x ∉ a))))) trivial ns (fun c hc K hK => ?_) ?_
    · unfold e__law_is_clique_3
      decreasing_trivial
      rw [show PyData.list [PyData.int c] = PyData.list (iD [c]) from rfl, in_lists]
      exact ⟨.inr (dep_lI _), hK⟩
    rw [fm_some, map_bool]
    refine ⟨_, rfl, ?_⟩
    rw [all_id]
    refine b_ite (K := fun b => Q (.dat (.bool b)) []) (fk kk ?_)
    rw [Bool.eq_iff_iff, clqB_iff, List.all_eq_true]
    simp only [decide_eq_true_eq, List.mem_map]
    have one : ∀ c ∈ ns, (∃ a ∈ as, (ns.filter fun x => decide (x ∉ a)) = [c]) ↔ wi as (ns.filter fun x => decide (x ≠ c)) = true := fun c hc => by
      rw [wi_iff]
      refine ⟨fun ⟨a, ha, q⟩ => ⟨a, ha, fun x hx => ?_⟩, fun ⟨a, ha, q⟩ => ⟨a, ha, ?_⟩⟩
      · obtain ⟨hx, ne⟩ := List.mem_filter.mp hx
        exact ((absent_one nd hc).mp q).2 x hx (of_decide_eq_true ne)
      · have q2 : ∀ x ∈ ns, x ≠ c → x ∈ a := fun x hx ne => q x (List.mem_filter.mpr ⟨hx, decide_eq_true ne⟩)
        refine (absent_one nd hc).mpr ⟨fun z => ?_, q2⟩
        refine Bool.eq_false_iff.mp out (wi_iff.mpr ⟨a, ha, fun x hx => ?_⟩)
        by_cases e : x = c
        · rw [e]; exact z
        · exact q2 x hx e
    exact ⟨fun z c hc => (one c hc).mpr (z.near c hc), fun z => ⟨by omega, hms, rg, out, fun c hc => (one c hc).mp (z c hc)⟩⟩
  · have h3 := of_decide_eq_true (Bool.not_eq_false _ ▸ h3)
    exact Bool.eq_false_iff.mp z.out (e1.mp h3)
theorem rd_lpat {vs : List Vl} {obs : List Ob} {Q : Vl → List Ob → Prop} (h : spPat vs obs Q) : vs.length = 2 ∧ obs.length = 0 ∧ wFn [("_law_is_ring", spRg), ("_law_is_clique", spLClq)] b__law_is_pattern 2 0 vs obs Q := by
  obtain ⟨m, as, sh, ns, w, rfl, rfl, hl, hw, kk⟩ := h
  refine ⟨rfl, rfl, wFn_of rfl ?_⟩
  unfold b__law_is_pattern paD2
  unfold patB at kk
  rcases hw with rfl | rfl
  · decreasing_trivial
    rw [if_pos rfl] at kk
    refine call_0 rfl rfl ⟨m, as, sh, ns, rfl, rfl, hl, rfl, trivial, ?_⟩
    decreasing_trivial
    exact kk
  · decreasing_trivial
    rw [if_neg (by decide +kernel)] at kk
    rw [if_neg (by decide +kernel)]
    refine call_0 rfl rfl ⟨m, as, sh, ns, rfl, rfl, hl, rfl, trivial, ?_⟩
    decreasing_trivial
    exact kk
/-! ## all patterns -/
abbrev Pp := Str × List Int
def ppD (p : Pp) : D := paD2 p.1 p.2
theorem mask_for (p : Nat → Bool) : ∀ m : Nat, ∃ k : Nat, k < 2 ^ m ∧ ∀ j, j < m → k.testBit j = p j
  | 0 => ⟨0, by decide, fun j h => by omega⟩
  | m + 1 => by
    obtain ⟨k, hk, h⟩ := mask_for p m
    cases e : p m with
    | false =>
      refine ⟨k, by rw [Nat.pow_succ]; omega, fun j hj => ?_⟩
      by_cases q : j = m
      · rw [q, e]; exact Nat.testBit_lt_two_pow hk
      · exact h j (by omega)
    | true =>
      refine ⟨2 ^ m + k, by rw [Nat.pow_succ]; omega, fun j hj => ?_⟩
      by_cases q : j = m
      · rw [q, e, Nat.testBit_two_pow_add_eq, Nat.testBit_lt_two_pow hk]; rfl
      · rw [Nat.testBit_two_pow_add_gt (by omega)]; exact h j (by omega)
def colsAt (m k : Nat) : List Int := (rI m).filter fun c => k.testBit c.toNat
theorem rI_up (m : Nat) : (rI m).Pairwise (· < ·) := by
  unfold rI
  rw [List.pairwise_map]
  exact List.pairwise_lt_range.imp fun h => by omega
theorem colsAt_up (m k : Nat) : (colsAt m k).Pairwise (· < ·) := (rI_up m).sublist List.filter_sublist
theorem colsAt_len (m k : Nat) : (colsAt m k).length ≤ m := by
  have := List.length_filter_le (fun c : Int => k.testBit c.toNat) (rI m)
  rw [len_rI] at this
  exact this
theorem cliq_mask {m : Nat} {as : List (List Int)} {cs : List Int} (h : CliqP m as cs) : ∃ k, k < 2 ^ m ∧ colsAt m k = cs := by
  obtain ⟨k, hk, hb⟩ := mask_for (fun j => decide (((j : Nat) : Int) ∈ cs)) m
  refine ⟨k, hk, up_same (colsAt_up m k) h.up fun x => ?_⟩
  unfold colsAt
  rw [List.mem_filter]
  constructor
  · rintro ⟨h1, h2⟩
    obtain ⟨h0, h1⟩ := mem_rI.mp h1
    rw [hb x.toNat (by omega), decide_eq_true_eq, show ((x.toNat : Nat) : Int) = x by omega] at h2
    exact h2
  · intro hx
    have r := h.rg x hx
    refine ⟨mem_rI.mpr r, ?_⟩
    rw [hb x.toNat (by omega), decide_eq_true_eq, show ((x.toNat : Nat) : Int) = x by omega]
    exact hx
structure PsR (m : Nat) (as : List (List Int)) (ps : List Pp) : Prop where
  right : ∀ p ∈ ps, IsWord p.1 ∧ p.2.length ≤ 7 ∧ patB m as p.1 p.2 = true
def spPatterns : PSpec := fun vs obs Q => ∃ (m : Nat) (as : List (List Int)) (sh : List Int), vs = [.dat (qS m as sh)] ∧ obs = [] ∧ m ≤ 7 ∧ ∀ ps : List Pp, PsR m as ps → ps.length ≤ 20000000 → (PatIn m as → ps ≠ []) → Q (.fr (.lst (ps.map ppD))) []
theorem bit_of (k c : Nat) : decide (((k : Nat) : Int) / 2 ^ (Int.toNat (c : Nat)) % 2 = 1) = k.testBit c := by
  have e : ((k : Nat) : Int) / 2 ^ (Int.toNat (c : Nat)) = ((k / 2 ^ c : Nat) : Int) := by
    rw [Int.toNat_natCast]
    simp
  rw [e, Nat.testBit_eq_decide_div_mod_eq]
  exact decide_eq_decide.mpr (by omega)
theorem ring_pat {m : Nat} {as : List (List Int)} {ns : List Int} : patB m as ("ring" : Str) ns = ringB m as ns := if_pos rfl
theorem clq_pat {m : Nat} {as : List (List Int)} {ns : List Int} : patB m as ("clique" : Str) ns = clqB m as ns := if_neg (by decide +kernel)
theorem k_iteb {α : Type} {p : Prop} [Decidable p] {K : α → Prop} {a b : α} (h : K (if decide p = true then a else b)) : if p then K a else K b := by
  by_cases e : p
  · rw [if_pos e]; rw [if_pos (decide_eq_true e)] at h; exact h
  · rw [if_neg e]; rw [if_neg (by simpa using e)] at h; exact h
theorem rd_patterns {vs : List Vl} {obs : List Ob} {Q : Vl → List Ob → Prop} (h : spPatterns vs obs Q) : vs.length = 1 ∧ obs.length = 0 ∧ wFn [("_law_rings", spRings), ("_law_is_clique", spLClq)] b__law_patterns 5 1 vs obs Q := by
  obtain ⟨m, as, sh, rfl, rfl, hm, kk⟩ := h
  refine ⟨rfl, rfl, wFn_of rfl ?_⟩
  have bl := (bfs_len (as := as) hm m).2
  have p7 : 7 ^ (m + 1) ≤ 7 ^ 8 := Nat.pow_le_pow_right (by omega) (by omega)
  have p2 : 2 ^ m ≤ 2 ^ 7 := Nat.pow_le_pow_right (by omega) hm
  have sound := (bfs_sound (m := m) (as := as) m).2
  unfold b__law_patterns qS
  decreasing_trivial
  refine call_0 rfl rfl ⟨m, as, sh, rfl, rfl, hm, rfl, trivial, ?_⟩
  decreasing_trivial
  refine lc_map (fun a => PyData.tuple (iD a)) (fun a => some (ppD (("ring" : Str), a))) trivial _ (fun a ha K hK => ?_) ?_
  · unfold e__law_patterns_1
    decreasing_trivial
    exact hK
  rw [fm_some]
  decreasing_trivial
  refine ⟨sh_small (j := m) (by omega), ?_⟩
  rw [n_shl]
  generalize hM : 2 ^ m = M at p2 ⊢
  refine ⟨by unfold sizeLine; omega, by omega, ?_⟩
  rw [Int.toNat_natCast]
  refine for_rng0 (fun j ρ η => ∃ (ps : List Pp) (x2 x3 : Option D), ρ = [some (.dat (qS m as sh)), some (.ptr 0), sd x2, sd x3, none] ∧ η = [some (.lst (ps.map ppD))] ∧ PsR m as ps ∧ ps.length ≤ 2 * 7 ^ 8 + j ∧ (bfsF m as m ≠ [] → ps ≠ []) ∧ ∀ k, k < j → clqB m as (colsAt m k) = true → ps ≠ []) _ ?_ ?_ ⟨(bfsF m as m).map fun a => (("ring" : Str), a), none, none, rfl, by rw [List.map_map]; rfl, ⟨fun p hp => ?_⟩, by rw [List.length_map]; omega, fun h z => h (List.map_eq_nil_iff.mp z), fun k hk => by omega⟩
  · rintro j ρ η N hj ⟨ps, x2, x3, rfl, rfl, hR, hl, h0, h1⟩ go
    unfold l__law_patterns_1 qS
    decreasing_trivial
    refine ⟨by unfold sizeLine; omega, by omega, ?_⟩
    rw [Int.toNat_natCast, rI_map]
    refine lc_map PyData.int (fun c => if j.testBit c.toNat = true then some (.int c) else none) trivial (rI m) (fun c hc K hK => ?_) ?_
    · obtain ⟨c0, c1⟩ := mem_rI.mp hc
      obtain ⟨i, rfl⟩ := nat_of c0
      unfold c__law_patterns_1 e__law_patterns_2
      decreasing_trivial
      refine ⟨nat_nn i, ?_⟩
      rw [Int.toNat_natCast] at hK
      rw [← bit_of] at hK
      exact k_iteb (K := fun o => K o _) hK
    rw [fm_ints (fun c => j.testBit c.toNat)]
    have el : (rI m).filter (fun c => j.testBit c.toNat) = colsAt m j := rfl
    rw [el]
    have cl := colsAt_len m j
    decreasing_trivial
    refine call_0 rfl rfl ⟨m, as, sh, _, rfl, rfl, by omega, rfl, trivial, ?_⟩
    decreasing_trivial
    refine ite_i (fun h2 => ?_) fun h2 => ?_
    · rw [List.length_map]
      refine ⟨by unfold sizeLine; omega, ?_⟩
      refine go _ _ ⟨ps ++ [(("clique" : Str), colsAt m j)], some _, some _, rfl, by rw [List.map_append]; rfl, ⟨fun p hp => ?_⟩, by rw [List.length_append, List.length_singleton]; omega, fun _ => by simp, fun _ _ _ => by simp⟩
      rcases List.mem_append.mp hp with hp | hp
      · exact hR.right p hp
      · rw [List.mem_singleton.mp hp]
        exact ⟨.inr rfl, by show (colsAt m j).length ≤ 7; omega, by rw [clq_pat]; exact h2⟩
    · refine go _ _ ⟨ps, some _, some _, rfl, rfl, hR, by omega, h0, fun k hk hq => ?_⟩
      by_cases e : k = j
      · subst e; exact absurd hq h2
      · exact h1 k (by omega) hq
  · rintro ρ η ⟨ps, x2, x3, rfl, rfl, hR, hl, h0, h1⟩
    decreasing_trivial
    refine kk ps hR (by omega) fun hp => ?_
    rcases hp with ⟨k, f, hf⟩ | ⟨cs, hc⟩
    · obtain ⟨r, hr⟩ := hf.told
      exact h0 (List.ne_nil_of_mem (bfs_finds hr))
    · obtain ⟨k, hk, e⟩ := cliq_mask hc.told
      rw [hM] at hk
      exact h1 k hk (by rw [e]; exact clqB_iff.mpr hc.told)
  · obtain ⟨a, ha, rfl⟩ := List.mem_map.mp hp
    have hr := sound a ha
    refine ⟨.inl rfl, by have := ring_few hr; show a.length ≤ 7; omega, ?_⟩
    rw [ring_pat]
    exact ringB_iff.mpr hr
/-! ## papers -/
def spBack : PSpec := fun vs obs Q => ∃ ns : List Int, vs = [.dat (.list (iD ns))] ∧ obs = [] ∧ ns.length ≤ 1000 ∧ ∀ ms : List Int, ms.length = ns.length → Q (.fr (.lst (iD ms))) []
theorem rd_back {vs : List Vl} {obs : List Ob} {Q : Vl → List Ob → Prop} (h : spBack vs obs Q) : vs.length = 1 ∧ obs.length = 0 ∧ wFn [] b__law_back 2 0 vs obs Q := by
  obtain ⟨ns, rfl, rfl, hl, kk⟩ := h
  refine ⟨rfl, rfl, wFn_of rfl ?_⟩
  unfold b__law_back
  decreasing_trivial
  rw [len_iD]
  refine ⟨by unfold sizeLine; omega, by omega, ?_⟩
  rw [Int.toNat_natCast, rI_map]
  refine lc_map PyData.int (fun c => some (.int (nth ns ((ns.length : Nat) - 1 - c)))) trivial (rI ns.length) (fun c hc K hK => ?_) ?_
  · have r := mem_rI.mp hc
    unfold e__law_back_1
    decreasing_trivial
    rw [len_iD]
    exact ⟨_, at_nth (by omega) (by omega), hK⟩
  rw [fm_some]
  decreasing_trivial
  rw [show ((rI ns.length).map fun c => PyData.int (nth ns ((ns.length : Nat) - 1 - c))) = iD ((rI ns.length).map fun c => nth ns ((ns.length : Nat) - 1 - c)) by unfold iD; rw [List.map_map]; rfl]
  exact kk _ (by rw [List.length_map, len_rI])
theorem first_ints {ns : List Int} {c : Int} {Q : Nat → Prop} (h : c ∈ ns) (k : ∀ j, j < ns.length → Q j) : firstAt (iD ns) (.int c) Q := by
  refine ⟨.inr (by rw [dep_int]; omega), ?_⟩
  have : ∀ l : List Int, c ∈ l → ∃ (j : Nat) (z : D), (iD l)[j]? = some z ∧ PyData.eqv z (.int c) = true ∧ (∀ (m : Nat) (y : D), m < j → (iD l)[m]? = some y → PyData.eqv y (.int c) = false) ∧ j < l.length := by
    intro l
    induction l with
    | nil => intro h; cases h
    | cons x l ih =>
      intro h
      by_cases e : x = c
      · exact ⟨0, .int x, rfl, by rw [eqv_int]; exact decide_eq_true e, fun m y hm => by omega, by simp⟩
      · rcases List.mem_cons.mp h with h | h
        · exact absurd h.symm e
        obtain ⟨j, z, h1, h2, h3, h4⟩ := ih h
        refine ⟨j + 1, z, h1, h2, fun m y hm hy => ?_, by rw [List.length_cons]; omega⟩
        cases m with
        | zero =>
          cases hy
          rw [eqv_int]
          exact decide_eq_false e
        | succ m => exact h3 m y (by omega) hy
  obtain ⟨j, z, h1, h2, h3, h4⟩ := this ns h
  exact ⟨j, z, h1, h2, h3, k j h4⟩
def spToldForm : PSpec := fun vs obs Q => ∃ ns : List Int, vs = [.dat (.list (iD ns))] ∧ obs = [] ∧ 0 < ns.length ∧ ns.length ≤ 60 ∧ ∀ ms : List Int, ms.length < 64 → Q (.dat (paD2 ("ring" : Str) ms)) []
theorem rd_toldform {vs : List Vl} {obs : List Ob} {Q : Vl → List Ob → Prop} (h : spToldForm vs obs Q) : vs.length = 1 ∧ obs.length = 0 ∧ wFn [("_law_back", spBack)] b__law_told_form 3 0 vs obs Q := by
  obtain ⟨ns, rfl, rfl, h0, hl, kk⟩ := h
  refine ⟨rfl, rfl, wFn_of rfl ?_⟩
  unfold b__law_told_form
  unfold paD2 at kk
  decreasing_trivial
  refine intsOf_ints ⟨h0, fun mn hmn hle => ?_⟩
  decreasing_trivial
  refine first_ints hmn fun j hj => ?_
  decreasing_trivial
  rw [cut_drop, cut_take, ← List.map_drop, ← List.map_take, ← List.map_append]
  have el : (ns.drop j ++ ns.take j).length = ns.length := by rw [List.length_append, List.length_drop, List.length_take]; omega
  revert el
  generalize ns.drop j ++ ns.take j = fs
  intro el
  refine ⟨by rw [List.length_map, List.length_map, List.length_drop, List.length_take]; unfold sizeLine; omega, ?_⟩
  rw [len_iD]
  refine ite_i (fun h2 => ?_) fun h2 => ?_
  · refine ⟨_, at_nth (c := 1) (by omega) (by omega), ?_⟩
    decreasing_trivial
    refine ⟨_, at_last (by omega), ?_⟩
    decreasing_trivial
    refine ite_i (fun h3 => ?_) fun h3 => ?_
    · decreasing_trivial
      rw [show (1 : Int) = ((1 : Nat) : Int) from rfl, cut_drop, cut_take, ← List.map_drop, ← List.map_take]
      refine call_0 rfl rfl ⟨fs.drop 1, rfl, rfl, by rw [List.length_drop]; omega, fun ms hms => ⟨rfl, trivial, ?_⟩⟩
      decreasing_trivial
      rw [← List.map_append]
      have e2 : (fs.take 1 ++ ms).length = fs.length := by rw [List.length_append, hms, List.length_drop, List.length_take]; omega
      rw [len_iD, len_iD]
      refine ⟨by rw [← List.length_append, e2]; unfold sizeLine; omega, kk _ (by rw [e2]; omega)⟩
    · decreasing_trivial
      exact kk fs (by omega)
  · decreasing_trivial
    exact kk fs (by omega)
def spTouchWay : PSpec := fun vs obs Q => ∃ (m : Nat) (as : List (List Int)) (sh : List Int) (o : Ob), vs = [.ptr 0, .dat (qS m as sh)] ∧ obs = [o] ∧ Std o ∧ 1 ≤ m ∧ m ≤ 7 ∧ ∀ (ns : List Int) (o' : Ob), 0 < ns.length → ns.length ≤ 10 → Std o' → Q (.fr (.lst (iD ns))) [o']
theorem rd_touchway {vs : List Vl} {obs : List Ob} {Q : Vl → List Ob → Prop} (h : spTouchWay vs obs Q) : vs.length = 2 ∧ obs.length = 1 ∧ wFn [("_law_draw", spDraw), ("_law_touch", spTch), ("_law_pick", spPick)] b__law_touching_way 6 1 vs obs Q := by
  obtain ⟨m, as, sh, o, rfl, rfl, hs, m0, m1, kk⟩ := h
  refine ⟨rfl, rfl, wFn_of rfl ?_⟩
  unfold b__law_touching_way qS
  decreasing_trivial
  refine draw_w rfl hs (by omega) (by omega) fun r o1 r0 r1 hs1 => ?_
  decreasing_trivial
  refine draw_w rfl hs1 (by omega) (by omega) fun q o2 q0 q1 hs2 => ?_
  decreasing_trivial
  obtain ⟨n, hn⟩ := nat_of (z := 2 + q) (by omega)
  rw [hn]
  refine ⟨by unfold sizeLine; omega, by omega, ?_⟩
  rw [Int.toNat_natCast]
  refine for_rng0 (fun j ρ η => ∃ (o : Ob) (ns : List Int) (x3 x4 : Option D), ρ = [some (.ptr 0), some (.dat (qS m as sh)), some (.ptr 1), sd x3, sd x4, none] ∧ η = [some o, some (.lst (iD ns))] ∧ Std o ∧ 0 < ns.length ∧ ns.length ≤ 1 + j) _ ?_ ?_ ⟨o2, [r], none, none, rfl, rfl, hs2, by simp, by simp⟩
  · rintro j ρ η N hj ⟨o, ns, x3, x4, rfl, rfl, ho, l0, l1⟩ go
    unfold l__law_touching_way_1 qS
    decreasing_trivial
    refine ⟨by unfold sizeLine; omega, by omega, ?_⟩
    rw [Int.toNat_natCast, rI_map]
    refine lc_map PyData.int (fun c => if (decide (c ∉ ns) && tch as (nth ns ((ns.length - 1 : Nat) : Nat)) c) = true then some (.int c) else none) trivial (rI m) (fun c hc K hK => ?_) ?_
    · unfold c__law_touching_way_1 e__law_touching_way_1
      decreasing_trivial
      rw [eqv_mem]
      refine ite_i (fun e => ?_) fun e => ?_
      rotate_left
      · rw [Bool.not_eq_false] at e
        rw [decide_eq_false (by simpa using e), Bool.false_and] at hK
        exact hK
      · have e := of_decide_eq_false e
        rw [decide_eq_true (by simpa using e), Bool.true_and] at hK
        refine ⟨_, at_last l0, ?_⟩
        decreasing_trivial
        refine call_0 rfl rfl ⟨m, as, sh, _, _, rfl, rfl, rfl, trivial, ?_⟩
        decreasing_trivial
        exact lc_ite hK
    rw [fm_ints (fun c => decide (c ∉ ns) && tch as (nth ns ((ns.length - 1 : Nat) : Nat)) c)]
    generalize hab : (rI m).filter (fun c => decide (c ∉ ns) && tch as (nth ns ((ns.length - 1 : Nat) : Nat)) c) = ab
    have la : ab.length ≤ m := by
      rw [← hab]
      have := List.length_filter_le (fun c => decide (c ∉ ns) && tch as (nth ns ((ns.length - 1 : Nat) : Nat)) c) (rI m)
      rw [len_rI] at this
      exact this
    decreasing_trivial
    rw [len_iD]
    refine ite_i (fun h0 => ?_) fun h0 => go _ _ ⟨o, ns, some _, some _, rfl, rfl, ho, l0, by omega⟩
    refine call_r rfl rfl rfl ⟨iD ab, o, ho, by rw [len_iD]; omega, by rw [len_iD]; omega, .inl ⟨rfl, rfl, fun d o3 hd ho3 => ⟨rfl, trivial, ?_⟩⟩⟩
    obtain ⟨c, hc, rfl⟩ := List.mem_map.mp hd
    decreasing_trivial
    rw [len_iD, iD_add]
    exact ⟨by unfold sizeLine; omega, go _ _ ⟨o3, ns ++ [c], some _, some _, rfl, rfl, ho3, by simp, by rw [List.length_append, List.length_singleton]; omega⟩⟩
  · rintro ρ η ⟨o, ns, x3, x4, rfl, rfl, ho, l0, l1⟩
    decreasing_trivial
    exact kk ns o l0 (by omega) ho
def spSpoilt : PSpec := fun vs obs Q => ∃ (m : Nat) (as : List (List Int)) (sh : List Int) (w : Str) (ns : List Int) (o : Ob), vs = [.ptr 0, .dat (qS m as sh), .dat (paD2 w ns)] ∧ obs = [o] ∧ Std o ∧ m ≤ 100 ∧ IsWord w ∧ ns.length ≤ 60 ∧ ∀ (w' : Str) (ms : List Int) (o' : Ob), IsWord w' → ms.length ≤ ns.length + 1 → Std o' → Q (.dat (paD2 w' ms)) [o']
abbrev Γs : Env := [("_law_draw", spDraw), ("_law_pick", spPick), ("_law_back", spBack)]
abbrev spSt (m : Nat) (as : List (List Int)) (sh : List Int) (w : Str) (ns : List Int) (t : Nat) (c y : Int) (x9 : Option D) : Sl := [some (.ptr 0), some (.dat (qS m as sh)), some (.dat (paD2 w ns)), some (.dat (.str w)), some (.ptr 1), some (.dat (.int (ns.length : Nat))), some (.dat (.int (t : Nat))), some (.dat (.int c)), some (.dat (.int y)), sd x9]
def SpGo (m : Nat) (as : List (List Int)) (sh : List Int) (w : Str) (ns : List Int) (s : Ss) : Prop := ns.length ≤ 60 → ∀ (P : LEnds) (o : Ob) (t : Nat) (c y : Int), t ≤ ns.length → Std o → (∀ (ms : List Int) (o' : Ob) (x9 : Option D), ms.length ≤ ns.length + 1 → Std o' → P.nx (spSt m as sh w ns t c y x9) [some o', some (.lst (iD ms))]) → wSs Γs s P (spSt m as sh w ns t c y none) [some o, some (.lst (iD ns))]
theorem szS {k : Nat} (h : k ≤ 200) : k ≤ sizeLine := by unfold sizeLine; omega
section
variable {m : Nat} {as : List (List Int)} {sh ns : List Int} {w : Str}
theorem sp_1 : SpGo m as sh w ns r__law_spoilt_1 := by
  intro hl P o t c y t1 ho hP
  unfold r__law_spoilt_1
  decreasing_trivial
  refine ite_i (fun _ => ?_) fun _ => hP ns o none (by omega) ho
  rw [show (1 : Int) = ((1 : Nat) : Int) from rfl, cut_take, ← List.map_take, ← List.map_append, len_iD, len_iD]
  have e : (ns.take 1).length ≤ 1 := by rw [List.length_take]; omega
  exact ⟨szS (by omega), hP _ o none (by rw [List.length_append]; omega) ho⟩
theorem sp_2 : SpGo m as sh w ns r__law_spoilt_2 := by
  intro hl P o t c y t1 ho hP
  have nx := sp_1 hl P o t c y t1 ho hP
  unfold r__law_spoilt_2
  decreasing_trivial
  refine ite_i (fun _ => ?_) fun _ => nx
  refine ite_i (fun h => ?_) fun _ => nx
  have h : ((t : Nat) : Int) < ((ns.length : Nat) : Int) := by omega
  refine ⟨_, at_nth (nat_nn t) h, ?_⟩
  unfold qS
  decreasing_trivial
  refine ⟨_, at_nth (nat_nn t) h, ?_⟩
  decreasing_trivial
  rw [show [PyData.int (nth ns (t : Nat) - (m : Nat)), PyData.int (nth ns (t : Nat) + (m : Nat)), PyData.int 1000000, PyData.int (-1000000)] = iD [nth ns (t : Nat) - (m : Nat), nth ns (t : Nat) + (m : Nat), 1000000, -1000000] from rfl]
  refine call_r rfl rfl rfl ⟨_, o, ho, by simp, by simp, .inl ⟨rfl, rfl, fun d o3 hd ho3 => ⟨rfl, trivial, ?_⟩⟩⟩
  obtain ⟨z, hz, rfl⟩ := List.mem_map.mp hd
  decreasing_trivial
  refine ⟨_, ix_of2 (nat_nn t) (by rw [len_iD]; exact h), ?_⟩
  rw [show (iD ns).set (((t : Nat) : Int)).toNat (.int z) = iD (ns.set t z) from (List.map_set ..).symm]
  exact hP _ o3 none (by rw [List.length_set]; omega) ho3
theorem sp_3 : SpGo m as sh w ns r__law_spoilt_3 := by
  intro hl P o t c y t1 ho hP
  have nx := sp_2 hl P o t c y t1 ho hP
  unfold r__law_spoilt_3
  decreasing_trivial
  refine ite_i (fun _ => ?_) fun _ => nx
  refine ite_i (fun h => ?_) fun _ => nx
  have h : ((t : Nat) : Int) < ((ns.length : Nat) : Int) := by omega
  refine draw_w rfl ho (by omega) (by omega) fun r o3 r0 r1 ho3 => ?_
  rw [show spSt m as sh w ns t c y none = [some (.ptr 0), some (.dat (qS m as sh)), some (.dat (.tuple [.str w, .tuple (iD ns)])), some (.dat (.str w)), some (.ptr 1), some (.dat (.int (ns.length : Nat))), some (.dat (.int (t : Nat))), some (.dat (.int c)), some (.dat (.int y)), none] from rfl]
  decreasing_trivial
  refine ⟨_, at_nth r0 r1, ?_⟩
  decreasing_trivial
  refine ⟨_, ix_of2 (nat_nn t) (by rw [len_iD]; exact h), ?_⟩
  decreasing_trivial
  refine ⟨_, at_nth (nat_nn t) h, ?_⟩
  decreasing_trivial
  refine ⟨_, ix_of2 r0 (by rw [List.length_set, len_iD]; exact r1), ?_⟩
  rw [show ((iD ns).set (((t : Nat) : Int)).toNat (.int (nth ns r))).set r.toNat (.int (nth ns (t : Nat))) = iD ((ns.set t (nth ns r)).set r.toNat (nth ns (t : Nat))) by unfold iD; rw [List.map_set, List.map_set]; rfl]
  exact hP _ o3 (some _) (by rw [List.length_set, List.length_set]; omega) ho3
theorem sp_4 : SpGo m as sh w ns r__law_spoilt_4 := by
  intro hl P o t c y t1 ho hP
  have nx := sp_3 hl P o t c y t1 ho hP
  unfold r__law_spoilt_4
  decreasing_trivial
  refine ite_i (fun _ => ?_) fun _ => nx
  refine ite_i (fun h => ?_) fun _ => nx
  have h : ((t : Nat) : Int) < ((ns.length : Nat) : Int) := by omega
  refine ⟨_, ix_of2 (nat_nn t) (by rw [len_iD]; exact h), ?_⟩
  rw [show (iD ns).set (((t : Nat) : Int)).toNat (.int c) = iD (ns.set t c) from (List.map_set ..).symm]
  exact hP _ o none (by rw [List.length_set]; omega) ho
theorem sp_9 : SpGo m as sh w ns r__law_spoilt_9 := by
  intro hl P o t c y t1 ho hP
  have nx := sp_4 hl P o t c y t1 ho hP
  have ct : (ns.take t).length = t := by rw [List.length_take]; omega
  have cd : (ns.drop t).length = ns.length - t := List.length_drop ..
  unfold r__law_spoilt_9
  decreasing_trivial
  refine ite_i (fun _ => ?_) fun _ => ?_
  · refine call_0 rfl rfl ⟨ns, rfl, rfl, by omega, fun ms hms => ⟨rfl, trivial, ?_⟩⟩
    decreasing_trivial
    exact hP ms o none (by omega) ho
  unfold r__law_spoilt_8
  decreasing_trivial
  refine ite_i (fun _ => ?_) fun _ => ?_
  · rw [cut_drop, cut_take, ← List.map_drop, ← List.map_take, ← List.map_append, len_iD, len_iD]
    exact ⟨szS (by omega), hP _ o none (by rw [List.length_append]; omega) ho⟩
  unfold r__law_spoilt_7
  decreasing_trivial
  refine ite_i (fun _ => ?_) fun _ => ?_
  · rw [show (1 : Int) = ((1 : Nat) : Int) from rfl, cut_drop, cut_take, ← List.map_drop, ← List.map_take]
    refine call_0 rfl rfl ⟨ns.drop 1, rfl, rfl, by rw [List.length_drop]; omega, fun ms hms => ⟨rfl, trivial, ?_⟩⟩
    decreasing_trivial
    rw [← List.map_append, len_iD, len_iD]
    have e2 : (ns.take 1 ++ ms).length ≤ ns.length + 1 := by rw [List.length_append, hms, List.length_drop, List.length_take]; omega
    exact ⟨szS (by rw [← List.length_append]; omega), hP _ o none e2 ho⟩
  unfold r__law_spoilt_6
  decreasing_trivial
  refine ite_i (fun _ => ?_) fun _ => ?_
  · rw [show ((t : Nat) : Int) + 1 = ((t + 1 : Nat) : Int) by omega, cut_drop, cut_take, ← List.map_drop, ← List.map_take, ← List.map_append, len_iD, len_iD]
    have e2 : (ns.take t ++ ns.drop (t + 1)).length ≤ ns.length + 1 := by rw [List.length_append, List.length_drop]; omega
    exact ⟨szS (by rw [← List.length_append]; omega), hP _ o none e2 ho⟩
  unfold r__law_spoilt_5
  decreasing_trivial
  refine ite_i (fun _ => ?_) fun _ => nx
  rw [cut_drop, cut_take, ← List.map_drop, ← List.map_take, iD_add, ← List.map_append]
  have e1 : (ns.take t ++ [c]).length = t + 1 := by rw [List.length_append, List.length_singleton, ct]
  have e2 : (ns.take t ++ [c] ++ ns.drop t).length ≤ ns.length + 1 := by rw [List.length_append, e1]; omega
  exact ⟨szS (by rw [len_iD, ct]; omega), szS (by rw [len_iD, len_iD, e1]; omega), hP _ o none e2 ho⟩
end
theorem rd_spoilt {vs : List Vl} {obs : List Ob} {Q : Vl → List Ob → Prop} (h : spSpoilt vs obs Q) : vs.length = 3 ∧ obs.length = 1 ∧ wFn Γs b__law_spoilt 10 1 vs obs Q := by
  obtain ⟨m, as, sh, w, ns, o, rfl, rfl, hs, hm, hw, hl, kk⟩ := h
  refine ⟨rfl, rfl, wFn_of rfl ?_⟩
  unfold b__law_spoilt
  rw [show paD2 w ns = .tuple [.str w, .tuple (iD ns)] from rfl]
  decreasing_trivial
  rw [len_iD]
  refine draw_w rfl hs (by omega) (by omega) fun t o1 t0 t1 hs1 => ?_
  obtain ⟨t, rfl⟩ := nat_of t0
  unfold qS
  decreasing_trivial
  refine draw_w rfl hs1 (by omega) (by omega) fun c o2 c0 c1 hs2 => ?_
  decreasing_trivial
  refine draw_w rfl hs2 (by omega) (by omega) fun y o3 y0 y1 hs3 => ?_
  decreasing_trivial
  unfold r__law_spoilt_10
  decreasing_trivial
  refine ite_i (fun _ => ?_) fun _ => ?_
  · refine call_r rfl rfl rfl ⟨[PyData.str ("ring" : Str), PyData.str ("clique" : Str)], o3, hs3, by decide, by decide, .inl ⟨rfl, rfl, fun d o4 hd ho4 => ⟨rfl, trivial, ?_⟩⟩⟩
    obtain ⟨w', rfl, hw'⟩ : ∃ w' : Str, d = .str w' ∧ IsWord w' := by
      rcases List.mem_cons.mp hd with rfl | hd
      · exact ⟨_, rfl, .inl rfl⟩
      · rw [List.mem_singleton.mp hd]
        exact ⟨_, rfl, .inr rfl⟩
    decreasing_trivial
    exact kk w' ns o4 hw' (by omega) ho4
  · refine sp_9 (m := m) (as := as) (sh := sh) (w := w) (ns := ns) hl _ o3 t (c - 1) y (by omega) hs3 fun ms o' x9 hms ho' => ?_
    decreasing_trivial
    exact kk w ms o' hw hms ho'
/-! ## a query's papers -/
def Two (m : Nat) (as : List (List Int)) (ps : List Pp) : Prop := ∃ p q r, ps = p :: q :: r ∧ (PatIn m as → patB m as p.1 p.2 = true ∧ patB m as q.1 q.2 = true)
theorem Two.add {m : Nat} {as : List (List Int)} {ps : List Pp} (h : Two m as ps) (x : Pp) : Two m as (ps ++ [x]) := by
  obtain ⟨p, q, r, rfl, k⟩ := h
  exact ⟨p, q, r ++ [x], rfl, k⟩
structure Paps2 (m : Nat) (as : List (List Int)) (ps : List Pp) : Prop where
  ok : ∀ p ∈ ps, IsWord p.1 ∧ p.2.length < 64
  few : ps.length ≤ 60
  two : Two m as ps
def spPapers : PSpec := fun vs obs Q => ∃ (m : Nat) (as : List (List Int)) (sh : List Int) (o : Ob), vs = [.ptr 0, .dat (qS m as sh)] ∧ obs = [o] ∧ Std o ∧ Wov m as ∧ ∀ (ps : List Pp) (o' : Ob), Paps2 m as ps → Std o' → Q (.fr (.lst (ps.map ppD))) [o']
abbrev Γp : Env := [("_law_patterns", spPatterns), ("_law_shuffled", spShuf), ("_law_draw", spDraw), ("_law_pick", spPick), ("_law_spoilt", spSpoilt), ("_law_touching_way", spTouchWay), ("_law_told_form", spToldForm)]
theorem len_ppD (ps : List Pp) : (ps.map ppD).length = ps.length := List.length_map ..
theorem pp_add (ps : List Pp) (w : Str) (ns : List Int) : ps.map ppD ++ [.tuple [.str w, .tuple (iD ns)]] = (ps ++ [(w, ns)]).map ppD := by rw [List.map_append]; rfl
theorem rd_papers {vs : List Vl} {obs : List Ob} {Q : Vl → List Ob → Prop} (h : spPapers vs obs Q) : vs.length = 2 ∧ obs.length = 1 ∧ wFn Γp b__law_papers 10 1 vs obs Q := by
  obtain ⟨m, as, sh, o, rfl, rfl, hs, hW, kk⟩ := h
  have m0 := hW.pos
  have m1 := hW.few
  have l0 := hW.one
  have l1 := hW.fewa
  refine ⟨rfl, rfl, wFn_of rfl ?_⟩
  have st2 : ∀ (P : LEnds) (o : Ob) (kn cs : D) (dr : D) (bs : List Pp), Std o → bs.length ≤ 4 → (∀ p ∈ bs, IsWord p.1 ∧ p.2.length ≤ 60) → Two m as bs → (∀ (ps : List Pp) (o' : Ob), Paps2 m as ps → Std o' → P.rt (.fr (.lst (ps.map ppD))) [some o', none]) →
      wSs Γp r__law_papers_2 P [some (.ptr 0), some (.dat (qS m as sh)), some (.dat kn), some (.dat cs), some (.dat dr), some (.dat (.list (bs.map ppD))), none, none, none, none] [some o, none] := by
    intro P o kn cs dr bs ho hb hok htwo hP
    unfold r__law_papers_2
    decreasing_trivial
    rw [show (2 : Int) = ((2 : Nat) : Int) from rfl, cut_take, ← List.map_take]
    refine for_map ppD (fun l ρ η => ∃ (o : Ob) (ps : List Pp) (x7 x9 : Option D), ρ = [some (.ptr 0), some (.dat (qS m as sh)), some (.dat kn), some (.dat cs), some (.dat dr), some (.dat (.list (bs.map ppD))), some (.ptr 1), sd x7, none, sd x9] ∧ η = [some o, some (.lst (ps.map ppD))] ∧ Std o ∧ (∀ p ∈ l, IsWord p.1 ∧ p.2.length ≤ 60) ∧ l.length ≤ 2 ∧ ps.length + 4 * l.length ≤ 12 ∧ (∀ p ∈ ps, IsWord p.1 ∧ p.2.length < 64) ∧ Two m as ps) ?_ ?_ (bs.take 2) ⟨o, bs, none, none, rfl, rfl, ho, fun p hp => hok p (List.mem_of_mem_take hp), by rw [List.length_take]; omega, by rw [List.length_take]; omega, fun p hp => ⟨(hok p hp).1, by have := (hok p hp).2; omega⟩, htwo⟩
    · rintro b r ρ η N ⟨o, ps, x7, x9, rfl, rfl, ho, hr, hrl, hps, hpok, htw⟩ go
      obtain ⟨hbw, hbl⟩ := hr b List.mem_cons_self
      rw [List.length_cons] at hrl hps
      unfold l__law_papers_2
      decreasing_trivial
      refine ⟨by unfold sizeLine; omega, ?_⟩
      refine for_rng0 (fun j ρ η => ∃ (o : Ob) (qs : List Pp) (x9 : Option D), ρ = [some (.ptr 0), some (.dat (qS m as sh)), some (.dat kn), some (.dat cs), some (.dat dr), some (.dat (.list (bs.map ppD))), some (.ptr 1), some (.dat (ppD b)), none, sd x9] ∧ η = [some o, some (.lst (qs.map ppD))] ∧ Std o ∧ qs.length = ps.length + j ∧ (∀ p ∈ qs, IsWord p.1 ∧ p.2.length < 64) ∧ Two m as qs) 4 ?_ ?_ ⟨o, ps, x9, rfl, rfl, ho, rfl, hpok, htw⟩
      · rintro j ρ η N2 hj ⟨o, qs, x9, rfl, rfl, ho, hql, hqok, htq⟩ go2
        unfold l__law_papers_1
        decreasing_trivial
        refine call_r rfl rfl rfl ⟨m, as, sh, b.1, b.2, o, rfl, rfl, ho, by omega, hbw, hbl, fun w' ms o3 hw' hms ho3 => ⟨rfl, trivial, ?_⟩⟩
        unfold paD2
        decreasing_trivial
        rw [len_ppD, pp_add]
        refine ⟨by unfold sizeLine; omega, go2 _ _ ⟨o3, _, some _, rfl, rfl, ho3, by rw [List.length_append, List.length_singleton]; omega, fun x hx => ?_, htq.add _⟩⟩
        rcases List.mem_append.mp hx with hx | hx
        · exact hqok x hx
        · rw [List.mem_singleton.mp hx]
          exact ⟨hw', by show ms.length < 64; omega⟩
      · rintro ρ η ⟨o, qs, x9, rfl, rfl, ho, hql, hqok, htq⟩
        exact go _ _ ⟨o, qs, some _, x9, rfl, rfl, ho, fun p hp => hr p (List.mem_cons_of_mem _ hp), by omega, by omega, hqok, htq⟩
    · rintro ρ η ⟨o, ps, x7, x9, rfl, rfl, ho, _, _, hpl, hpok, htp⟩
      rw [List.length_nil] at hpl
      have pl : ps.length ≤ 12 := by omega
      have szp : ∀ l : List Pp, l.length ≤ 30 → (l.map ppD).length < sizeLine := fun l h => by rw [len_ppD]; unfold sizeLine; omega
      unfold r__law_papers_1
      decreasing_trivial
      refine call_r rfl rfl rfl ⟨m, as, sh, o, rfl, rfl, ho, m0, m1, fun wy o2 w0 w1 ho2 => ⟨rfl, trivial, ?_⟩⟩
      decreasing_trivial
      refine call_0 rfl rfl ⟨wy, rfl, rfl, w0, by omega, fun f1 hf1 => ⟨rfl, trivial, ?_⟩⟩
      unfold paD2
      decreasing_trivial
      refine ⟨szp _ (by omega), srt_ok _, ?_⟩
      rw [pp_add, sort_iD]
      have n1 : (ps ++ [(("ring" : Str), f1)]).length ≤ 13 := by rw [List.length_append, List.length_singleton]; omega
      refine ⟨szp _ (by omega), ?_⟩
      rw [pp_add]
      have n2 : (ps ++ [(("ring" : Str), f1)] ++ [(("clique" : Str), sI wy)]).length ≤ 14 := by rw [List.length_append, List.length_singleton]; omega
      unfold qS
      decreasing_trivial
      refine call_r rfl rfl rfl ⟨tD as, o2, ho2, by rw [len_tD]; omega, by rw [len_tD]; omega, .inr (.inl ⟨rfl, rfl, fun d o3 hd ho3 => ⟨rfl, trivial, ?_⟩⟩)⟩
      obtain ⟨a, ha, rfl⟩ := List.mem_map.mp hd
      decreasing_trivial
      refine call_r rfl rfl rfl ⟨tD as, o3, ho3, by rw [len_tD]; omega, by rw [len_tD]; omega, .inr (.inl ⟨rfl, rfl, fun d o4 hd2 ho4 => ⟨rfl, trivial, ?_⟩⟩)⟩
      obtain ⟨a2, ha2, rfl⟩ := List.mem_map.mp hd2
      have la := (hW.cols a ha).len
      have la2 := (hW.cols a2 ha2).len
      decreasing_trivial
      rw [show iD a ++ iD a2 = iD (a ++ a2) from (List.map_append ..).symm]
      refine ⟨by rw [len_iD, len_iD]; unfold sizeLine; omega, sset_ints (by rw [List.length_append]; omega) fun ms hms hmem => ?_⟩
      decreasing_trivial
      refine ⟨szp _ (by omega), ?_⟩
      rw [pp_add]
      have n3 : (ps ++ [(("ring" : Str), f1)] ++ [(("clique" : Str), sI wy)] ++ [(("clique" : Str), ms)]).length ≤ 15 := by rw [List.length_append, List.length_singleton]; omega
      refine call_r rfl rfl rfl ⟨m, as, sh, o4, rfl, rfl, ho4, m0, m1, fun wz o5 z0 z1 ho5 => ⟨rfl, trivial, ?_⟩⟩
      decreasing_trivial
      refine call_0 rfl rfl ⟨wz, rfl, rfl, z0, by omega, fun f2 hf2 => ⟨rfl, trivial, ?_⟩⟩
      unfold paD2
      decreasing_trivial
      refine ⟨szp _ (by omega), ?_⟩
      rw [pp_add]
      have lms : ms.length < 64 := by
        have cm : Cols m ms := ⟨hms.imp fun q => by omega, fun c hc => by
          rcases List.mem_append.mp ((hmem c).mp hc) with h | h
          · exact (hW.cols a ha).2 c h
          · exact (hW.cols a2 ha2).2 c h⟩
        have := cm.len
        omega
      refine hP _ o5 ⟨fun x hx => ?_, by rw [List.length_append, List.length_singleton]; omega, ((((htp.add _).add _).add _).add _)⟩ ho5
      rcases List.mem_append.mp hx with hx | hx
      · rcases List.mem_append.mp hx with hx | hx
        · rcases List.mem_append.mp hx with hx | hx
          · rcases List.mem_append.mp hx with hx | hx
            · exact hpok x hx
            · rw [List.mem_singleton.mp hx]
              exact ⟨.inl rfl, hf1⟩
          · rw [List.mem_singleton.mp hx]
            exact ⟨.inr rfl, by show (sI wy).length < 64; rw [len_sI]; omega⟩
        · rw [List.mem_singleton.mp hx]
          exact ⟨.inr rfl, lms⟩
      · rw [List.mem_singleton.mp hx]
        exact ⟨.inl rfl, hf2⟩
  unfold b__law_papers
  decreasing_trivial
  refine call_0 rfl rfl ⟨m, as, sh, rfl, rfl, m1, fun kn hkn hkl hkp => ⟨rfl, trivial, ?_⟩⟩
  unfold qS
  decreasing_trivial
  refine ⟨⟨by omega, by omega⟩, ?_⟩
  rw [Int.toNat_natCast, rng_rI]
  refine call_r rfl rfl rfl ⟨iD (rI m), o, .inl rfl, rfl, hs, by rw [len_iD, len_rI]; omega, fun es o1 pe hs1 => ⟨rfl, trivial, ?_⟩⟩
  obtain ⟨cs, rfl, pc⟩ := perm_map pe.symm (as := rI m) rfl
  have lc : cs.length = m := by rw [pc.length_eq, len_rI]
  decreasing_trivial
  refine draw_w rfl hs1 (by omega) (by omega) fun t o2 t0 t1 hs2 => ?_
  obtain ⟨t, rfl⟩ := nat_of t0
  decreasing_trivial
  rw [cut_take, ← List.map_take]
  have ld : (cs.take t).length ≤ 7 := by rw [List.length_take]; omega
  revert ld
  generalize cs.take t = dr
  intro ld
  refine call_r rfl rfl rfl ⟨[PyData.str ("ring" : Str), PyData.str ("clique" : Str)], o2, hs2, by decide, by decide, .inl ⟨rfl, rfl, fun d o4 hd ho4 => ⟨rfl, trivial, ?_⟩⟩⟩
  obtain ⟨w', rfl, hw'⟩ : ∃ w' : Str, d = .str w' ∧ IsWord w' := by
    rcases List.mem_cons.mp hd with rfl | hd
    · exact ⟨_, rfl, .inl rfl⟩
    · rw [List.mem_singleton.mp hd]
      exact ⟨_, rfl, .inr rfl⟩
  decreasing_trivial
  refine ⟨srt_ok _, ?_⟩
  rw [sort_iD]
  have e2 : [PyData.tuple [PyData.str w', PyData.tuple (iD dr)], PyData.tuple [PyData.str ("clique" : Str), PyData.tuple (iD (sI dr))]] = ([(w', dr), (("clique" : Str), sI dr)] : List Pp).map ppD := rfl
  rw [e2]
  have ok2 : ∀ p ∈ ([(w', dr), (("clique" : Str), sI dr)] : List Pp), IsWord p.1 ∧ p.2.length ≤ 60 := fun p hp => by
    rcases List.mem_cons.mp hp with rfl | hp
    · exact ⟨hw', by show dr.length ≤ 60; omega⟩
    · rw [List.mem_singleton.mp hp]
      exact ⟨.inr rfl, by show (sI dr).length ≤ 60; rw [len_sI]; omega⟩
  rw [len_ppD]
  refine ite_i (fun h0 => ?_) fun h0 => ?_
  · refine call_r rfl rfl rfl ⟨kn.map ppD, o4, ho4, by rw [len_ppD]; omega, by rw [len_ppD]; omega, .inl ⟨rfl, rfl, fun d o5 hd5 ho5 => ⟨rfl, trivial, ?_⟩⟩⟩
    obtain ⟨p, hp, rfl⟩ := List.mem_map.mp hd5
    decreasing_trivial
    refine call_r rfl rfl rfl ⟨kn.map ppD, o5, ho5, by rw [len_ppD]; omega, by rw [len_ppD]; omega, .inl ⟨rfl, rfl, fun d o6 hd6 ho6 => ⟨rfl, trivial, ?_⟩⟩⟩
    obtain ⟨q, hq, rfl⟩ := List.mem_map.mp hd6
    decreasing_trivial
    have rp := hkn.right p hp
    have rq := hkn.right q hq
    refine st2 _ o6 _ _ _ (p :: q :: [(w', dr), (("clique" : Str), sI dr)]) ho6 (by simp) (fun x hx => ?_) ⟨p, q, _, rfl, fun _ => ⟨rp.2.2, rq.2.2⟩⟩ fun ps o' hps ho' => ?_
    · rcases List.mem_cons.mp hx with rfl | hx
      · exact ⟨rp.1, by have := rp.2.1; omega⟩
      · rcases List.mem_cons.mp hx with rfl | hx
        · exact ⟨rq.1, by have := rq.2.1; omega⟩
        · exact ok2 x hx
    · decreasing_trivial
      exact kk ps o' hps ho'
  · refine st2 _ o4 _ _ _ [(w', dr), (("clique" : Str), sI dr)] ho4 (by simp) ok2 ⟨_, _, [], rfl, fun hp => ?_⟩ fun ps o' hps ho' => ?_
    · exact absurd (List.length_pos_iff.mpr (hkp hp)) (by omega)
    · decreasing_trivial
      exact kk ps o' hps ho'
/-! ## the law -/
abbrev Γl : Env := [("_law_world", spWorld), ("_law_woven", spWoven), ("_law_papers", spPapers), ("judge_pattern", spPat), ("_law_is_pattern", spPat)]
theorem pp_at {ps : List Pp} {j : Nat} (h : j < ps.length) : ∃ p ∈ ps, atI (ps.map ppD) ((j : Nat) : Int) = some (ppD p) := ⟨ps[j], List.getElem_mem h, map_at ppD (List.getElem?_eq_getElem h)⟩
theorem for_map2 {α : Type} (g : α → D) {tg : Tg} {body : LTS} {ok : Reg → Prop} {P : LEnds} (I : List α → Sl → Reg → Prop)
    (step : ∀ c r ρ η (N : Sl → Reg → Prop), I (c :: r) ρ η → (∀ ρ η, I r ρ η → N ρ η) → wTg tg (g c) ρ fun ρ' => body { P with nx := fun ρ η => ok η ∧ N ρ η, ct := fun ρ η => ok η ∧ N ρ η, bk := P.nx } ρ' η)
    (fin : ∀ ρ η, I [] ρ η → P.nx ρ η) : ∀ (l : List α) {ρ : Sl} {η : Reg}, I l ρ η → wFor tg body ok (l.map g) P ρ η
  | [], ρ, η, h => fin ρ η h
  | c :: r, ρ, η, h => step c r ρ η _ h fun ρ η h => for_map2 g I step fin r h
structure Qu where
  m : Nat
  as : List (List Int)
  sh : List Int
def quD (x : Qu × Pp) : D := .tuple [qS x.1.m x.1.as x.1.sh, ppD x.2]
theorem rd_law : lawW Γl b_law 9 0 := by
  intro cells hcl
  unfold b_law
  decreasing_trivial
  refine call_r rfl rfl rfl ⟨_, rfl, rfl, Std.first cells, fun m1 as1 sh1 o1 hW1 _ ho1 => ⟨rfl, trivial, ?_⟩⟩
  decreasing_trivial
  refine call_r rfl rfl rfl ⟨o1, rfl, rfl, ho1, fun m2 as2 sh2 o2 hW2 _ hP2 ho2 => ⟨rfl, trivial, ?_⟩⟩
  decreasing_trivial
  refine call_r rfl rfl rfl ⟨m1, as1, sh1, o2, rfl, rfl, ho2, hW1, fun fs o3 hf ho3 => ⟨rfl, trivial, ?_⟩⟩
  decreasing_trivial
  refine call_r rfl rfl rfl ⟨m2, as2, sh2, o3, rfl, rfl, ho3, hW2, fun ss o4 hss ho4 => ⟨rfl, trivial, ?_⟩⟩
  decreasing_trivial
  have lf := hf.few
  have ls := hss.few
  unfold r_law_2
  decreasing_trivial
  rw [len_ppD]
  refine ⟨by unfold sizeLine; omega, by omega, ?_⟩
  rw [Int.toNat_natCast]
  refine for_rng0 (fun j ρ η => ∃ (x6 x7 x8 x9 xt : Option D), ρ = [none, some (.ptr 0), some (.dat (qS m1 as1 sh1)), some (.dat (qS m2 as2 sh2)), some (.dat (.list (fs.map ppD))), some (.dat (.list (ss.map ppD))), sd x6, sd x7, sd x8, sd x9, sd xt] ∧ η = [some o4]) _ ?_ ?_ ⟨none, none, none, none, none, rfl, rfl⟩
  · rintro j ρ η N hj ⟨x6, x7, x8, x9, xt, rfl, rfl⟩ go
    obtain ⟨p, hp, ep⟩ := pp_at hj
    have fin : ∀ (P : LEnds) (x7 : List (Qu × Pp)), (∀ y ∈ x7, IsWord y.2.1 ∧ y.2.2.length < 64) → (∀ x7 x8 x9 xt : Option D, P.nx [none, some (.ptr 0), some (.dat (qS m1 as1 sh1)), some (.dat (qS m2 as2 sh2)), some (.dat (.list (fs.map ppD))), some (.dat (.list (ss.map ppD))), some (.dat (.int (j : Nat))), sd x7, sd x8, sd x9, sd xt] [some o4]) →
        wFor (.many [8, 9]) (wSs Γl l_law_1) (fun _ => True) (x7.map quD) P [none, some (.ptr 0), some (.dat (qS m1 as1 sh1)), some (.dat (qS m2 as2 sh2)), some (.dat (.list (fs.map ppD))), some (.dat (.list (ss.map ppD))), some (.dat (.int (j : Nat))), some (.dat (.list (x7.map quD))), sd x8, sd x9, sd xt] [some o4] := by
      intro P l hl hP
      refine for_map2 quD (fun r ρ η => ∃ x8 x9 xt : Option D, ρ = [none, some (.ptr 0), some (.dat (qS m1 as1 sh1)), some (.dat (qS m2 as2 sh2)), some (.dat (.list (fs.map ppD))), some (.dat (.list (ss.map ppD))), some (.dat (.int (j : Nat))), some (.dat (.list (l.map quD))), sd x8, sd x9, sd xt] ∧ η = [some o4] ∧ ∀ y ∈ r, IsWord y.2.1 ∧ y.2.2.length < 64) ?_ ?_ l ⟨x8, x9, xt, rfl, rfl, hl⟩
      · rintro ⟨q, p⟩ r ρ η N2 ⟨x8, x9, xt, rfl, rfl, hr⟩ go2
        obtain ⟨hw, hl2⟩ := hr _ List.mem_cons_self
        unfold quD l_law_1
        decreasing_trivial
        refine call_0 rfl rfl ⟨q.m, q.as, q.sh, p.2, p.1, rfl, rfl, hl2, hw, rfl, trivial, ?_⟩
        decreasing_trivial
        refine ⟨_, _, rfl, kit_bb, ?_⟩
        decreasing_trivial
        refine call_0 rfl rfl ⟨q.m, q.as, q.sh, p.2, p.1, rfl, rfl, hl2, hw, rfl, trivial, ?_⟩
        decreasing_trivial
        exact go2 _ _ ⟨some _, some _, some _, rfl, rfl, fun y hy => hr y (List.mem_cons_of_mem _ hy)⟩
      · rintro ρ η ⟨x8, x9, xt, rfl, rfl, _⟩
        exact hP (some _) x8 x9 xt
    unfold l_law_2
    decreasing_trivial
    refine ⟨_, ep, ?_⟩
    decreasing_trivial
    refine ⟨_, ep, ?_⟩
    decreasing_trivial
    rw [len_ppD]
    refine ite_i (fun h => ?_) fun h => ?_
    · obtain ⟨p2, hp2, ep2⟩ := pp_at (ps := fs) (j := j) (by omega)
      refine ⟨_, ep2, ?_⟩
      decreasing_trivial
      refine fin _ [(⟨m1, as1, sh1⟩, p2), (⟨m2, as2, sh2⟩, p), (⟨m1, as1, sh1⟩, p)] (fun y hy => ?_) fun x7 x8 x9 xt => go _ _ ⟨some _, x7, x8, x9, xt, rfl, rfl⟩
      rcases List.mem_cons.mp hy with rfl | hy
      · exact hf.ok p2 hp2
      · rcases List.mem_cons.mp hy with rfl | hy
        · exact hss.ok p hp
        · rw [List.mem_singleton.mp hy]
          exact hss.ok p hp
    · refine fin _ [(⟨m2, as2, sh2⟩, p), (⟨m1, as1, sh1⟩, p)] (fun y hy => ?_) fun x7 x8 x9 xt => go _ _ ⟨some _, x7, x8, x9, xt, rfl, rfl⟩
      rcases List.mem_cons.mp hy with rfl | hy
      · exact hss.ok p hp
      · rw [List.mem_singleton.mp hy]
        exact hss.ok p hp
  · rintro ρ η ⟨x6, x7, x8, x9, xt, rfl, rfl⟩
    obtain ⟨p, q, r, rfl, hpq⟩ := hss.two
    obtain ⟨fp, fq, fr, rfl, _⟩ := hf.two
    obtain ⟨rp, rq⟩ := hpq hP2
    obtain ⟨wp, lp⟩ := hss.ok p List.mem_cons_self
    obtain ⟨wq, lq⟩ := hss.ok q (List.mem_cons_of_mem _ List.mem_cons_self)
    obtain ⟨wf, lff⟩ := hf.ok fp List.mem_cons_self
    unfold r_law_1
    decreasing_trivial
    refine call_0 rfl rfl ⟨m2, as2, sh2, p.2, p.1, rfl, rfl, lp, wp, rfl, trivial, ?_⟩
    rw [rp]
    decreasing_trivial
    refine call_0 rfl rfl ⟨m2, as2, sh2, q.2, q.1, rfl, rfl, lq, wq, rfl, trivial, ?_⟩
    rw [rq]
    decreasing_trivial
    refine call_0 rfl rfl ⟨m1, as1, sh1, fp.2, fp.1, rfl, rfl, lff, wf, rfl, trivial, ?_⟩
    decreasing_trivial
    refine call_0 rfl rfl ⟨m1, as1, sh1, fp.2, fp.1, rfl, rfl, lff, wf, rfl, trivial, ?_⟩
    decreasing_trivial
end Pl

namespace Pl
open PySem PySem.Spec PyProof.Rows L2

/-! ## the end -/
def topS (i : Nat) : Stmt := PySem.Challenge.pw_tolledjoins_k56_patterns_judged.main.body.getD i (.Pass ⟨0, 0, 0, 0⟩)
def csK : List (Str × D) := []
abbrev s_is_ascending : Stmt := topS 1
abbrev s_touch : Stmt := topS 2
abbrev s_without : Stmt := topS 3
abbrev s_within_atom : Stmt := topS 5
abbrev s_is_clique : Stmt := topS 6
abbrev s_are_different : Stmt := topS 7
abbrev s_is_ring : Stmt := topS 8
abbrev s_judge_pattern : Stmt := topS 9
abbrev s__law_begin : Stmt := topS 11
abbrev s__law_draw : Stmt := topS 12
abbrev s__law_pick : Stmt := topS 13
abbrev s__law_pop : Stmt := topS 14
abbrev s__law_rare : Stmt := topS 15
abbrev s__law_shuffled : Stmt := topS 16
abbrev s__law_some : Stmt := topS 17
abbrev s__law_query : Stmt := topS 18
abbrev s__law_renamed : Stmt := topS 19
abbrev s__law_tree_query : Stmt := topS 20
abbrev s__law_ring_query : Stmt := topS 21
abbrev s__law_clique_query : Stmt := topS 22
abbrev s__law_nested_query : Stmt := topS 23
abbrev s__law_any_query : Stmt := topS 24
abbrev s__law_shown : Stmt := topS 25
abbrev s__law_touch : Stmt := topS 26
abbrev s__law_knot : Stmt := topS 27
abbrev s__law_woven : Stmt := topS 28
abbrev s__law_world : Stmt := topS 29
abbrev s__law_is_ring : Stmt := topS 30
abbrev s__law_absent : Stmt := topS 31
abbrev s__law_is_clique : Stmt := topS 32
abbrev s__law_is_pattern : Stmt := topS 33
abbrev s__law_rings : Stmt := topS 34
abbrev s__law_patterns : Stmt := topS 35
abbrev s__law_back : Stmt := topS 36
abbrev s__law_told_form : Stmt := topS 37
abbrev s__law_touching_way : Stmt := topS 38
abbrev s__law_spoilt : Stmt := topS 39
abbrev s__law_papers : Stmt := topS 40
abbrev s_law : Stmt := topS 41
theorem sc_is_ascending : scK N_is_ascending (["things"] : List Str) (defScope s_is_ascending) = true := by decide +kernel
theorem ck_is_ascending : kSs ⟨N_is_ascending, [], csK⟩ (defScope s_is_ascending) (List.range 0) b_is_ascending (defBody s_is_ascending) = true := by decide +kernel
theorem sc_touch : scK N_touch (["query", "x", "y"] : List Str) (defScope s_touch) = true := by decide +kernel
theorem ck_touch : kSs ⟨N_touch, [], csK⟩ (defScope s_touch) (List.range 0) b_touch (defBody s_touch) = true := by decide +kernel
theorem sc_without : scK N_without (["things", "thing"] : List Str) (defScope s_without) = true := by decide +kernel
theorem ck_without : kSs ⟨N_without, [], csK⟩ (defScope s_without) (List.range 0) b_without (defBody s_without) = true := by decide +kernel
theorem sc_within_atom : scK N_within_atom (["query", "columns"] : List Str) (defScope s_within_atom) = true := by decide +kernel
theorem ck_within_atom : kSs ⟨N_within_atom, [], csK⟩ (defScope s_within_atom) (List.range 0) b_within_atom (defBody s_within_atom) = true := by decide +kernel
theorem sc_is_clique : scK N_is_clique (["query", "columns"] : List Str) (defScope s_is_clique) = true := by decide +kernel
theorem ck_is_clique : kSs ⟨N_is_clique, ["within_atom", "without"], csK⟩ (defScope s_is_clique) (List.range 0) b_is_clique (defBody s_is_clique) = true := by decide +kernel
theorem sc_are_different : scK N_are_different (["columns", "query"] : List Str) (defScope s_are_different) = true := by decide +kernel
theorem ck_are_different : kSs ⟨N_are_different, [], csK⟩ (defScope s_are_different) (List.range 0) b_are_different (defBody s_are_different) = true := by decide +kernel
theorem sc_is_ring : scK N_is_ring (["query", "columns"] : List Str) (defScope s_is_ring) = true := by decide +kernel
theorem ck_is_ring : kSs ⟨N_is_ring, ["are_different", "touch"], csK⟩ (defScope s_is_ring) (List.range 0) b_is_ring (defBody s_is_ring) = true := by decide +kernel
theorem sc_judge_pattern : scK N_judge_pattern (["query", "pattern"] : List Str) (defScope s_judge_pattern) = true := by decide +kernel
theorem ck_judge_pattern : kSs ⟨N_judge_pattern, ["is_ring", "are_different", "is_ascending", "is_clique"], csK⟩ (defScope s_judge_pattern) (List.range 0) b_judge_pattern (defBody s_judge_pattern) = true := by decide +kernel
theorem sc__law_draw : scK N__law_draw (["d", "many"] : List Str) (defScope s__law_draw) = true := by decide +kernel
theorem ck__law_draw : kSs ⟨N__law_draw, [], csK⟩ (defScope s__law_draw) (List.range 1) b__law_draw (defBody s__law_draw) = true := by decide +kernel
theorem sc__law_pick : scK N__law_pick (["d", "row"] : List Str) (defScope s__law_pick) = true := by decide +kernel
theorem ck__law_pick_1 : kSs ⟨N__law_pick, ["_law_draw"], csK⟩ (defScope s__law_pick) (List.range 1) b__law_pick (defBody s__law_pick) = true := by decide +kernel
theorem ck__law_pick_2 : kSs ⟨N__law_pick, ["_law_draw"], csK⟩ (defScope s__law_pick) (List.range 2) b__law_pick (defBody s__law_pick) = true := by decide +kernel
theorem ck__law_pick : ∀ np ∈ [1, 2], kSs ⟨N__law_pick, ["_law_draw"], csK⟩ (defScope s__law_pick) (List.range np) b__law_pick (defBody s__law_pick) = true := List.forall_mem_cons.mpr ⟨ck__law_pick_1, List.forall_mem_cons.mpr ⟨ck__law_pick_2, fun q hq => absurd hq List.not_mem_nil⟩⟩
theorem sc__law_pop : scK N__law_pop (["d", "row"] : List Str) (defScope s__law_pop) = true := by decide +kernel
theorem ck__law_pop : kSs ⟨N__law_pop, ["_law_draw"], csK⟩ (defScope s__law_pop) (List.range 2) b__law_pop (defBody s__law_pop) = true := by decide +kernel
theorem sc__law_rare : scK N__law_rare (["d", "many"] : List Str) (defScope s__law_rare) = true := by decide +kernel
theorem ck__law_rare : kSs ⟨N__law_rare, ["_law_draw"], csK⟩ (defScope s__law_rare) (List.range 1) b__law_rare (defBody s__law_rare) = true := by decide +kernel
theorem sc__law_shuffled : scK N__law_shuffled (["d", "row"] : List Str) (defScope s__law_shuffled) = true := by decide +kernel
theorem ck__law_shuffled : kSs ⟨N__law_shuffled, ["_law_draw"], csK⟩ (defScope s__law_shuffled) (List.range 1) b__law_shuffled (defBody s__law_shuffled) = true := by decide +kernel
theorem sc__law_some : scK N__law_some (["d", "row"] : List Str) (defScope s__law_some) = true := by decide +kernel
theorem ck__law_some : kSs ⟨N__law_some, ["_law_draw"], csK⟩ (defScope s__law_some) (List.range 1) b__law_some (defBody s__law_some) = true := by decide +kernel
theorem sc__law_query : scK N__law_query (["d", "most_columns", "most_atoms", "widest"] : List Str) (defScope s__law_query) = true := by decide +kernel
theorem ck__law_query : kSs ⟨N__law_query, ["_law_draw", "_law_pop"], csK⟩ (defScope s__law_query) (List.range 1) b__law_query (defBody s__law_query) = true := by decide +kernel
theorem sc__law_renamed : scK N__law_renamed (["d", "atoms", "many"] : List Str) (defScope s__law_renamed) = true := by decide +kernel
theorem ck__law_renamed : kSs ⟨N__law_renamed, ["_law_shuffled"], csK⟩ (defScope s__law_renamed) (List.range 1) b__law_renamed (defBody s__law_renamed) = true := by decide +kernel
theorem sc__law_tree_query : scK N__law_tree_query (["d", "most_columns", "most_atoms"] : List Str) (defScope s__law_tree_query) = true := by decide +kernel
theorem ck__law_tree_query : kSs ⟨N__law_tree_query, ["_law_draw", "_law_some", "_law_pick", "_law_renamed"], csK⟩ (defScope s__law_tree_query) (List.range 1) b__law_tree_query (defBody s__law_tree_query) = true := by decide +kernel
theorem sc__law_ring_query : scK N__law_ring_query (["d", "size", "more"] : List Str) (defScope s__law_ring_query) = true := by decide +kernel
theorem ck__law_ring_query : kSs ⟨N__law_ring_query, ["_law_draw", "_law_renamed"], csK⟩ (defScope s__law_ring_query) (List.range 1) b__law_ring_query (defBody s__law_ring_query) = true := by decide +kernel
theorem sc__law_clique_query : scK N__law_clique_query (["d", "size", "more"] : List Str) (defScope s__law_clique_query) = true := by decide +kernel
theorem ck__law_clique_query : kSs ⟨N__law_clique_query, ["_law_draw", "_law_renamed"], csK⟩ (defScope s__law_clique_query) (List.range 1) b__law_clique_query (defBody s__law_clique_query) = true := by decide +kernel
theorem sc__law_nested_query : scK N__law_nested_query (["d", "most_columns"] : List Str) (defScope s__law_nested_query) = true := by decide +kernel
theorem ck__law_nested_query : kSs ⟨N__law_nested_query, ["_law_draw", "_law_renamed"], csK⟩ (defScope s__law_nested_query) (List.range 1) b__law_nested_query (defBody s__law_nested_query) = true := by decide +kernel
theorem sc__law_any_query : scK N__law_any_query (["d", "most_columns"] : List Str) (defScope s__law_any_query) = true := by decide +kernel
theorem ck__law_any_query : kSs ⟨N__law_any_query, ["_law_draw", "_law_tree_query", "_law_ring_query", "_law_clique_query", "_law_nested_query", "_law_query"], csK⟩ (defScope s__law_any_query) (List.range 1) b__law_any_query (defBody s__law_any_query) = true := by decide +kernel
theorem sc__law_shown : scK N__law_shown (["d", "query"] : List Str) (defScope s__law_shown) = true := by decide +kernel
theorem ck__law_shown : kSs ⟨N__law_shown, ["_law_draw", "_law_some"], csK⟩ (defScope s__law_shown) (List.range 1) b__law_shown (defBody s__law_shown) = true := by decide +kernel
theorem sc__law_touch : scK N__law_touch (["query", "x", "y"] : List Str) (defScope s__law_touch) = true := by decide +kernel
theorem ck__law_touch : kSs ⟨N__law_touch, [], csK⟩ (defScope s__law_touch) (List.range 0) b__law_touch (defBody s__law_touch) = true := by decide +kernel
theorem sc__law_knot : scK N__law_knot (["d", "most"] : List Str) (defScope s__law_knot) = true := by decide +kernel
theorem ck__law_knot : kSs ⟨N__law_knot, ["_law_draw", "_law_ring_query", "_law_clique_query"], csK⟩ (defScope s__law_knot) (List.range 1) b__law_knot (defBody s__law_knot) = true := by decide +kernel
theorem sc__law_woven : scK N__law_woven (["d"] : List Str) (defScope s__law_woven) = true := by decide +kernel
theorem ck__law_woven : kSs ⟨N__law_woven, ["_law_rare", "_law_knot", "_law_draw", "_law_some", "_law_pick", "_law_shown", "_law_renamed"], csK⟩ (defScope s__law_woven) (List.range 1) b__law_woven (defBody s__law_woven) = true := by decide +kernel
theorem sc__law_world : scK N__law_world (["d"] : List Str) (defScope s__law_world) = true := by decide +kernel
theorem ck__law_world : kSs ⟨N__law_world, ["_law_draw", "_law_shown", "_law_any_query", "_law_woven", "_law_pick"], csK⟩ (defScope s__law_world) (List.range 1) b__law_world (defBody s__law_world) = true := by decide +kernel
theorem sc__law_is_ring : scK N__law_is_ring (["query", "columns"] : List Str) (defScope s__law_is_ring) = true := by decide +kernel
theorem ck__law_is_ring : kSs ⟨N__law_is_ring, ["_law_touch"], csK⟩ (defScope s__law_is_ring) (List.range 0) b__law_is_ring (defBody s__law_is_ring) = true := by decide +kernel
theorem sc__law_absent : scK N__law_absent (["columns", "atom"] : List Str) (defScope s__law_absent) = true := by decide +kernel
theorem ck__law_absent : kSs ⟨N__law_absent, [], csK⟩ (defScope s__law_absent) (List.range 0) b__law_absent (defBody s__law_absent) = true := by decide +kernel
theorem sc__law_is_clique : scK N__law_is_clique (["query", "columns"] : List Str) (defScope s__law_is_clique) = true := by decide +kernel
theorem ck__law_is_clique : kSs ⟨N__law_is_clique, ["_law_absent"], csK⟩ (defScope s__law_is_clique) (List.range 0) b__law_is_clique (defBody s__law_is_clique) = true := by decide +kernel
theorem sc__law_is_pattern : scK N__law_is_pattern (["query", "paper"] : List Str) (defScope s__law_is_pattern) = true := by decide +kernel
theorem ck__law_is_pattern : kSs ⟨N__law_is_pattern, ["_law_is_ring", "_law_is_clique"], csK⟩ (defScope s__law_is_pattern) (List.range 0) b__law_is_pattern (defBody s__law_is_pattern) = true := by decide +kernel
theorem sc__law_rings : scK N__law_rings (["query"] : List Str) (defScope s__law_rings) = true := by decide +kernel
theorem ck__law_rings : kSs ⟨N__law_rings, ["_law_touch"], csK⟩ (defScope s__law_rings) (List.range 0) b__law_rings (defBody s__law_rings) = true := by decide +kernel
theorem sc__law_patterns : scK N__law_patterns (["query"] : List Str) (defScope s__law_patterns) = true := by decide +kernel
theorem ck__law_patterns : kSs ⟨N__law_patterns, ["_law_rings", "_law_is_clique"], csK⟩ (defScope s__law_patterns) (List.range 0) b__law_patterns (defBody s__law_patterns) = true := by decide +kernel
theorem sc__law_back : scK N__law_back (["row"] : List Str) (defScope s__law_back) = true := by decide +kernel
theorem ck__law_back : kSs ⟨N__law_back, [], csK⟩ (defScope s__law_back) (List.range 0) b__law_back (defBody s__law_back) = true := by decide +kernel
theorem sc__law_told_form : scK N__law_told_form (["columns"] : List Str) (defScope s__law_told_form) = true := by decide +kernel
theorem ck__law_told_form : kSs ⟨N__law_told_form, ["_law_back"], csK⟩ (defScope s__law_told_form) (List.range 0) b__law_told_form (defBody s__law_told_form) = true := by decide +kernel
theorem sc__law_touching_way : scK N__law_touching_way (["d", "query"] : List Str) (defScope s__law_touching_way) = true := by decide +kernel
theorem ck__law_touching_way : kSs ⟨N__law_touching_way, ["_law_draw", "_law_touch", "_law_pick"], csK⟩ (defScope s__law_touching_way) (List.range 1) b__law_touching_way (defBody s__law_touching_way) = true := by decide +kernel
theorem sc__law_spoilt : scK N__law_spoilt (["d", "query", "paper"] : List Str) (defScope s__law_spoilt) = true := by decide +kernel
theorem ck__law_spoilt : kSs ⟨N__law_spoilt, ["_law_draw", "_law_pick", "_law_back"], csK⟩ (defScope s__law_spoilt) (List.range 1) b__law_spoilt (defBody s__law_spoilt) = true := by decide +kernel
theorem sc__law_papers : scK N__law_papers (["d", "query"] : List Str) (defScope s__law_papers) = true := by decide +kernel
theorem ck__law_papers : kSs ⟨N__law_papers, ["_law_patterns", "_law_shuffled", "_law_draw", "_law_pick", "_law_spoilt", "_law_touching_way", "_law_told_form"], csK⟩ (defScope s__law_papers) (List.range 1) b__law_papers (defBody s__law_papers) = true := by decide +kernel
theorem sc_law : scK N_law ["script"] (defScope s_law) = true := by decide +kernel
theorem ck_law : kLaw ⟨N_law, ["_law_world", "_law_woven", "_law_papers", "judge_pattern", "_law_is_pattern"], csK⟩ (defScope s_law) b_law (defBody s_law) = true := by decide +kernel
theorem sc_begin : scK ["script", "cell"] ["script"] (defScope s__law_begin) = true := by decide +kernel
theorem ck_begin : bScope s__law_begin = true := by decide +kernel
theorem all_mk {l : PySem.W.OpenLaw} {w : World} {K : PySem.W.Frag} {h : Heap} {mg : Str → Option Value} {fa : Addr} (X : K.In h) (G : h.Ns mainGlobals mg) (hfa : mg "law" = some (.ref fa))
    {f0 : Addr} {od0 an0 : Option Addr} {sl0 : Array (Option Value)} {oc0 kV0 dc0 pm0 cd0 ct0 : Value}
    {f1 : Addr} {od1 an1 : Option Addr} {sl1 : Array (Option Value)} {oc1 kV1 dc1 pm1 cd1 ct1 : Value}
    {f2 : Addr} {od2 an2 : Option Addr} {sl2 : Array (Option Value)} {oc2 kV2 dc2 pm2 cd2 ct2 : Value}
    {f3 : Addr} {od3 an3 : Option Addr} {sl3 : Array (Option Value)} {oc3 kV3 dc3 pm3 cd3 ct3 : Value}
    {f4 : Addr} {od4 an4 : Option Addr} {sl4 : Array (Option Value)} {oc4 kV4 dc4 pm4 cd4 ct4 : Value}
    {f5 : Addr} {od5 an5 : Option Addr} {sl5 : Array (Option Value)} {oc5 kV5 dc5 pm5 cd5 ct5 : Value}
    {f6 : Addr} {od6 an6 : Option Addr} {sl6 : Array (Option Value)} {oc6 kV6 dc6 pm6 cd6 ct6 : Value}
    {f7 : Addr} {od7 an7 : Option Addr} {sl7 : Array (Option Value)} {oc7 kV7 dc7 pm7 cd7 ct7 : Value}
    {f8 : Addr} {od8 an8 : Option Addr} {sl8 : Array (Option Value)} {oc8 kV8 dc8 pm8 cd8 ct8 : Value}
    {f9 : Addr} {od9 an9 : Option Addr} {sl9 : Array (Option Value)} {oc9 kV9 dc9 pm9 cd9 ct9 : Value}
    {f10 : Addr} {od10 an10 : Option Addr} {sl10 : Array (Option Value)} {oc10 kV10 dc10 pm10 cd10 ct10 : Value}
    {f11 : Addr} {od11 an11 : Option Addr} {sl11 : Array (Option Value)} {oc11 kV11 dc11 pm11 cd11 ct11 : Value}
    {f12 : Addr} {od12 an12 : Option Addr} {sl12 : Array (Option Value)} {oc12 kV12 dc12 pm12 cd12 ct12 : Value}
    {f13 : Addr} {od13 an13 : Option Addr} {sl13 : Array (Option Value)} {oc13 kV13 dc13 pm13 cd13 ct13 : Value}
    {f14 : Addr} {od14 an14 : Option Addr} {sl14 : Array (Option Value)} {oc14 kV14 dc14 pm14 cd14 ct14 : Value}
    {f15 : Addr} {od15 an15 : Option Addr} {sl15 : Array (Option Value)} {oc15 kV15 dc15 pm15 cd15 ct15 : Value}
    {f16 : Addr} {od16 an16 : Option Addr} {sl16 : Array (Option Value)} {oc16 kV16 dc16 pm16 cd16 ct16 : Value}
    {f17 : Addr} {od17 an17 : Option Addr} {sl17 : Array (Option Value)} {oc17 kV17 dc17 pm17 cd17 ct17 : Value}
    {f18 : Addr} {od18 an18 : Option Addr} {sl18 : Array (Option Value)} {oc18 kV18 dc18 pm18 cd18 ct18 : Value}
    {f19 : Addr} {od19 an19 : Option Addr} {sl19 : Array (Option Value)} {oc19 kV19 dc19 pm19 cd19 ct19 : Value}
    {f20 : Addr} {od20 an20 : Option Addr} {sl20 : Array (Option Value)} {oc20 kV20 dc20 pm20 cd20 ct20 : Value}
    {f21 : Addr} {od21 an21 : Option Addr} {sl21 : Array (Option Value)} {oc21 kV21 dc21 pm21 cd21 ct21 : Value}
    {f22 : Addr} {od22 an22 : Option Addr} {sl22 : Array (Option Value)} {oc22 kV22 dc22 pm22 cd22 ct22 : Value}
    {f23 : Addr} {od23 an23 : Option Addr} {sl23 : Array (Option Value)} {oc23 kV23 dc23 pm23 cd23 ct23 : Value}
    {f24 : Addr} {od24 an24 : Option Addr} {sl24 : Array (Option Value)} {oc24 kV24 dc24 pm24 cd24 ct24 : Value}
    {f25 : Addr} {od25 an25 : Option Addr} {sl25 : Array (Option Value)} {oc25 kV25 dc25 pm25 cd25 ct25 : Value}
    {f26 : Addr} {od26 an26 : Option Addr} {sl26 : Array (Option Value)} {oc26 kV26 dc26 pm26 cd26 ct26 : Value}
    {f27 : Addr} {od27 an27 : Option Addr} {sl27 : Array (Option Value)} {oc27 kV27 dc27 pm27 cd27 ct27 : Value}
    {f28 : Addr} {od28 an28 : Option Addr} {sl28 : Array (Option Value)} {oc28 kV28 dc28 pm28 cd28 ct28 : Value}
    {f29 : Addr} {od29 an29 : Option Addr} {sl29 : Array (Option Value)} {oc29 kV29 dc29 pm29 cd29 ct29 : Value}
    {f30 : Addr} {od30 an30 : Option Addr} {sl30 : Array (Option Value)} {oc30 kV30 dc30 pm30 cd30 ct30 : Value}
    {f31 : Addr} {od31 an31 : Option Addr} {sl31 : Array (Option Value)} {oc31 kV31 dc31 pm31 cd31 ct31 : Value}
    {f32 : Addr} {od32 an32 : Option Addr} {sl32 : Array (Option Value)} {oc32 kV32 dc32 pm32 cd32 ct32 : Value}
    {f33 : Addr} {od33 an33 : Option Addr} {sl33 : Array (Option Value)} {oc33 kV33 dc33 pm33 cd33 ct33 : Value}
    {f34 : Addr} {od34 an34 : Option Addr} {sl34 : Array (Option Value)} {oc34 kV34 dc34 pm34 cd34 ct34 : Value}
    {f35 : Addr} {od35 an35 : Option Addr} {sl35 : Array (Option Value)} {oc35 kV35 dc35 pm35 cd35 ct35 : Value}
    {f36 : Addr} {od36 an36 : Option Addr} {sl36 : Array (Option Value)} {oc36 kV36 dc36 pm36 cd36 ct36 : Value}
    {f37 : Addr} {od37 an37 : Option Addr} {sl37 : Array (Option Value)} {oc37 kV37 dc37 pm37 cd37 ct37 : Value}
    {f38 : Addr} {od38 an38 : Option Addr} {sl38 : Array (Option Value)} {oc38 kV38 dc38 pm38 cd38 ct38 : Value}
    (a0 : PySem.W.nsIn K mainGlobals "is_ascending" = some (some (.ref f0))) (l0 : K.lookup f0 = some ⟨oc0, od0, .func (PySem.W.fnOf "is_ascending" "is_ascending" (defArgs s_is_ascending) (defBody s_is_ascending) (defScope s_is_ascending) .none kV0 dc0 pm0 an0 cd0 ct0), sl0⟩) (c0 : PySem.W.codeIn K cd0 "is_ascending" = true) (k0 : PySem.W.keepIn K (.ref f0) = true)
    (a1 : PySem.W.nsIn K mainGlobals "touch" = some (some (.ref f1))) (l1 : K.lookup f1 = some ⟨oc1, od1, .func (PySem.W.fnOf "touch" "touch" (defArgs s_touch) (defBody s_touch) (defScope s_touch) .none kV1 dc1 pm1 an1 cd1 ct1), sl1⟩) (c1 : PySem.W.codeIn K cd1 "touch" = true) (k1 : PySem.W.keepIn K (.ref f1) = true)
    (a2 : PySem.W.nsIn K mainGlobals "without" = some (some (.ref f2))) (l2 : K.lookup f2 = some ⟨oc2, od2, .func (PySem.W.fnOf "without" "without" (defArgs s_without) (defBody s_without) (defScope s_without) .none kV2 dc2 pm2 an2 cd2 ct2), sl2⟩) (c2 : PySem.W.codeIn K cd2 "without" = true) (k2 : PySem.W.keepIn K (.ref f2) = true)
    (a3 : PySem.W.nsIn K mainGlobals "within_atom" = some (some (.ref f3))) (l3 : K.lookup f3 = some ⟨oc3, od3, .func (PySem.W.fnOf "within_atom" "within_atom" (defArgs s_within_atom) (defBody s_within_atom) (defScope s_within_atom) .none kV3 dc3 pm3 an3 cd3 ct3), sl3⟩) (c3 : PySem.W.codeIn K cd3 "within_atom" = true) (k3 : PySem.W.keepIn K (.ref f3) = true)
    (a4 : PySem.W.nsIn K mainGlobals "is_clique" = some (some (.ref f4))) (l4 : K.lookup f4 = some ⟨oc4, od4, .func (PySem.W.fnOf "is_clique" "is_clique" (defArgs s_is_clique) (defBody s_is_clique) (defScope s_is_clique) .none kV4 dc4 pm4 an4 cd4 ct4), sl4⟩) (c4 : PySem.W.codeIn K cd4 "is_clique" = true) (k4 : PySem.W.keepIn K (.ref f4) = true)
    (a5 : PySem.W.nsIn K mainGlobals "are_different" = some (some (.ref f5))) (l5 : K.lookup f5 = some ⟨oc5, od5, .func (PySem.W.fnOf "are_different" "are_different" (defArgs s_are_different) (defBody s_are_different) (defScope s_are_different) .none kV5 dc5 pm5 an5 cd5 ct5), sl5⟩) (c5 : PySem.W.codeIn K cd5 "are_different" = true) (k5 : PySem.W.keepIn K (.ref f5) = true)
    (a6 : PySem.W.nsIn K mainGlobals "is_ring" = some (some (.ref f6))) (l6 : K.lookup f6 = some ⟨oc6, od6, .func (PySem.W.fnOf "is_ring" "is_ring" (defArgs s_is_ring) (defBody s_is_ring) (defScope s_is_ring) .none kV6 dc6 pm6 an6 cd6 ct6), sl6⟩) (c6 : PySem.W.codeIn K cd6 "is_ring" = true) (k6 : PySem.W.keepIn K (.ref f6) = true)
    (a7 : PySem.W.nsIn K mainGlobals "judge_pattern" = some (some (.ref f7))) (l7 : K.lookup f7 = some ⟨oc7, od7, .func (PySem.W.fnOf "judge_pattern" "judge_pattern" (defArgs s_judge_pattern) (defBody s_judge_pattern) (defScope s_judge_pattern) .none kV7 dc7 pm7 an7 cd7 ct7), sl7⟩) (c7 : PySem.W.codeIn K cd7 "judge_pattern" = true) (k7 : PySem.W.keepIn K (.ref f7) = true)
    (a8 : PySem.W.nsIn K mainGlobals "_law_draw" = some (some (.ref f8))) (l8 : K.lookup f8 = some ⟨oc8, od8, .func (PySem.W.fnOf "_law_draw" "_law_draw" (defArgs s__law_draw) (defBody s__law_draw) (defScope s__law_draw) .none kV8 dc8 pm8 an8 cd8 ct8), sl8⟩) (c8 : PySem.W.codeIn K cd8 "_law_draw" = true) (k8 : PySem.W.keepIn K (.ref f8) = true)
    (a9 : PySem.W.nsIn K mainGlobals "_law_pick" = some (some (.ref f9))) (l9 : K.lookup f9 = some ⟨oc9, od9, .func (PySem.W.fnOf "_law_pick" "_law_pick" (defArgs s__law_pick) (defBody s__law_pick) (defScope s__law_pick) .none kV9 dc9 pm9 an9 cd9 ct9), sl9⟩) (c9 : PySem.W.codeIn K cd9 "_law_pick" = true) (k9 : PySem.W.keepIn K (.ref f9) = true)
    (a10 : PySem.W.nsIn K mainGlobals "_law_pop" = some (some (.ref f10))) (l10 : K.lookup f10 = some ⟨oc10, od10, .func (PySem.W.fnOf "_law_pop" "_law_pop" (defArgs s__law_pop) (defBody s__law_pop) (defScope s__law_pop) .none kV10 dc10 pm10 an10 cd10 ct10), sl10⟩) (c10 : PySem.W.codeIn K cd10 "_law_pop" = true) (k10 : PySem.W.keepIn K (.ref f10) = true)
    (a11 : PySem.W.nsIn K mainGlobals "_law_rare" = some (some (.ref f11))) (l11 : K.lookup f11 = some ⟨oc11, od11, .func (PySem.W.fnOf "_law_rare" "_law_rare" (defArgs s__law_rare) (defBody s__law_rare) (defScope s__law_rare) .none kV11 dc11 pm11 an11 cd11 ct11), sl11⟩) (c11 : PySem.W.codeIn K cd11 "_law_rare" = true) (k11 : PySem.W.keepIn K (.ref f11) = true)
    (a12 : PySem.W.nsIn K mainGlobals "_law_shuffled" = some (some (.ref f12))) (l12 : K.lookup f12 = some ⟨oc12, od12, .func (PySem.W.fnOf "_law_shuffled" "_law_shuffled" (defArgs s__law_shuffled) (defBody s__law_shuffled) (defScope s__law_shuffled) .none kV12 dc12 pm12 an12 cd12 ct12), sl12⟩) (c12 : PySem.W.codeIn K cd12 "_law_shuffled" = true) (k12 : PySem.W.keepIn K (.ref f12) = true)
    (a13 : PySem.W.nsIn K mainGlobals "_law_some" = some (some (.ref f13))) (l13 : K.lookup f13 = some ⟨oc13, od13, .func (PySem.W.fnOf "_law_some" "_law_some" (defArgs s__law_some) (defBody s__law_some) (defScope s__law_some) .none kV13 dc13 pm13 an13 cd13 ct13), sl13⟩) (c13 : PySem.W.codeIn K cd13 "_law_some" = true) (k13 : PySem.W.keepIn K (.ref f13) = true)
    (a14 : PySem.W.nsIn K mainGlobals "_law_query" = some (some (.ref f14))) (l14 : K.lookup f14 = some ⟨oc14, od14, .func (PySem.W.fnOf "_law_query" "_law_query" (defArgs s__law_query) (defBody s__law_query) (defScope s__law_query) .none kV14 dc14 pm14 an14 cd14 ct14), sl14⟩) (c14 : PySem.W.codeIn K cd14 "_law_query" = true) (k14 : PySem.W.keepIn K (.ref f14) = true)
    (a15 : PySem.W.nsIn K mainGlobals "_law_renamed" = some (some (.ref f15))) (l15 : K.lookup f15 = some ⟨oc15, od15, .func (PySem.W.fnOf "_law_renamed" "_law_renamed" (defArgs s__law_renamed) (defBody s__law_renamed) (defScope s__law_renamed) .none kV15 dc15 pm15 an15 cd15 ct15), sl15⟩) (c15 : PySem.W.codeIn K cd15 "_law_renamed" = true) (k15 : PySem.W.keepIn K (.ref f15) = true)
    (a16 : PySem.W.nsIn K mainGlobals "_law_tree_query" = some (some (.ref f16))) (l16 : K.lookup f16 = some ⟨oc16, od16, .func (PySem.W.fnOf "_law_tree_query" "_law_tree_query" (defArgs s__law_tree_query) (defBody s__law_tree_query) (defScope s__law_tree_query) .none kV16 dc16 pm16 an16 cd16 ct16), sl16⟩) (c16 : PySem.W.codeIn K cd16 "_law_tree_query" = true) (k16 : PySem.W.keepIn K (.ref f16) = true)
    (a17 : PySem.W.nsIn K mainGlobals "_law_ring_query" = some (some (.ref f17))) (l17 : K.lookup f17 = some ⟨oc17, od17, .func (PySem.W.fnOf "_law_ring_query" "_law_ring_query" (defArgs s__law_ring_query) (defBody s__law_ring_query) (defScope s__law_ring_query) .none kV17 dc17 pm17 an17 cd17 ct17), sl17⟩) (c17 : PySem.W.codeIn K cd17 "_law_ring_query" = true) (k17 : PySem.W.keepIn K (.ref f17) = true)
    (a18 : PySem.W.nsIn K mainGlobals "_law_clique_query" = some (some (.ref f18))) (l18 : K.lookup f18 = some ⟨oc18, od18, .func (PySem.W.fnOf "_law_clique_query" "_law_clique_query" (defArgs s__law_clique_query) (defBody s__law_clique_query) (defScope s__law_clique_query) .none kV18 dc18 pm18 an18 cd18 ct18), sl18⟩) (c18 : PySem.W.codeIn K cd18 "_law_clique_query" = true) (k18 : PySem.W.keepIn K (.ref f18) = true)
    (a19 : PySem.W.nsIn K mainGlobals "_law_nested_query" = some (some (.ref f19))) (l19 : K.lookup f19 = some ⟨oc19, od19, .func (PySem.W.fnOf "_law_nested_query" "_law_nested_query" (defArgs s__law_nested_query) (defBody s__law_nested_query) (defScope s__law_nested_query) .none kV19 dc19 pm19 an19 cd19 ct19), sl19⟩) (c19 : PySem.W.codeIn K cd19 "_law_nested_query" = true) (k19 : PySem.W.keepIn K (.ref f19) = true)
    (a20 : PySem.W.nsIn K mainGlobals "_law_any_query" = some (some (.ref f20))) (l20 : K.lookup f20 = some ⟨oc20, od20, .func (PySem.W.fnOf "_law_any_query" "_law_any_query" (defArgs s__law_any_query) (defBody s__law_any_query) (defScope s__law_any_query) .none kV20 dc20 pm20 an20 cd20 ct20), sl20⟩) (c20 : PySem.W.codeIn K cd20 "_law_any_query" = true) (k20 : PySem.W.keepIn K (.ref f20) = true)
    (a21 : PySem.W.nsIn K mainGlobals "_law_shown" = some (some (.ref f21))) (l21 : K.lookup f21 = some ⟨oc21, od21, .func (PySem.W.fnOf "_law_shown" "_law_shown" (defArgs s__law_shown) (defBody s__law_shown) (defScope s__law_shown) .none kV21 dc21 pm21 an21 cd21 ct21), sl21⟩) (c21 : PySem.W.codeIn K cd21 "_law_shown" = true) (k21 : PySem.W.keepIn K (.ref f21) = true)
    (a22 : PySem.W.nsIn K mainGlobals "_law_touch" = some (some (.ref f22))) (l22 : K.lookup f22 = some ⟨oc22, od22, .func (PySem.W.fnOf "_law_touch" "_law_touch" (defArgs s__law_touch) (defBody s__law_touch) (defScope s__law_touch) .none kV22 dc22 pm22 an22 cd22 ct22), sl22⟩) (c22 : PySem.W.codeIn K cd22 "_law_touch" = true) (k22 : PySem.W.keepIn K (.ref f22) = true)
    (a23 : PySem.W.nsIn K mainGlobals "_law_knot" = some (some (.ref f23))) (l23 : K.lookup f23 = some ⟨oc23, od23, .func (PySem.W.fnOf "_law_knot" "_law_knot" (defArgs s__law_knot) (defBody s__law_knot) (defScope s__law_knot) .none kV23 dc23 pm23 an23 cd23 ct23), sl23⟩) (c23 : PySem.W.codeIn K cd23 "_law_knot" = true) (k23 : PySem.W.keepIn K (.ref f23) = true)
    (a24 : PySem.W.nsIn K mainGlobals "_law_woven" = some (some (.ref f24))) (l24 : K.lookup f24 = some ⟨oc24, od24, .func (PySem.W.fnOf "_law_woven" "_law_woven" (defArgs s__law_woven) (defBody s__law_woven) (defScope s__law_woven) .none kV24 dc24 pm24 an24 cd24 ct24), sl24⟩) (c24 : PySem.W.codeIn K cd24 "_law_woven" = true) (k24 : PySem.W.keepIn K (.ref f24) = true)
    (a25 : PySem.W.nsIn K mainGlobals "_law_world" = some (some (.ref f25))) (l25 : K.lookup f25 = some ⟨oc25, od25, .func (PySem.W.fnOf "_law_world" "_law_world" (defArgs s__law_world) (defBody s__law_world) (defScope s__law_world) .none kV25 dc25 pm25 an25 cd25 ct25), sl25⟩) (c25 : PySem.W.codeIn K cd25 "_law_world" = true) (k25 : PySem.W.keepIn K (.ref f25) = true)
    (a26 : PySem.W.nsIn K mainGlobals "_law_is_ring" = some (some (.ref f26))) (l26 : K.lookup f26 = some ⟨oc26, od26, .func (PySem.W.fnOf "_law_is_ring" "_law_is_ring" (defArgs s__law_is_ring) (defBody s__law_is_ring) (defScope s__law_is_ring) .none kV26 dc26 pm26 an26 cd26 ct26), sl26⟩) (c26 : PySem.W.codeIn K cd26 "_law_is_ring" = true) (k26 : PySem.W.keepIn K (.ref f26) = true)
    (a27 : PySem.W.nsIn K mainGlobals "_law_absent" = some (some (.ref f27))) (l27 : K.lookup f27 = some ⟨oc27, od27, .func (PySem.W.fnOf "_law_absent" "_law_absent" (defArgs s__law_absent) (defBody s__law_absent) (defScope s__law_absent) .none kV27 dc27 pm27 an27 cd27 ct27), sl27⟩) (c27 : PySem.W.codeIn K cd27 "_law_absent" = true) (k27 : PySem.W.keepIn K (.ref f27) = true)
    (a28 : PySem.W.nsIn K mainGlobals "_law_is_clique" = some (some (.ref f28))) (l28 : K.lookup f28 = some ⟨oc28, od28, .func (PySem.W.fnOf "_law_is_clique" "_law_is_clique" (defArgs s__law_is_clique) (defBody s__law_is_clique) (defScope s__law_is_clique) .none kV28 dc28 pm28 an28 cd28 ct28), sl28⟩) (c28 : PySem.W.codeIn K cd28 "_law_is_clique" = true) (k28 : PySem.W.keepIn K (.ref f28) = true)
    (a29 : PySem.W.nsIn K mainGlobals "_law_is_pattern" = some (some (.ref f29))) (l29 : K.lookup f29 = some ⟨oc29, od29, .func (PySem.W.fnOf "_law_is_pattern" "_law_is_pattern" (defArgs s__law_is_pattern) (defBody s__law_is_pattern) (defScope s__law_is_pattern) .none kV29 dc29 pm29 an29 cd29 ct29), sl29⟩) (c29 : PySem.W.codeIn K cd29 "_law_is_pattern" = true) (k29 : PySem.W.keepIn K (.ref f29) = true)
    (a30 : PySem.W.nsIn K mainGlobals "_law_rings" = some (some (.ref f30))) (l30 : K.lookup f30 = some ⟨oc30, od30, .func (PySem.W.fnOf "_law_rings" "_law_rings" (defArgs s__law_rings) (defBody s__law_rings) (defScope s__law_rings) .none kV30 dc30 pm30 an30 cd30 ct30), sl30⟩) (c30 : PySem.W.codeIn K cd30 "_law_rings" = true) (k30 : PySem.W.keepIn K (.ref f30) = true)
    (a31 : PySem.W.nsIn K mainGlobals "_law_patterns" = some (some (.ref f31))) (l31 : K.lookup f31 = some ⟨oc31, od31, .func (PySem.W.fnOf "_law_patterns" "_law_patterns" (defArgs s__law_patterns) (defBody s__law_patterns) (defScope s__law_patterns) .none kV31 dc31 pm31 an31 cd31 ct31), sl31⟩) (c31 : PySem.W.codeIn K cd31 "_law_patterns" = true) (k31 : PySem.W.keepIn K (.ref f31) = true)
    (a32 : PySem.W.nsIn K mainGlobals "_law_back" = some (some (.ref f32))) (l32 : K.lookup f32 = some ⟨oc32, od32, .func (PySem.W.fnOf "_law_back" "_law_back" (defArgs s__law_back) (defBody s__law_back) (defScope s__law_back) .none kV32 dc32 pm32 an32 cd32 ct32), sl32⟩) (c32 : PySem.W.codeIn K cd32 "_law_back" = true) (k32 : PySem.W.keepIn K (.ref f32) = true)
    (a33 : PySem.W.nsIn K mainGlobals "_law_told_form" = some (some (.ref f33))) (l33 : K.lookup f33 = some ⟨oc33, od33, .func (PySem.W.fnOf "_law_told_form" "_law_told_form" (defArgs s__law_told_form) (defBody s__law_told_form) (defScope s__law_told_form) .none kV33 dc33 pm33 an33 cd33 ct33), sl33⟩) (c33 : PySem.W.codeIn K cd33 "_law_told_form" = true) (k33 : PySem.W.keepIn K (.ref f33) = true)
    (a34 : PySem.W.nsIn K mainGlobals "_law_touching_way" = some (some (.ref f34))) (l34 : K.lookup f34 = some ⟨oc34, od34, .func (PySem.W.fnOf "_law_touching_way" "_law_touching_way" (defArgs s__law_touching_way) (defBody s__law_touching_way) (defScope s__law_touching_way) .none kV34 dc34 pm34 an34 cd34 ct34), sl34⟩) (c34 : PySem.W.codeIn K cd34 "_law_touching_way" = true) (k34 : PySem.W.keepIn K (.ref f34) = true)
    (a35 : PySem.W.nsIn K mainGlobals "_law_spoilt" = some (some (.ref f35))) (l35 : K.lookup f35 = some ⟨oc35, od35, .func (PySem.W.fnOf "_law_spoilt" "_law_spoilt" (defArgs s__law_spoilt) (defBody s__law_spoilt) (defScope s__law_spoilt) .none kV35 dc35 pm35 an35 cd35 ct35), sl35⟩) (c35 : PySem.W.codeIn K cd35 "_law_spoilt" = true) (k35 : PySem.W.keepIn K (.ref f35) = true)
    (a36 : PySem.W.nsIn K mainGlobals "_law_papers" = some (some (.ref f36))) (l36 : K.lookup f36 = some ⟨oc36, od36, .func (PySem.W.fnOf "_law_papers" "_law_papers" (defArgs s__law_papers) (defBody s__law_papers) (defScope s__law_papers) .none kV36 dc36 pm36 an36 cd36 ct36), sl36⟩) (c36 : PySem.W.codeIn K cd36 "_law_papers" = true) (k36 : PySem.W.keepIn K (.ref f36) = true)
    (a37 : PySem.W.nsIn K mainGlobals "_law_begin" = some (some (.ref f37))) (l37 : K.lookup f37 = some ⟨oc37, od37, .func (PySem.W.fnOf "_law_begin" "_law_begin" (defArgs s__law_begin) (defBody s__law_begin) (defScope s__law_begin) .none kV37 dc37 pm37 an37 cd37 ct37), sl37⟩) (c37 : PySem.W.codeIn K cd37 "_law_begin" = true) (k37 : PySem.W.keepIn K (.ref f37) = true)
    (a38 : PySem.W.nsIn K mainGlobals "law" = some (some (.ref f38))) (l38 : K.lookup f38 = some ⟨oc38, od38, .func (PySem.W.fnOf "law" "law" (defArgs s_law) (defBody s_law) (defScope s_law) .none kV38 dc38 pm38 an38 cd38 ct38), sl38⟩) (c38 : PySem.W.codeIn K cd38 "law" = true) (k38 : PySem.W.keepIn K (.ref f38) = true)
    (z0 : PySem.W.nsIn K mainGlobals "len" = some none)
    (z1 : PySem.W.nsIn K mainGlobals "int" = some none)
    (z2 : PySem.W.nsIn K mainGlobals "abs" = some none)
    (z3 : PySem.W.nsIn K mainGlobals "sum" = some none)
    (z4 : PySem.W.nsIn K mainGlobals "min" = some none)
    (z5 : PySem.W.nsIn K mainGlobals "max" = some none)
    (z6 : PySem.W.nsIn K mainGlobals "all" = some none)
    (z7 : PySem.W.nsIn K mainGlobals "any" = some none)
    (z8 : PySem.W.nsIn K mainGlobals "list" = some none)
    (z9 : PySem.W.nsIn K mainGlobals "tuple" = some none)
    (z10 : PySem.W.nsIn K mainGlobals "sorted" = some none)
    (z11 : PySem.W.nsIn K mainGlobals "range" = some none)
    (z12 : PySem.W.nsIn K mainGlobals "isinstance" = some none)
    (z13 : PySem.W.nsIn K mainGlobals "zip" = some none)
    (z14 : PySem.W.nsIn K mainGlobals "enumerate" = some none)
    (z15 : PySem.W.nsIn K mainGlobals "str" = some none)
    (z16 : PySem.W.nsIn K mainGlobals "bool" = some none)
    (z17 : PySem.W.nsIn K mainGlobals "dict" = some none)
    (z18 : PySem.W.nsIn K mainGlobals "set" = some none)
    : ∃ fd : FuncData, (∀ (s : Shared) (v : Value), BindsTo s fd ⟨[v], []⟩ [("script", v)]) ∧ ∀ base : Heap, K.In base → base.Ns mainGlobals mg → FnOk l.prog w K mg base CX0 8 fa fd ["script"] (spLaw K) := by
  have e := hfa.symm.trans (PySem.W.mg_of X G a38)
  cases e
  have F0 := fun_mk (st := s_is_ascending) l0 c0 k0
  have F1 := fun_mk (st := s_touch) l1 c1 k1
  have F2 := fun_mk (st := s_without) l2 c2 k2
  have F3 := fun_mk (st := s_within_atom) l3 c3 k3
  have F4 := fun_mk (st := s_is_clique) l4 c4 k4
  have F5 := fun_mk (st := s_are_different) l5 c5 k5
  have F6 := fun_mk (st := s_is_ring) l6 c6 k6
  have F7 := fun_mk (st := s_judge_pattern) l7 c7 k7
  have F8 := fun_mk (st := s__law_draw) l8 c8 k8
  have F9 := fun_mk (st := s__law_pick) l9 c9 k9
  have F10 := fun_mk (st := s__law_pop) l10 c10 k10
  have F11 := fun_mk (st := s__law_rare) l11 c11 k11
  have F12 := fun_mk (st := s__law_shuffled) l12 c12 k12
  have F13 := fun_mk (st := s__law_some) l13 c13 k13
  have F14 := fun_mk (st := s__law_query) l14 c14 k14
  have F15 := fun_mk (st := s__law_renamed) l15 c15 k15
  have F16 := fun_mk (st := s__law_tree_query) l16 c16 k16
  have F17 := fun_mk (st := s__law_ring_query) l17 c17 k17
  have F18 := fun_mk (st := s__law_clique_query) l18 c18 k18
  have F19 := fun_mk (st := s__law_nested_query) l19 c19 k19
  have F20 := fun_mk (st := s__law_any_query) l20 c20 k20
  have F21 := fun_mk (st := s__law_shown) l21 c21 k21
  have F22 := fun_mk (st := s__law_touch) l22 c22 k22
  have F23 := fun_mk (st := s__law_knot) l23 c23 k23
  have F24 := fun_mk (st := s__law_woven) l24 c24 k24
  have F25 := fun_mk (st := s__law_world) l25 c25 k25
  have F26 := fun_mk (st := s__law_is_ring) l26 c26 k26
  have F27 := fun_mk (st := s__law_absent) l27 c27 k27
  have F28 := fun_mk (st := s__law_is_clique) l28 c28 k28
  have F29 := fun_mk (st := s__law_is_pattern) l29 c29 k29
  have F30 := fun_mk (st := s__law_rings) l30 c30 k30
  have F31 := fun_mk (st := s__law_patterns) l31 c31 k31
  have F32 := fun_mk (st := s__law_back) l32 c32 k32
  have F33 := fun_mk (st := s__law_told_form) l33 c33 k33
  have F34 := fun_mk (st := s__law_touching_way) l34 c34 k34
  have F35 := fun_mk (st := s__law_spoilt) l35 c35 k35
  have F36 := fun_mk (st := s__law_papers) l36 c36 k36
  have F37 := fun_mk (st := s__law_begin) l37 c37 k37
  have F38 := fun_mk (st := s_law) l38 c38 k38
  have b0 := F0.binds (ps := (["things"] : List Str)) fun _ _ _ _ _ _ us hl => match us, hl with | [_], _ => rfl
  have b1 := F1.binds (ps := (["query", "x", "y"] : List Str)) fun _ _ _ _ _ _ us hl => match us, hl with | [_, _, _], _ => rfl
  have b2 := F2.binds (ps := (["things", "thing"] : List Str)) fun _ _ _ _ _ _ us hl => match us, hl with | [_, _], _ => rfl
  have b3 := F3.binds (ps := (["query", "columns"] : List Str)) fun _ _ _ _ _ _ us hl => match us, hl with | [_, _], _ => rfl
  have b4 := F4.binds (ps := (["query", "columns"] : List Str)) fun _ _ _ _ _ _ us hl => match us, hl with | [_, _], _ => rfl
  have b5 := F5.binds (ps := (["columns", "query"] : List Str)) fun _ _ _ _ _ _ us hl => match us, hl with | [_, _], _ => rfl
  have b6 := F6.binds (ps := (["query", "columns"] : List Str)) fun _ _ _ _ _ _ us hl => match us, hl with | [_, _], _ => rfl
  have b7 := F7.binds (ps := (["query", "pattern"] : List Str)) fun _ _ _ _ _ _ us hl => match us, hl with | [_, _], _ => rfl
  have b8 := F8.binds (ps := (["d", "many"] : List Str)) fun _ _ _ _ _ _ us hl => match us, hl with | [_, _], _ => rfl
  have b9 := F9.binds (ps := (["d", "row"] : List Str)) fun _ _ _ _ _ _ us hl => match us, hl with | [_, _], _ => rfl
  have b10 := F10.binds (ps := (["d", "row"] : List Str)) fun _ _ _ _ _ _ us hl => match us, hl with | [_, _], _ => rfl
  have b11 := F11.binds (ps := (["d", "many"] : List Str)) fun _ _ _ _ _ _ us hl => match us, hl with | [_, _], _ => rfl
  have b12 := F12.binds (ps := (["d", "row"] : List Str)) fun _ _ _ _ _ _ us hl => match us, hl with | [_, _], _ => rfl
  have b13 := F13.binds (ps := (["d", "row"] : List Str)) fun _ _ _ _ _ _ us hl => match us, hl with | [_, _], _ => rfl
  have b14 := F14.binds (ps := (["d", "most_columns", "most_atoms", "widest"] : List Str)) fun _ _ _ _ _ _ us hl => match us, hl with | [_, _, _, _], _ => rfl
  have b15 := F15.binds (ps := (["d", "atoms", "many"] : List Str)) fun _ _ _ _ _ _ us hl => match us, hl with | [_, _, _], _ => rfl
  have b16 := F16.binds (ps := (["d", "most_columns", "most_atoms"] : List Str)) fun _ _ _ _ _ _ us hl => match us, hl with | [_, _, _], _ => rfl
  have b17 := F17.binds (ps := (["d", "size", "more"] : List Str)) fun _ _ _ _ _ _ us hl => match us, hl with | [_, _, _], _ => rfl
  have b18 := F18.binds (ps := (["d", "size", "more"] : List Str)) fun _ _ _ _ _ _ us hl => match us, hl with | [_, _, _], _ => rfl
  have b19 := F19.binds (ps := (["d", "most_columns"] : List Str)) fun _ _ _ _ _ _ us hl => match us, hl with | [_, _], _ => rfl
  have b20 := F20.binds (ps := (["d", "most_columns"] : List Str)) fun _ _ _ _ _ _ us hl => match us, hl with | [_, _], _ => rfl
  have b21 := F21.binds (ps := (["d", "query"] : List Str)) fun _ _ _ _ _ _ us hl => match us, hl with | [_, _], _ => rfl
  have b22 := F22.binds (ps := (["query", "x", "y"] : List Str)) fun _ _ _ _ _ _ us hl => match us, hl with | [_, _, _], _ => rfl
  have b23 := F23.binds (ps := (["d", "most"] : List Str)) fun _ _ _ _ _ _ us hl => match us, hl with | [_, _], _ => rfl
  have b24 := F24.binds (ps := (["d"] : List Str)) fun _ _ _ _ _ _ us hl => match us, hl with | [_], _ => rfl
  have b25 := F25.binds (ps := (["d"] : List Str)) fun _ _ _ _ _ _ us hl => match us, hl with | [_], _ => rfl
  have b26 := F26.binds (ps := (["query", "columns"] : List Str)) fun _ _ _ _ _ _ us hl => match us, hl with | [_, _], _ => rfl
  have b27 := F27.binds (ps := (["columns", "atom"] : List Str)) fun _ _ _ _ _ _ us hl => match us, hl with | [_, _], _ => rfl
  have b28 := F28.binds (ps := (["query", "columns"] : List Str)) fun _ _ _ _ _ _ us hl => match us, hl with | [_, _], _ => rfl
  have b29 := F29.binds (ps := (["query", "paper"] : List Str)) fun _ _ _ _ _ _ us hl => match us, hl with | [_, _], _ => rfl
  have b30 := F30.binds (ps := (["query"] : List Str)) fun _ _ _ _ _ _ us hl => match us, hl with | [_], _ => rfl
  have b31 := F31.binds (ps := (["query"] : List Str)) fun _ _ _ _ _ _ us hl => match us, hl with | [_], _ => rfl
  have b32 := F32.binds (ps := (["row"] : List Str)) fun _ _ _ _ _ _ us hl => match us, hl with | [_], _ => rfl
  have b33 := F33.binds (ps := (["columns"] : List Str)) fun _ _ _ _ _ _ us hl => match us, hl with | [_], _ => rfl
  have b34 := F34.binds (ps := (["d", "query"] : List Str)) fun _ _ _ _ _ _ us hl => match us, hl with | [_, _], _ => rfl
  have b35 := F35.binds (ps := (["d", "query", "paper"] : List Str)) fun _ _ _ _ _ _ us hl => match us, hl with | [_, _, _], _ => rfl
  have b36 := F36.binds (ps := (["d", "query"] : List Str)) fun _ _ _ _ _ _ us hl => match us, hl with | [_, _], _ => rfl
  have b37 := F37.binds (ps := (["script"] : List Str)) fun _ _ _ _ _ _ us hl => match us, hl with | [_], _ => rfl
  have M : Mg mg csK := by
    refine ⟨fun x hx => ?_, fun x d hd => ?_⟩
    · unfold bltNames at hx
      rcases List.mem_cons.mp hx with rfl | hx
      · exact PySem.W.mg_none_of X G z0
      rcases List.mem_cons.mp hx with rfl | hx
      · exact PySem.W.mg_none_of X G z1
      rcases List.mem_cons.mp hx with rfl | hx
      · exact PySem.W.mg_none_of X G z2
      rcases List.mem_cons.mp hx with rfl | hx
      · exact PySem.W.mg_none_of X G z3
      rcases List.mem_cons.mp hx with rfl | hx
      · exact PySem.W.mg_none_of X G z4
      rcases List.mem_cons.mp hx with rfl | hx
      · exact PySem.W.mg_none_of X G z5
      rcases List.mem_cons.mp hx with rfl | hx
      · exact PySem.W.mg_none_of X G z6
      rcases List.mem_cons.mp hx with rfl | hx
      · exact PySem.W.mg_none_of X G z7
      rcases List.mem_cons.mp hx with rfl | hx
      · exact PySem.W.mg_none_of X G z8
      rcases List.mem_cons.mp hx with rfl | hx
      · exact PySem.W.mg_none_of X G z9
      rcases List.mem_cons.mp hx with rfl | hx
      · exact PySem.W.mg_none_of X G z10
      rcases List.mem_cons.mp hx with rfl | hx
      · exact PySem.W.mg_none_of X G z11
      rcases List.mem_cons.mp hx with rfl | hx
      · exact PySem.W.mg_none_of X G z12
      rcases List.mem_cons.mp hx with rfl | hx
      · exact PySem.W.mg_none_of X G z13
      rcases List.mem_cons.mp hx with rfl | hx
      · exact PySem.W.mg_none_of X G z14
      rcases List.mem_cons.mp hx with rfl | hx
      · exact PySem.W.mg_none_of X G z15
      rcases List.mem_cons.mp hx with rfl | hx
      · exact PySem.W.mg_none_of X G z16
      rcases List.mem_cons.mp hx with rfl | hx
      · exact PySem.W.mg_none_of X G z17
      rcases List.mem_cons.mp hx with rfl | hx
      · exact PySem.W.mg_none_of X G z18
      exact absurd hx List.not_mem_nil
    · unfold csK at hd
      exact absurd hd List.not_mem_nil
  refine ⟨PySem.W.fnOf "law" "law" (defArgs s_law) (defBody s_law) (defScope s_law) .none kV38 dc38 pm38 an38 cd38 ct38, fun s v => .of_eq rfl, fun base _ _ => ?_⟩
  have K0 : Kn l.prog w K mg base 1 "is_ascending" spAsc := def_ok (N := N_is_ascending) (Γ := []) (np := 0) (n := 0) F0 (PySem.W.mg_of X G a0) b0 M sc_is_ascending ck_is_ascending (fun p hp => absurd hp List.not_mem_nil) fun _ _ _ h => rd_asc h
  have K1 : Kn l.prog w K mg base 1 "touch" spTch := def_ok (N := N_touch) (Γ := []) (np := 0) (n := 0) F1 (PySem.W.mg_of X G a1) b1 M sc_touch ck_touch (fun p hp => absurd hp List.not_mem_nil) fun _ _ _ h => rd_touch h
  have K2 : Kn l.prog w K mg base 1 "without" spWithout := def_ok (N := N_without) (Γ := []) (np := 0) (n := 0) F2 (PySem.W.mg_of X G a2) b2 M sc_without ck_without (fun p hp => absurd hp List.not_mem_nil) fun _ _ _ h => rd_without h
  have K3 : Kn l.prog w K mg base 1 "within_atom" spWi := def_ok (N := N_within_atom) (Γ := []) (np := 0) (n := 0) F3 (PySem.W.mg_of X G a3) b3 M sc_within_atom ck_within_atom (fun p hp => absurd hp List.not_mem_nil) fun _ _ _ h => rd_within h
  have K5 : Kn l.prog w K mg base 1 "are_different" spDif := def_ok (N := N_are_different) (Γ := []) (np := 0) (n := 0) F5 (PySem.W.mg_of X G a5) b5 M sc_are_different ck_are_different (fun p hp => absurd hp List.not_mem_nil) fun _ _ _ h => rd_dif h
  have K8 : Kn l.prog w K mg base 1 "_law_draw" spDraw := def_ok (N := N__law_draw) (Γ := []) (np := 1) (n := 0) F8 (PySem.W.mg_of X G a8) b8 M sc__law_draw ck__law_draw (fun p hp => absurd hp List.not_mem_nil) fun _ _ _ h => rd_draw h
  have K22 : Kn l.prog w K mg base 1 "_law_touch" spTch := def_ok (N := N__law_touch) (Γ := []) (np := 0) (n := 0) F22 (PySem.W.mg_of X G a22) b22 M sc__law_touch ck__law_touch (fun p hp => absurd hp List.not_mem_nil) fun _ _ _ h => rd_ltouch h
  have K27 : Kn l.prog w K mg base 1 "_law_absent" spAbsent := def_ok (N := N__law_absent) (Γ := []) (np := 0) (n := 0) F27 (PySem.W.mg_of X G a27) b27 M sc__law_absent ck__law_absent (fun p hp => absurd hp List.not_mem_nil) fun _ _ _ h => rd_absent h
  have K32 : Kn l.prog w K mg base 1 "_law_back" spBack := def_ok (N := N__law_back) (Γ := []) (np := 0) (n := 0) F32 (PySem.W.mg_of X G a32) b32 M sc__law_back ck__law_back (fun p hp => absurd hp List.not_mem_nil) fun _ _ _ h => rd_back h
  have K4 : Kn l.prog w K mg base 2 "is_clique" spClq := def_ok (N := N_is_clique) (Γ := [("within_atom", spWi), ("without", spWithout)]) (np := 0) (n := 0) F4 (PySem.W.mg_of X G a4) b4 M sc_is_clique ck_is_clique (List.forall_mem_cons.mpr ⟨K3.mono (by omega), List.forall_mem_cons.mpr ⟨K2.mono (by omega), fun p hp => absurd hp List.not_mem_nil⟩⟩) fun _ _ _ h => rd_clq h
  have K6 : Kn l.prog w K mg base 2 "is_ring" spRg := def_ok (N := N_is_ring) (Γ := [("are_different", spDif), ("touch", spTch)]) (np := 0) (n := 0) F6 (PySem.W.mg_of X G a6) b6 M sc_is_ring ck_is_ring (List.forall_mem_cons.mpr ⟨K5.mono (by omega), List.forall_mem_cons.mpr ⟨K1.mono (by omega), fun p hp => absurd hp List.not_mem_nil⟩⟩) fun _ _ _ h => rd_isring h
  have K9 : Kn l.prog w K mg base 2 "_law_pick" spPick := def_oks (N := N__law_pick) (Γ := [("_law_draw", spDraw)]) (n := 0) [1, 2] F9 (PySem.W.mg_of X G a9) b9 M sc__law_pick ck__law_pick (List.forall_mem_cons.mpr ⟨K8.mono (by omega), fun p hp => absurd hp List.not_mem_nil⟩) fun _ _ _ h => rd_pick h
  have K10 : Kn l.prog w K mg base 2 "_law_pop" spPop := def_ok (N := N__law_pop) (Γ := [("_law_draw", spDraw)]) (np := 2) (n := 0) F10 (PySem.W.mg_of X G a10) b10 M sc__law_pop ck__law_pop (List.forall_mem_cons.mpr ⟨K8.mono (by omega), fun p hp => absurd hp List.not_mem_nil⟩) fun _ _ _ h => rd_pop h
  have K11 : Kn l.prog w K mg base 2 "_law_rare" spRare := def_ok (N := N__law_rare) (Γ := [("_law_draw", spDraw)]) (np := 1) (n := 0) F11 (PySem.W.mg_of X G a11) b11 M sc__law_rare ck__law_rare (List.forall_mem_cons.mpr ⟨K8.mono (by omega), fun p hp => absurd hp List.not_mem_nil⟩) fun _ _ _ h => rd_rare h
  have K12 : Kn l.prog w K mg base 2 "_law_shuffled" spShuf := def_ok (N := N__law_shuffled) (Γ := [("_law_draw", spDraw)]) (np := 1) (n := 2) F12 (PySem.W.mg_of X G a12) b12 M sc__law_shuffled ck__law_shuffled (List.forall_mem_cons.mpr ⟨K8.mono (by omega), fun p hp => absurd hp List.not_mem_nil⟩) fun _ _ _ h => rd_shuf h
  have K13 : Kn l.prog w K mg base 2 "_law_some" spSome := def_ok (N := N__law_some) (Γ := [("_law_draw", spDraw)]) (np := 1) (n := 0) F13 (PySem.W.mg_of X G a13) b13 M sc__law_some ck__law_some (List.forall_mem_cons.mpr ⟨K8.mono (by omega), fun p hp => absurd hp List.not_mem_nil⟩) fun _ _ _ h => rd_some h
  have K26 : Kn l.prog w K mg base 2 "_law_is_ring" spRg := def_ok (N := N__law_is_ring) (Γ := [("_law_touch", spTch)]) (np := 0) (n := 0) F26 (PySem.W.mg_of X G a26) b26 M sc__law_is_ring ck__law_is_ring (List.forall_mem_cons.mpr ⟨K22.mono (by omega), fun p hp => absurd hp List.not_mem_nil⟩) fun _ _ _ h => rd_lring h
  have K28 : Kn l.prog w K mg base 2 "_law_is_clique" spLClq := def_ok (N := N__law_is_clique) (Γ := [("_law_absent", spAbsent)]) (np := 0) (n := 0) F28 (PySem.W.mg_of X G a28) b28 M sc__law_is_clique ck__law_is_clique (List.forall_mem_cons.mpr ⟨K27.mono (by omega), fun p hp => absurd hp List.not_mem_nil⟩) fun _ _ _ h => rd_lclq h
  have K30 : Kn l.prog w K mg base 2 "_law_rings" spRings := def_ok (N := N__law_rings) (Γ := [("_law_touch", spTch)]) (np := 0) (n := 2) F30 (PySem.W.mg_of X G a30) b30 M sc__law_rings ck__law_rings (List.forall_mem_cons.mpr ⟨K22.mono (by omega), fun p hp => absurd hp List.not_mem_nil⟩) fun _ _ _ h => rd_rings h
  have K33 : Kn l.prog w K mg base 2 "_law_told_form" spToldForm := def_ok (N := N__law_told_form) (Γ := [("_law_back", spBack)]) (np := 0) (n := 0) F33 (PySem.W.mg_of X G a33) b33 M sc__law_told_form ck__law_told_form (List.forall_mem_cons.mpr ⟨K32.mono (by omega), fun p hp => absurd hp List.not_mem_nil⟩) fun _ _ _ h => rd_toldform h
  have K7 : Kn l.prog w K mg base 3 "judge_pattern" spPat := def_ok (N := N_judge_pattern) (Γ := [("is_ring", spRg), ("are_different", spDif), ("is_ascending", spAsc), ("is_clique", spClq)]) (np := 0) (n := 0) F7 (PySem.W.mg_of X G a7) b7 M sc_judge_pattern ck_judge_pattern (List.forall_mem_cons.mpr ⟨K6.mono (by omega), List.forall_mem_cons.mpr ⟨K5.mono (by omega), List.forall_mem_cons.mpr ⟨K0.mono (by omega), List.forall_mem_cons.mpr ⟨K4.mono (by omega), fun p hp => absurd hp List.not_mem_nil⟩⟩⟩⟩) fun _ _ _ h => rd_pat h
  have K14 : Kn l.prog w K mg base 3 "_law_query" spQuery := def_ok (N := N__law_query) (Γ := [("_law_draw", spDraw), ("_law_pop", spPop)]) (np := 1) (n := 3) F14 (PySem.W.mg_of X G a14) b14 M sc__law_query ck__law_query (List.forall_mem_cons.mpr ⟨K8.mono (by omega), List.forall_mem_cons.mpr ⟨K10.mono (by omega), fun p hp => absurd hp List.not_mem_nil⟩⟩) fun _ _ _ h => rd_query h
  have K15 : Kn l.prog w K mg base 3 "_law_renamed" spRenamed := def_ok (N := N__law_renamed) (Γ := [("_law_shuffled", spShuf)]) (np := 1) (n := 0) F15 (PySem.W.mg_of X G a15) b15 M sc__law_renamed ck__law_renamed (List.forall_mem_cons.mpr ⟨K12.mono (by omega), fun p hp => absurd hp List.not_mem_nil⟩) fun _ _ _ h => rd_renamed h
  have K15v0 : Kn l.prog w K mg base 3 "_law_renamed" spRen2 := def_ok (N := N__law_renamed) (Γ := [("_law_shuffled", spShuf)]) (np := 1) (n := 0) F15 (PySem.W.mg_of X G a15) b15 M sc__law_renamed ck__law_renamed (List.forall_mem_cons.mpr ⟨K12.mono (by omega), fun p hp => absurd hp List.not_mem_nil⟩) fun _ _ _ h => rd_ren2 h
  have K21 : Kn l.prog w K mg base 3 "_law_shown" spShown := def_ok (N := N__law_shown) (Γ := [("_law_draw", spDraw), ("_law_some", spSome)]) (np := 1) (n := 0) F21 (PySem.W.mg_of X G a21) b21 M sc__law_shown ck__law_shown (List.forall_mem_cons.mpr ⟨K8.mono (by omega), List.forall_mem_cons.mpr ⟨K13.mono (by omega), fun p hp => absurd hp List.not_mem_nil⟩⟩) fun _ _ _ h => rd_shown h
  have K29 : Kn l.prog w K mg base 3 "_law_is_pattern" spPat := def_ok (N := N__law_is_pattern) (Γ := [("_law_is_ring", spRg), ("_law_is_clique", spLClq)]) (np := 0) (n := 0) F29 (PySem.W.mg_of X G a29) b29 M sc__law_is_pattern ck__law_is_pattern (List.forall_mem_cons.mpr ⟨K26.mono (by omega), List.forall_mem_cons.mpr ⟨K28.mono (by omega), fun p hp => absurd hp List.not_mem_nil⟩⟩) fun _ _ _ h => rd_lpat h
  have K31 : Kn l.prog w K mg base 3 "_law_patterns" spPatterns := def_ok (N := N__law_patterns) (Γ := [("_law_rings", spRings), ("_law_is_clique", spLClq)]) (np := 0) (n := 1) F31 (PySem.W.mg_of X G a31) b31 M sc__law_patterns ck__law_patterns (List.forall_mem_cons.mpr ⟨K30.mono (by omega), List.forall_mem_cons.mpr ⟨K28.mono (by omega), fun p hp => absurd hp List.not_mem_nil⟩⟩) fun _ _ _ h => rd_patterns h
  have K34 : Kn l.prog w K mg base 3 "_law_touching_way" spTouchWay := def_ok (N := N__law_touching_way) (Γ := [("_law_draw", spDraw), ("_law_touch", spTch), ("_law_pick", spPick)]) (np := 1) (n := 1) F34 (PySem.W.mg_of X G a34) b34 M sc__law_touching_way ck__law_touching_way (List.forall_mem_cons.mpr ⟨K8.mono (by omega), List.forall_mem_cons.mpr ⟨K22.mono (by omega), List.forall_mem_cons.mpr ⟨K9.mono (by omega), fun p hp => absurd hp List.not_mem_nil⟩⟩⟩) fun _ _ _ h => rd_touchway h
  have K35 : Kn l.prog w K mg base 3 "_law_spoilt" spSpoilt := def_ok (N := N__law_spoilt) (Γ := [("_law_draw", spDraw), ("_law_pick", spPick), ("_law_back", spBack)]) (np := 1) (n := 1) F35 (PySem.W.mg_of X G a35) b35 M sc__law_spoilt ck__law_spoilt (List.forall_mem_cons.mpr ⟨K8.mono (by omega), List.forall_mem_cons.mpr ⟨K9.mono (by omega), List.forall_mem_cons.mpr ⟨K32.mono (by omega), fun p hp => absurd hp List.not_mem_nil⟩⟩⟩) fun _ _ _ h => rd_spoilt h
  have K16 : Kn l.prog w K mg base 4 "_law_tree_query" spTree := def_ok (N := N__law_tree_query) (Γ := [("_law_draw", spDraw), ("_law_some", spSome), ("_law_pick", spPick), ("_law_renamed", spRenamed)]) (np := 1) (n := 2) F16 (PySem.W.mg_of X G a16) b16 M sc__law_tree_query ck__law_tree_query (List.forall_mem_cons.mpr ⟨K8.mono (by omega), List.forall_mem_cons.mpr ⟨K13.mono (by omega), List.forall_mem_cons.mpr ⟨K9.mono (by omega), List.forall_mem_cons.mpr ⟨K15.mono (by omega), fun p hp => absurd hp List.not_mem_nil⟩⟩⟩⟩) fun _ _ _ h => rd_tree h
  have K17 : Kn l.prog w K mg base 4 "_law_ring_query" spRing := def_ok (N := N__law_ring_query) (Γ := [("_law_draw", spDraw), ("_law_renamed", spRenamed)]) (np := 1) (n := 1) F17 (PySem.W.mg_of X G a17) b17 M sc__law_ring_query ck__law_ring_query (List.forall_mem_cons.mpr ⟨K8.mono (by omega), List.forall_mem_cons.mpr ⟨K15.mono (by omega), fun p hp => absurd hp List.not_mem_nil⟩⟩) fun _ _ _ h => rd_ring h
  have K17v0 : Kn l.prog w K mg base 4 "_law_ring_query" spRing2 := def_ok (N := N__law_ring_query) (Γ := [("_law_draw", spDraw), ("_law_renamed", spRen2)]) (np := 1) (n := 1) F17 (PySem.W.mg_of X G a17) b17 M sc__law_ring_query ck__law_ring_query (List.forall_mem_cons.mpr ⟨K8.mono (by omega), List.forall_mem_cons.mpr ⟨K15v0.mono (by omega), fun p hp => absurd hp List.not_mem_nil⟩⟩) fun _ _ _ h => rd_ring2 h
  have K18 : Kn l.prog w K mg base 4 "_law_clique_query" spClique := def_ok (N := N__law_clique_query) (Γ := [("_law_draw", spDraw), ("_law_renamed", spRenamed)]) (np := 1) (n := 1) F18 (PySem.W.mg_of X G a18) b18 M sc__law_clique_query ck__law_clique_query (List.forall_mem_cons.mpr ⟨K8.mono (by omega), List.forall_mem_cons.mpr ⟨K15.mono (by omega), fun p hp => absurd hp List.not_mem_nil⟩⟩) fun _ _ _ h => rd_clique h
  have K18v0 : Kn l.prog w K mg base 4 "_law_clique_query" spClq2 := def_ok (N := N__law_clique_query) (Γ := [("_law_draw", spDraw), ("_law_renamed", spRen2)]) (np := 1) (n := 1) F18 (PySem.W.mg_of X G a18) b18 M sc__law_clique_query ck__law_clique_query (List.forall_mem_cons.mpr ⟨K8.mono (by omega), List.forall_mem_cons.mpr ⟨K15v0.mono (by omega), fun p hp => absurd hp List.not_mem_nil⟩⟩) fun _ _ _ h => rd_clq2 h
  have K19 : Kn l.prog w K mg base 4 "_law_nested_query" spNested := def_ok (N := N__law_nested_query) (Γ := [("_law_draw", spDraw), ("_law_renamed", spRenamed)]) (np := 1) (n := 2) F19 (PySem.W.mg_of X G a19) b19 M sc__law_nested_query ck__law_nested_query (List.forall_mem_cons.mpr ⟨K8.mono (by omega), List.forall_mem_cons.mpr ⟨K15.mono (by omega), fun p hp => absurd hp List.not_mem_nil⟩⟩) fun _ _ _ h => rd_nested h
  have K36 : Kn l.prog w K mg base 4 "_law_papers" spPapers := def_ok (N := N__law_papers) (Γ := [("_law_patterns", spPatterns), ("_law_shuffled", spShuf), ("_law_draw", spDraw), ("_law_pick", spPick), ("_law_spoilt", spSpoilt), ("_law_touching_way", spTouchWay), ("_law_told_form", spToldForm)]) (np := 1) (n := 1) F36 (PySem.W.mg_of X G a36) b36 M sc__law_papers ck__law_papers (List.forall_mem_cons.mpr ⟨K31.mono (by omega), List.forall_mem_cons.mpr ⟨K12.mono (by omega), List.forall_mem_cons.mpr ⟨K8.mono (by omega), List.forall_mem_cons.mpr ⟨K9.mono (by omega), List.forall_mem_cons.mpr ⟨K35.mono (by omega), List.forall_mem_cons.mpr ⟨K34.mono (by omega), List.forall_mem_cons.mpr ⟨K33.mono (by omega), fun p hp => absurd hp List.not_mem_nil⟩⟩⟩⟩⟩⟩⟩) fun _ _ _ h => rd_papers h
  have K20 : Kn l.prog w K mg base 5 "_law_any_query" spAny := def_ok (N := N__law_any_query) (Γ := [("_law_draw", spDraw), ("_law_tree_query", spTree), ("_law_ring_query", spRing), ("_law_clique_query", spClique), ("_law_nested_query", spNested), ("_law_query", spQuery)]) (np := 1) (n := 0) F20 (PySem.W.mg_of X G a20) b20 M sc__law_any_query ck__law_any_query (List.forall_mem_cons.mpr ⟨K8.mono (by omega), List.forall_mem_cons.mpr ⟨K16.mono (by omega), List.forall_mem_cons.mpr ⟨K17.mono (by omega), List.forall_mem_cons.mpr ⟨K18.mono (by omega), List.forall_mem_cons.mpr ⟨K19.mono (by omega), List.forall_mem_cons.mpr ⟨K14.mono (by omega), fun p hp => absurd hp List.not_mem_nil⟩⟩⟩⟩⟩⟩) fun _ _ _ h => rd_any h
  have K23 : Kn l.prog w K mg base 5 "_law_knot" spKnot := def_ok (N := N__law_knot) (Γ := [("_law_draw", spDraw), ("_law_ring_query", spRing2), ("_law_clique_query", spClq2)]) (np := 1) (n := 0) F23 (PySem.W.mg_of X G a23) b23 M sc__law_knot ck__law_knot (List.forall_mem_cons.mpr ⟨K8.mono (by omega), List.forall_mem_cons.mpr ⟨K17v0.mono (by omega), List.forall_mem_cons.mpr ⟨K18v0.mono (by omega), fun p hp => absurd hp List.not_mem_nil⟩⟩⟩) fun _ _ _ h => rd_knot h
  have K24 : Kn l.prog w K mg base 6 "_law_woven" spWoven := def_ok (N := N__law_woven) (Γ := [("_law_rare", spRare), ("_law_knot", spKnot), ("_law_draw", spDraw), ("_law_some", spSome), ("_law_pick", spPick), ("_law_shown", spShown), ("_law_renamed", spRen2)]) (np := 1) (n := 2) F24 (PySem.W.mg_of X G a24) b24 M sc__law_woven ck__law_woven (List.forall_mem_cons.mpr ⟨K11.mono (by omega), List.forall_mem_cons.mpr ⟨K23.mono (by omega), List.forall_mem_cons.mpr ⟨K8.mono (by omega), List.forall_mem_cons.mpr ⟨K13.mono (by omega), List.forall_mem_cons.mpr ⟨K9.mono (by omega), List.forall_mem_cons.mpr ⟨K21.mono (by omega), List.forall_mem_cons.mpr ⟨K15v0.mono (by omega), fun p hp => absurd hp List.not_mem_nil⟩⟩⟩⟩⟩⟩⟩) fun _ _ _ h => rd_woven h
  have K25 : Kn l.prog w K mg base 7 "_law_world" spWorld := def_ok (N := N__law_world) (Γ := [("_law_draw", spDraw), ("_law_shown", spShown), ("_law_any_query", spAny), ("_law_woven", spWoven), ("_law_pick", spPick)]) (np := 1) (n := 1) F25 (PySem.W.mg_of X G a25) b25 M sc__law_world ck__law_world (List.forall_mem_cons.mpr ⟨K8.mono (by omega), List.forall_mem_cons.mpr ⟨K21.mono (by omega), List.forall_mem_cons.mpr ⟨K20.mono (by omega), List.forall_mem_cons.mpr ⟨K24.mono (by omega), List.forall_mem_cons.mpr ⟨K9.mono (by omega), fun p hp => absurd hp List.not_mem_nil⟩⟩⟩⟩⟩) fun _ _ _ h => rd_world h
  have B := beg_ok (P := l.prog) (w := w) (base := base) (k := 6) F37 sc_begin ck_begin (M.blt _ (by decide +kernel))
  exact law_ok (N := N_law) (Γ := [("_law_world", spWorld), ("_law_woven", spWoven), ("_law_papers", spPapers), ("judge_pattern", spPat), ("_law_is_pattern", spPat)]) F38 B (PySem.W.mg_of X G a37) F37.kp b37 M sc_law rfl ck_law (List.forall_mem_cons.mpr ⟨K25.mono (by omega), List.forall_mem_cons.mpr ⟨K24.mono (by omega), List.forall_mem_cons.mpr ⟨K36.mono (by omega), List.forall_mem_cons.mpr ⟨K7.mono (by omega), List.forall_mem_cons.mpr ⟨K29.mono (by omega), fun p hp => absurd hp List.not_mem_nil⟩⟩⟩⟩⟩) rd_law
end Pl
open PySem PySem.W PyProof.Rows
set_option maxHeartbeats 0 in
theorem PySem.Challenge.cw_tolledjoins_k56_patterns_judged_holds : PySem.Challenge.rw_tolledjoins_k56_patterns_judged.Holds := by
  w_on; o_law; k_head; (case hw => w_witness2)
  k_fill
  refine L2.walk_of (l := PySem.Challenge.rw_tolledjoins_k56_patterns_judged) (n := 63) (k := 8) (x := "script") (CX := fun _ => L2.CX0) (sp := fun w => Pl.spLaw _) rfl (by decide) rfl ⟨rfl, by decide, by decide⟩ (fun w h Y => PySem.W.kIn_of Y) ?F (fun _ _ a ns hl _ hS => ⟨a, ns, rfl, hS, hl, fun _ => rfl⟩) (fun _ _ _ _ _ h => h)
  case F =>
    intro w mg fa h KX G hmg
    refine' Pl.all_mk KX G hmg ?a0 ?l0 ?c0 ?k0 ?a1 ?l1 ?c1 ?k1 ?a2 ?l2 ?c2 ?k2 ?a3 ?l3 ?c3 ?k3 ?a4 ?l4 ?c4 ?k4 ?a5 ?l5 ?c5 ?k5 ?a6 ?l6 ?c6 ?k6 ?a7 ?l7 ?c7 ?k7 ?a8 ?l8 ?c8 ?k8 ?a9 ?l9 ?c9 ?k9 ?a10 ?l10 ?c10 ?k10 ?a11 ?l11 ?c11 ?k11 ?a12 ?l12 ?c12 ?k12 ?a13 ?l13 ?c13 ?k13 ?a14 ?l14 ?c14 ?k14 ?a15 ?l15 ?c15 ?k15 ?a16 ?l16 ?c16 ?k16 ?a17 ?l17 ?c17 ?k17 ?a18 ?l18 ?c18 ?k18 ?a19 ?l19 ?c19 ?k19 ?a20 ?l20 ?c20 ?k20 ?a21 ?l21 ?c21 ?k21 ?a22 ?l22 ?c22 ?k22 ?a23 ?l23 ?c23 ?k23 ?a24 ?l24 ?c24 ?k24 ?a25 ?l25 ?c25 ?k25 ?a26 ?l26 ?c26 ?k26 ?a27 ?l27 ?c27 ?k27 ?a28 ?l28 ?c28 ?k28 ?a29 ?l29 ?c29 ?k29 ?a30 ?l30 ?c30 ?k30 ?a31 ?l31 ?c31 ?k31 ?a32 ?l32 ?c32 ?k32 ?a33 ?l33 ?c33 ?k33 ?a34 ?l34 ?c34 ?k34 ?a35 ?l35 ?c35 ?k35 ?a36 ?l36 ?c36 ?k36 ?a37 ?l37 ?c37 ?k37 ?a38 ?l38 ?c38 ?k38 ?z0 ?z1 ?z2 ?z3 ?z4 ?z5 ?z6 ?z7 ?z8 ?z9 ?z10 ?z11 ?z12 ?z13 ?z14 ?z15 ?z16 ?z17 ?z18
    (case a0 => k_is); (case l0 => k_is); (case c0 => k_is); (case k0 => k_is); (case a1 => k_is); (case l1 => k_is); (case c1 => k_is); (case k1 => k_is); (case a2 => k_is); (case l2 => k_is); (case c2 => k_is); (case k2 => k_is); (case a3 => k_is); (case l3 => k_is); (case c3 => k_is); (case k3 => k_is); (case a4 => k_is); (case l4 => k_is); (case c4 => k_is); (case k4 => k_is); (case a5 => k_is); (case l5 => k_is); (case c5 => k_is); (case k5 => k_is); (case a6 => k_is); (case l6 => k_is); (case c6 => k_is); (case k6 => k_is); (case a7 => k_is); (case l7 => k_is); (case c7 => k_is); (case k7 => k_is); (case a8 => k_is); (case l8 => k_is); (case c8 => k_is); (case k8 => k_is); (case a9 => k_is); (case l9 => k_is); (case c9 => k_is); (case k9 => k_is); (case a10 => k_is); (case l10 => k_is); (case c10 => k_is); (case k10 => k_is); (case a11 => k_is); (case l11 => k_is); (case c11 => k_is); (case k11 => k_is); (case a12 => k_is); (case l12 => k_is); (case c12 => k_is); (case k12 => k_is); (case a13 => k_is); (case l13 => k_is); (case c13 => k_is); (case k13 => k_is); (case a14 => k_is); (case l14 => k_is); (case c14 => k_is); (case k14 => k_is); (case a15 => k_is); (case l15 => k_is); (case c15 => k_is); (case k15 => k_is); (case a16 => k_is); (case l16 => k_is); (case c16 => k_is); (case k16 => k_is); (case a17 => k_is); (case l17 => k_is); (case c17 => k_is); (case k17 => k_is); (case a18 => k_is); (case l18 => k_is); (case c18 => k_is); (case k18 => k_is); (case a19 => k_is); (case l19 => k_is); (case c19 => k_is); (case k19 => k_is); (case a20 => k_is); (case l20 => k_is); (case c20 => k_is); (case k20 => k_is); (case a21 => k_is); (case l21 => k_is); (case c21 => k_is); (case k21 => k_is); (case a22 => k_is); (case l22 => k_is); (case c22 => k_is); (case k22 => k_is); (case a23 => k_is); (case l23 => k_is); (case c23 => k_is); (case k23 => k_is); (case a24 => k_is); (case l24 => k_is); (case c24 => k_is); (case k24 => k_is); (case a25 => k_is); (case l25 => k_is); (case c25 => k_is); (case k25 => k_is); (case a26 => k_is); (case l26 => k_is); (case c26 => k_is); (case k26 => k_is); (case a27 => k_is); (case l27 => k_is); (case c27 => k_is); (case k27 => k_is); (case a28 => k_is); (case l28 => k_is); (case c28 => k_is); (case k28 => k_is); (case a29 => k_is); (case l29 => k_is); (case c29 => k_is); (case k29 => k_is); (case a30 => k_is); (case l30 => k_is); (case c30 => k_is); (case k30 => k_is); (case a31 => k_is); (case l31 => k_is); (case c31 => k_is); (case k31 => k_is); (case a32 => k_is); (case l32 => k_is); (case c32 => k_is); (case k32 => k_is); (case a33 => k_is); (case l33 => k_is); (case c33 => k_is); (case k33 => k_is); (case a34 => k_is); (case l34 => k_is); (case c34 => k_is); (case k34 => k_is); (case a35 => k_is); (case l35 => k_is); (case c35 => k_is); (case k35 => k_is); (case a36 => k_is); (case l36 => k_is); (case c36 => k_is); (case k36 => k_is); (case a37 => k_is); (case l37 => k_is); (case c37 => k_is); (case k37 => k_is); (case a38 => k_is); (case l38 => k_is); (case c38 => k_is); (case k38 => k_is); (case z0 => k_is); (case z1 => k_is); (case z2 => k_is); (case z3 => k_is); (case z4 => k_is); (case z5 => k_is); (case z6 => k_is); (case z7 => k_is); (case z8 => k_is); (case z9 => k_is); (case z10 => k_is); (case z11 => k_is); (case z12 => k_is); (case z13 => k_is); (case z14 => k_is); (case z15 => k_is); (case z16 => k_is); (case z17 => k_is); (case z18 => k_is)
