import PyProof.Rows.All
import Wide.All
import OpenK.AllK
import Wide.FinOn
import KE.DataEq
import KE.SortData
import HandS.ForMost
import HandS.Wide
import HandS.WideBits
import HandS.IsInst
import HandS.TupAny
import HandS.Strs
import HandS.Conv
import HandS.Zip
import KE.BitLaws
import PySem.Challenge.RW_tolledjoins_k16_set_functions
set_option Elab.async false
set_option linter.all false
set_option maxRecDepth 100000
set_option maxHeartbeats 4000000
set_option autoImplicit false
namespace Pl
open PySem PySem.Spec PyProof.Rows L2

abbrev D := PyData

/-! ## data in the abstract heap -/
mutual
inductive Rp (H : Hp) : V → D → Prop
  | non : Rp H .non .none
  | bl (b : Bool) : Rp H (.bl b) (.bool b)
  | int (i : Int) : Rp H (.int i) (.int i)
  | str (x : Str) : Rp H (.str x) (.str x)
  | lst {a : Addr} {xs : List V} {ds : List D} : Rd H a (.lst xs) → RpAll H xs ds → Rp H (.ref a) (.list ds)
  | tup {a : Addr} {o : Obj} {xs : List V} {ds : List D} : H a = some (.frz o (.tup xs)) → o.dict = none → RpAll H xs ds → Rp H (.ref a) (.tuple ds)
inductive RpAll (H : Hp) : List V → List D → Prop
  | nil : RpAll H [] []
  | cons {v : V} {vs : List V} {d : D} {ds : List D} : Rp H v d → RpAll H vs ds → RpAll H (v :: vs) (d :: ds)
end

/-- part of -/
def Sub (H H' : Hp) : Prop := ∀ a o, H a = some o → H' a = some o
theorem Sub.refl (H : Hp) : Sub H H := fun _ _ h => h
theorem Sub.trans {A B C : Hp} (h : Sub A B) (g : Sub B C) : Sub A C := fun a o e => g a o (h a o e)
theorem Sub.upd {H : Hp} {p : Addr} {o : HO} (h : H p = none) : Sub H (upd H p o) := fun a u e => by
  rw [upd_ne (ne_of_none e h)]; exact e
theorem Sub.rd {H H' : Hp} (h : Sub H H') {a : Addr} {u : HO} (r : Rd H a u) : Rd H' a u := by
  rcases r with r | ⟨o, r⟩
  · exact .inl (h _ _ r)
  · exact .inr ⟨o, h _ _ r⟩

mutual
theorem Rp.mono {H H' : Hp} (s : Sub H H') : ∀ (d : D) (v : V), Rp H v d → Rp H' v d
  | .none, _, h => by cases h; exact .non
  | .bool b, _, h => by cases h; exact .bl b
  | .int i, _, h => by cases h; exact .int i
  | .str x, _, h => by cases h; exact .str x
  | .list ds, _, h => by
    cases h with
    | lst h1 h2 => exact .lst (s.rd h1) (RpAll.mono s ds _ h2)
  | .tuple ds, _, h => by
    cases h with
    | tup h1 hd h2 => exact .tup (s _ _ h1) hd (RpAll.mono s ds _ h2)
  | .dict _, _, h => by cases h
theorem RpAll.mono {H H' : Hp} (s : Sub H H') : ∀ (ds : List D) (vs : List V), RpAll H vs ds → RpAll H' vs ds
  | [], _, h => by cases h; exact .nil
  | d :: ds, _, h => by
    cases h with
    | cons h1 h2 => exact .cons (Rp.mono s d _ h1) (RpAll.mono s ds _ h2)
end
mutual
theorem Rp.dp {K : PySem.W.Frag} {H : Hp} : ∀ (d : D) (v : V), Rp H v d → Dp K H v d
  | .none, _, h => by cases h; exact .non
  | .bool b, _, h => by cases h; exact .bl b
  | .int i, _, h => by cases h; exact .int i
  | .str x, _, h => by cases h; exact .str x
  | .list ds, _, h => by
    cases h with
    | lst h1 h2 => exact .lst (.inl h1) (RpAll.dp ds _ h2)
  | .tuple ds, _, h => by
    cases h with
    | tup h1 hd h2 => exact .tup (.inl (.inr ⟨_, h1⟩)) (RpAll.dp ds _ h2)
  | .dict _, _, h => by cases h
theorem RpAll.dp {K : PySem.W.Frag} {H : Hp} : ∀ (ds : List D) (vs : List V), RpAll H vs ds → DpAll K H vs ds
  | [], _, h => by cases h; exact .nil
  | d :: ds, _, h => by
    cases h with
    | cons h1 h2 => exact .cons (Rp.dp d _ h1) (RpAll.dp ds _ h2)
end
mutual
theorem Rp.plain {H : Hp} : ∀ (d : D) (v : V), Rp H v d → d.plain = true
  | .none, _, h => rfl
  | .bool b, _, h => rfl
  | .int i, _, h => rfl
  | .str x, _, h => rfl
  | .list ds, _, h => by
    cases h with
    | lst h1 h2 => rw [PyData.plain]; exact RpAll.plain ds _ h2
  | .tuple ds, _, h => by
    cases h with
    | tup h1 hd h2 => rw [PyData.plain]; exact RpAll.plain ds _ h2
  | .dict _, _, h => by cases h
theorem RpAll.plain {H : Hp} : ∀ (ds : List D) (vs : List V), RpAll H vs ds → PyData.plainAll ds = true
  | [], _, h => rfl
  | d :: ds, _, h => by
    cases h with
    | cons h1 h2 => rw [PyData.plainAll, Rp.plain d _ h1, RpAll.plain ds _ h2]; rfl
end
section
variable {H : Hp} {vs ws : List V} {ds es : List D}
theorem RpAll.length : ∀ {vs : List V} {ds : List D}, RpAll H vs ds → vs.length = ds.length
  | [], _, h => by cases h; rfl
  | _ :: vs, _, h => by
    cases h with
    | cons h1 h2 => rw [List.length_cons, List.length_cons, RpAll.length h2]
theorem RpAll.append : ∀ {vs : List V} {ds : List D}, RpAll H vs ds → RpAll H ws es → RpAll H (vs ++ ws) (ds ++ es)
  | [], _, h, g => by cases h; exact g
  | _ :: vs, _, h, g => by
    cases h with
    | cons h1 h2 => exact .cons h1 (RpAll.append h2 g)
theorem RpAll.get : ∀ {vs : List V} {ds : List D} {i : Nat} {d : D}, RpAll H vs ds → ds[i]? = some d → ∃ v, vs[i]? = some v ∧ Rp H v d
  | _, [], i, d, _, e => by simp at e
  | _, x :: ds, 0, d, h, e => by
    cases h with
    | cons h1 h2 => simp at e; subst e; exact ⟨_, rfl, h1⟩
  | _, x :: ds, i + 1, d, h, e => by
    cases h with
    | cons h1 h2 =>
      obtain ⟨v, a, b⟩ := RpAll.get (i := i) h2 (by simpa using e)
      exact ⟨v, by simpa using a, b⟩
theorem RpAll.getV : ∀ {vs : List V} {ds : List D} {i : Nat} {v : V}, RpAll H vs ds → vs[i]? = some v → ∃ d, ds[i]? = some d ∧ Rp H v d
  | [], _, i, d, _, e => by simp at e
  | x :: ds, _, 0, d, h, e => by
    cases h with
    | cons h1 h2 => simp at e; subst e; exact ⟨_, rfl, h1⟩
  | x :: ds, _, i + 1, d, h, e => by
    cases h with
    | cons h1 h2 =>
      obtain ⟨v, a, b⟩ := RpAll.getV (i := i) h2 (by simpa using e)
      exact ⟨v, by simpa using a, b⟩
theorem RpAll.set {v : V} {d : D} (r : Rp H v d) : ∀ {vs : List V} {ds : List D} (i : Nat), RpAll H vs ds → RpAll H (vs.set i v) (ds.set i d)
  | _, _, i, .nil => .nil
  | _, _, 0, .cons h1 h2 => .cons r h2
  | _, _, i + 1, .cons h1 h2 => .cons h1 (RpAll.set r i h2)
theorem RpAll.take : ∀ {vs : List V} {ds : List D} (n : Nat), RpAll H vs ds → RpAll H (vs.take n) (ds.take n)
  | _, _, 0, _ => .nil
  | _, _, _ + 1, .nil => .nil
  | _, _, n + 1, .cons r t => .cons r (RpAll.take n t)
theorem RpAll.drop : ∀ {vs : List V} {ds : List D} (n : Nat), RpAll H vs ds → RpAll H (vs.drop n) (ds.drop n)
  | _, _, 0, r => r
  | _, _, _ + 1, .nil => .nil
  | _, _, n + 1, .cons _ t => RpAll.drop n t
theorem RpAll.erase : ∀ {vs : List V} {ds : List D} (n : Nat), RpAll H vs ds → RpAll H (vs.eraseIdx n) (ds.eraseIdx n)
  | _, _, _, .nil => .nil
  | _, _, 0, .cons _ t => t
  | _, _, n + 1, .cons r t => .cons r (RpAll.erase n t)
theorem RpAll.rev : ∀ {vs : List V} {ds : List D}, RpAll H vs ds → RpAll H vs.reverse ds.reverse
  | _, _, .nil => .nil
  | _, _, .cons r t => by
    rw [List.reverse_cons, List.reverse_cons]
    exact (RpAll.rev t).append (.cons r .nil)
theorem RpAll.rep (r : RpAll H vs ds) : ∀ k : Nat, RpAll H (List.replicate k vs).flatten (List.replicate k ds).flatten
  | 0 => .nil
  | k + 1 => by
    rw [List.replicate_succ, List.replicate_succ, List.flatten_cons, List.flatten_cons]
    exact r.append (RpAll.rep r k)
theorem RpAll.mid : ∀ {vs1 : List V} {ds : List D}, RpAll H (vs1 ++ vs) ds → ∃ d1 d2, ds = d1 ++ d2 ∧ RpAll H vs1 d1 ∧ RpAll H vs d2
  | [], ds, h => ⟨[], ds, rfl, .nil, h⟩
  | v :: vs1, _, h => by
    cases h with
    | cons h1 h2 =>
      obtain ⟨d1, d2, rfl, a, b⟩ := RpAll.mid h2
      exact ⟨_ :: d1, d2, rfl, .cons h1 a, b⟩
end
theorem Rp.int_inv {H : Hp} {v : V} {i : Int} (h : Rp H v (.int i)) : v = .int i := by cases h; rfl
theorem Rp.str_inv {H : Hp} {v : V} {i : Str} (h : Rp H v (.str i)) : v = .str i := by cases h; rfl
theorem Rp.bl_inv {H : Hp} {v : V} {i : Bool} (h : Rp H v (.bool i)) : v = .bl i := by cases h; rfl
theorem Rp.non_inv {H : Hp} {v : V} (h : Rp H v .none) : v = .non := by cases h; rfl

/-! ## objects that may change -/
inductive Ob
  | lst (xs : List D)
  | dK (kvs : List (Key × D))
  | dT (kvs : List (List Key × D))
/-- values: data; a register's object; a new object that nothing else knows -/
inductive Vl
  | dat (d : D) | ptr (n : Nat) | fr (o : Ob)

abbrev Loc := List (Option (Addr × List Addr))
def cellsOf : Option (Addr × List Addr) → List Addr
  | none => []
  | some (a, ks) => a :: ks
def Loc.all (L : Loc) : List Addr := L.flatMap cellsOf

def RpKv {κ : Type} (Z : Hp) : List (κ × V) → List (κ × D) → Prop := Paired fun p q => p.1 = q.1 ∧ Rp Z p.2 q.2
def RepO (Z H : Hp) (a : Addr) (ks : List Addr) : Ob → Prop
  | .lst ds => ks = [] ∧ ∃ xs, H a = some (.lst xs) ∧ RpAll Z xs ds
  | .dK kvs => ks = [] ∧ ∃ kw, H a = some (.dK kw) ∧ RpKv Z kw kvs
  | .dT kvs => ks = [] ∧ ∃ kw, H a = some (.dT kw) ∧ RpKv Z kw kvs
theorem RpKv.mono {κ : Type} {Z Z' : Hp} (s : Sub Z Z') {a : List (κ × V)} {b : List (κ × D)} (h : RpKv Z a b) : RpKv Z' a b := Paired.mapP h fun _ _ q => ⟨q.1, Rp.mono s _ _ q.2⟩
theorem RepO.mono {Z Z' H H' : Hp} {a : Addr} {ks : List Addr} (s : Sub Z Z') (k : ∀ b ∈ a :: ks, H' b = H b) : ∀ {o : Ob}, RepO Z H a ks o → RepO Z' H' a ks o
  | .lst ds, ⟨e, xs, h1, h2⟩ => ⟨e, xs, by rw [k a List.mem_cons_self]; exact h1, RpAll.mono s _ _ h2⟩
  | .dK kvs, ⟨e, xs, h1, h2⟩ => ⟨e, xs, by rw [k a List.mem_cons_self]; exact h1, h2.mono s⟩
  | .dT kvs, ⟨e, xs, h1, h2⟩ => ⟨e, xs, by rw [k a List.mem_cons_self]; exact h1, h2.mono s⟩
theorem RepO.some {Z H : Hp} {a : Addr} {ks : List Addr} : ∀ {o : Ob}, RepO Z H a ks o → ∀ b ∈ a :: ks, ∃ u, H b = some u
  | .lst ds, ⟨e, xs, h1, h2⟩, b, hb => by subst e; rw [List.mem_singleton] at hb; subst hb; exact ⟨_, h1⟩
  | .dK ds, ⟨e, xs, h1, h2⟩, b, hb => by subst e; rw [List.mem_singleton] at hb; subst hb; exact ⟨_, h1⟩
  | .dT ds, ⟨e, xs, h1, h2⟩, b, hb => by subst e; rw [List.mem_singleton] at hb; subst hb; exact ⟨_, h1⟩
theorem RepO.nodup {Z H : Hp} {a : Addr} {ks : List Addr} : ∀ {o : Ob}, RepO Z H a ks o → (a :: ks).Nodup
  | .lst ds, ⟨e, _⟩ => by subst e; simp
  | .dK ds, ⟨e, _⟩ => by subst e; simp
  | .dT ds, ⟨e, _⟩ => by subst e; simp

/-- the ghost: what is others', what was frozen at the entry, the parameters' addresses -/
structure Gh where
  F0 : Hp
  Z0 : Hp
  A0 : Nat → Option Addr
abbrev Reg := List (Option Ob)

structure SI (G : Gh) (L : Loc) (Z : Hp) (η : Reg) (H : Hp) : Prop where
  a0 : ∀ (n : Nat) (a : Addr), G.A0 n = some a → ∃ ks, L[n]? = some (some (a, ks))
  z0 : Sub G.Z0 Z
  zh : Sub Z H
  fh : Sub G.F0 H
  zn : ∀ a o, Z a = some o → G.F0 a = none
  nd : L.all.Nodup
  ln : L.length = η.length
  ow : ∀ (n : Nat) (p : Addr × List Addr), L[n]? = some (some p) → (∀ b ∈ p.1 :: p.2, Z b = none ∧ G.F0 b = none) ∧ ∃ o, η[n]? = some (some o) ∧ RepO Z H p.1 p.2 o
  lv : ∀ (n : Nat) (o : Ob), η[n]? = some (some o) → ∃ p, L[n]? = some (some p)

theorem mem_all {L : Loc} {b : Addr} : b ∈ L.all ↔ ∃ (n : Nat) (p : Addr × List Addr), L[n]? = some (some p) ∧ b ∈ p.1 :: p.2 := by
  unfold Loc.all
  rw [List.mem_flatMap]
  constructor
  · rintro ⟨x, hx, hb⟩
    cases x with
    | none => cases hb
    | some p =>
      obtain ⟨n, hn⟩ := List.getElem?_of_mem hx
      exact ⟨n, p, hn, hb⟩
  · rintro ⟨n, p, h, hb⟩
    exact ⟨some p, List.mem_of_getElem? h, hb⟩
theorem all_nodup {L : Loc} : L.all.Nodup ↔ (∀ x ∈ L, (cellsOf x).Nodup) ∧ L.Pairwise fun x y => ∀ b ∈ cellsOf x, b ∉ cellsOf y := by
  unfold Loc.all List.Nodup
  rw [List.pairwise_flatMap]
  constructor
  · rintro ⟨a, b⟩
    exact ⟨a, b.imp fun h x hx hy => h x hx x hy rfl⟩
  · rintro ⟨a, b⟩
    exact ⟨a, b.imp fun h x hx y hy e => h x hx (by rw [e]; exact hy)⟩
section
variable {G : Gh} {L : Loc} {Z : Hp} {η : Reg} {H : Hp} {p : Addr} {o : HO}
theorem SI.own (S : SI G L Z η H) {b : Addr} (h : b ∈ L.all) : Z b = none ∧ G.F0 b = none ∧ ∃ u, H b = some u := by
  obtain ⟨n, p, h1, h2⟩ := mem_all.mp h
  obtain ⟨a, o, _, r⟩ := S.ow n p h1
  exact ⟨(a b h2).1, (a b h2).2, r.some b h2⟩
theorem SI.notown (S : SI G L Z η H) {b : Addr} (h : H b = none) : b ∉ L.all := fun q => by
  obtain ⟨_, _, u, e⟩ := S.own q
  rw [h] at e; cases e
/-- an object appears at p, or changes there, that neither is owned nor frozen nor others' -/
theorem SI.other (S : SI G L Z η H) (h1 : p ∉ L.all) (h2 : Z p = none) (h3 : G.F0 p = none) : SI G L Z η (upd H p o) := by
  refine ⟨S.a0, S.z0, fun a u e => ?_, fun a u e => ?_, S.zn, S.nd, S.ln, fun n q e => ?_, S.lv⟩
  · rw [upd_ne (fun z => by subst z; rw [h2] at e; cases e)]; exact S.zh a u e
  · rw [upd_ne (fun z => by subst z; rw [h3] at e; cases e)]; exact S.fh a u e
  · obtain ⟨a, o', hn, r⟩ := S.ow n q e
    exact ⟨a, o', hn, r.mono (Sub.refl _) fun b hb => upd_ne fun z => h1 (by rw [← z]; exact mem_all.mpr ⟨n, q, e, hb⟩)⟩
/-- such an object is frozen -/
theorem SI.freeze (S : SI G L Z η H) (h1 : p ∉ L.all) (h2 : Z p = none) (h3 : G.F0 p = none) (hp : H p = some o) : SI G L (upd Z p o) η H := by
  have sz : Sub Z (upd Z p o) := Sub.upd h2
  refine ⟨S.a0, S.z0.trans sz, fun a u e => ?_, S.fh, fun a u e => ?_, S.nd, S.ln, fun n q e => ?_, S.lv⟩
  · by_cases z : a = p
    · subst z; rw [upd_same] at e; cases e; exact hp
    · rw [upd_ne z] at e; exact S.zh a u e
  · by_cases z : a = p
    · subst z; exact h3
    · rw [upd_ne z] at e; exact S.zn a u e
  · obtain ⟨a, o', hn, r⟩ := S.ow n q e
    refine ⟨fun b hb => ⟨?_, (a b hb).2⟩, o', hn, r.mono sz fun _ _ => rfl⟩
    rw [upd_ne fun z => h1 (by rw [← z]; exact mem_all.mpr ⟨n, q, e, hb⟩)]
    exact (a b hb).1
theorem SI.fresh (S : SI G L Z η H) (h : H p = none) : p ∉ L.all ∧ Z p = none ∧ G.F0 p = none := by
  refine ⟨S.notown h, ?_, ?_⟩
  · cases e : Z p with
    | none => rfl
    | some u => have := S.zh p u e; rw [h] at this; cases this
  · cases e : G.F0 p with
    | none => rfl
    | some u => have := S.fh p u e; rw [h] at this; cases this
/-- a new frozen object -/
theorem SI.newZ (S : SI G L Z η H) (h : H p = none) : SI G L (upd Z p o) η (upd H p o) := by
  obtain ⟨a, b, c⟩ := S.fresh h
  exact (S.other a b c).freeze a b c upd_same
/-- a register's object changes -/
theorem SI.write {n : Nat} {a : Addr} {ks ks' : List Addr} {H' : Hp} {o' : Ob} (S : SI G L Z η H) (e : L[n]? = some (some (a, ks)))
    (hk : ∀ b, b ∉ a :: ks → ∀ u, H b = some u → H' b = some u) (hn : ∀ b ∈ ks', b ∈ ks ∨ H b = none) (r : RepO Z H' a ks' o') :
    SI G (L.set n (some (a, ks'))) Z (η.set n (some o')) H' := by
  have hlt : n < L.length := (List.getElem?_eq_some_iff.mp e).1
  have hown := (S.ow n _ e).1
  have hnew : ∀ b ∈ a :: ks', Z b = none ∧ G.F0 b = none ∧ (b ∈ a :: ks ∨ H b = none) := fun b hb => by
    rcases List.mem_cons.mp hb with rfl | hb
    · exact ⟨(hown b List.mem_cons_self).1, (hown b List.mem_cons_self).2, .inl List.mem_cons_self⟩
    · rcases hn b hb with q | q
      · exact ⟨(hown b (List.mem_cons_of_mem _ q)).1, (hown b (List.mem_cons_of_mem _ q)).2, .inl (List.mem_cons_of_mem _ q)⟩
      · obtain ⟨_, x, y⟩ := S.fresh q
        exact ⟨x, y, .inr q⟩
  have hother : ∀ (m : Nat) (p : Addr × List Addr), m ≠ n → L[m]? = some (some p) → ∀ b ∈ p.1 :: p.2, b ∉ a :: ks ∧ (∃ u, H b = some u) := by
    intro m p hm em b hb
    refine ⟨fun hb2 => ?_, ?_⟩
    · have nd := S.nd
      have pw := (all_nodup.mp nd).2
      have hlm : m < L.length := (List.getElem?_eq_some_iff.mp em).1
      rw [List.pairwise_iff_getElem] at pw
      have em' : L[m] = some p := (List.getElem?_eq_some_iff.mp em).2
      have en' : L[n] = some (a, ks) := (List.getElem?_eq_some_iff.mp e).2
      rcases Nat.lt_or_gt_of_ne hm with q | q
      · have := pw m n hlm hlt q
        rw [em', en'] at this
        exact this b hb hb2
      · have := pw n m hlt hlm q
        rw [em', en'] at this
        exact this b hb2 hb
    · obtain ⟨_, _, _, r⟩ := S.ow m p em
      exact r.some b hb
  have getm : ∀ (m : Nat) (q : Addr × List Addr), (L.set n (some (a, ks')))[m]? = some (some q) → (m = n ∧ q = (a, ks')) ∨ (m ≠ n ∧ L[m]? = some (some q)) := by
    intro m q em
    by_cases hm : n = m
    · subst hm
      rw [List.getElem?_set_self hlt] at em
      exact .inl ⟨rfl, by cases em; rfl⟩
    · rw [List.getElem?_set_ne hm] at em
      exact .inr ⟨fun z => hm z.symm, em⟩
  have hnth : η.length = L.length := S.ln.symm
  refine ⟨fun m c em => ?_, S.z0, fun b u eb => ?_, fun b u eb => ?_, S.zn, ?_, by rw [List.length_set, List.length_set]; exact S.ln, fun m q em => ?_, fun m u em => ?_⟩
  · obtain ⟨k0, e0⟩ := S.a0 m c em
    by_cases hm : n = m
    · subst hm
      rw [e] at e0
      cases e0
      exact ⟨ks', by rw [List.getElem?_set_self hlt]⟩
    · exact ⟨k0, by rw [List.getElem?_set_ne hm]; exact e0⟩
  · refine hk b (fun hb => ?_) u (S.zh b u eb)
    have := (hown b hb).1
    rw [eb] at this; cases this
  · refine hk b (fun hb => ?_) u (S.fh b u eb)
    have := (hown b hb).2
    rw [eb] at this; cases this
  · have nd := all_nodup.mp S.nd
    refine all_nodup.mpr ⟨fun x hx => ?_, ?_⟩
    · obtain ⟨m, em⟩ := List.getElem?_of_mem hx
      cases x with
      | none => exact List.nodup_nil
      | some q =>
        rcases getm m q em with ⟨_, rfl⟩ | ⟨_, em⟩
        · exact r.nodup
        · exact nd.1 _ (List.mem_of_getElem? em)
    · rw [List.pairwise_iff_getElem]
      have pw := nd.2
      rw [List.pairwise_iff_getElem] at pw
      intro i j hi hj hij b hb1 hb2
      rw [List.length_set] at hi hj
      have q1 : ∀ (k : Nat) (hk2 : k < L.length), b ∈ cellsOf ((L.set n (some (a, ks')))[k]'(by rw [List.length_set]; exact hk2)) → (k = n ∧ b ∈ a :: ks') ∨ (k ≠ n ∧ b ∈ cellsOf L[k]) := by
        intro k hk2 hb
        by_cases hkn : n = k
        · subst hkn
          rw [List.getElem_set_self] at hb
          exact .inl ⟨rfl, hb⟩
        · rw [List.getElem_set_ne hkn] at hb
          exact .inr ⟨fun z => hkn z.symm, hb⟩
      have hcase : ∀ k, k ≠ n → ∀ (hk2 : k < L.length), b ∈ cellsOf L[k] → b ∉ a :: ks' := by
        intro k hkn hk2 hb hb3
        cases hq : L[k] with
        | none => rw [hq] at hb; cases hb
        | some p =>
          rw [hq] at hb
          obtain ⟨z1, u, z2⟩ := hother k p hkn (by rw [List.getElem?_eq_getElem hk2, hq]) b hb
          rcases (hnew b hb3).2.2 with q | q
          · exact z1 q
          · rw [z2] at q; cases q
      rcases q1 i hi hb1 with ⟨a1, a2⟩ | ⟨a1, a2⟩
      · rcases q1 j hj hb2 with ⟨c1, c2⟩ | ⟨c1, c2⟩
        · omega
        · exact hcase j c1 hj c2 a2
      · rcases q1 j hj hb2 with ⟨c1, c2⟩ | ⟨c1, c2⟩
        · exact hcase i a1 hi a2 c2
        · exact pw i j hi hj hij b a2 c2
  · rcases getm m q em with ⟨rfl, rfl⟩ | ⟨hm, em⟩
    · exact ⟨fun b hb => ⟨(hnew b hb).1, (hnew b hb).2.1⟩, o', by rw [List.getElem?_set_self (by omega)], r⟩
    · obtain ⟨x, o2, y, z⟩ := S.ow m q em
      refine ⟨x, o2, by rw [List.getElem?_set_ne (fun q => hm q.symm)]; exact y, z.mono (Sub.refl _) fun b hb => ?_⟩
      obtain ⟨z1, u, z2⟩ := hother m q hm em b hb
      rw [z2]
      exact hk b z1 u z2
  · by_cases hm : n = m
    · subst hm
      exact ⟨_, List.getElem?_set_self hlt⟩
    · rw [List.getElem?_set_ne hm] at em ⊢
      exact S.lv m u em
end
end Pl

namespace Pl
open PySem PySem.Spec PyProof.Rows L2

section
variable {G : Gh} {L L' L2' : Loc} {Z Z' Z2 : Hp} {η : Reg} {H : Hp} {p : Addr} {o : HO}
/-- a new register's object -/
theorem SI.put {n : Nat} {ks : List Addr} {o' : Ob} (S : SI G L Z η H) (hn : n < L.length) (ha : G.A0 n = none)
    (r : RepO Z H p ks o') (hf : ∀ b ∈ p :: ks, Z b = none ∧ G.F0 b = none ∧ b ∉ L.all) : SI G (L.set n (some (p, ks))) Z (η.set n (some o')) H := by
  have getm : ∀ (m : Nat) (q : Addr × List Addr), (L.set n (some (p, ks)))[m]? = some (some q) → (m = n ∧ q = (p, ks)) ∨ (m ≠ n ∧ L[m]? = some (some q)) := by
    intro m q em
    by_cases hm : n = m
    · subst hm
      rw [List.getElem?_set_self hn] at em
      exact .inl ⟨rfl, by cases em; rfl⟩
    · rw [List.getElem?_set_ne hm] at em
      exact .inr ⟨fun z => hm z.symm, em⟩
  have hln := S.ln
  refine ⟨fun m c em => ?_, S.z0, S.zh, S.fh, S.zn, ?_, by rw [List.length_set, List.length_set]; exact S.ln, fun m q em => ?_, fun m u em => ?_⟩
  · obtain ⟨k0, e0⟩ := S.a0 m c em
    have : n ≠ m := fun z => by subst z; rw [ha] at em; cases em
    exact ⟨k0, by rw [List.getElem?_set_ne this]; exact e0⟩
  · have nd := all_nodup.mp S.nd
    refine all_nodup.mpr ⟨fun x hx => ?_, ?_⟩
    · obtain ⟨m, em⟩ := List.getElem?_of_mem hx
      cases x with
      | none => exact List.nodup_nil
      | some q =>
        rcases getm m q em with ⟨_, rfl⟩ | ⟨_, em⟩
        · exact r.nodup
        · exact nd.1 _ (List.mem_of_getElem? em)
    · rw [List.pairwise_iff_getElem]
      have pw := nd.2
      rw [List.pairwise_iff_getElem] at pw
      intro i j hi hj hij b hb1 hb2
      rw [List.length_set] at hi hj
      have q1 : ∀ (k : Nat) (hk2 : k < L.length), b ∈ cellsOf ((L.set n (some (p, ks)))[k]'(by rw [List.length_set]; exact hk2)) → (k = n ∧ b ∈ p :: ks) ∨ (k ≠ n ∧ b ∈ cellsOf L[k]) := by
        intro k hk2 hb
        by_cases hkn : n = k
        · subst hkn
          rw [List.getElem_set_self] at hb
          exact .inl ⟨rfl, hb⟩
        · rw [List.getElem_set_ne hkn] at hb
          exact .inr ⟨fun z => hkn z.symm, hb⟩
      have hcase : ∀ k, ∀ (hk2 : k < L.length), b ∈ cellsOf L[k] → b ∉ p :: ks := by
        intro k hk2 hb hb3
        refine (hf b hb3).2.2 ?_
        unfold Loc.all
        exact List.mem_flatMap.mpr ⟨_, List.getElem_mem hk2, hb⟩
      rcases q1 i hi hb1 with ⟨a1, a2⟩ | ⟨a1, a2⟩
      · rcases q1 j hj hb2 with ⟨c1, c2⟩ | ⟨c1, c2⟩
        · omega
        · exact hcase j hj c2 a2
      · rcases q1 j hj hb2 with ⟨c1, c2⟩ | ⟨c1, c2⟩
        · exact hcase i hi a2 c2
        · exact pw i j hi hj hij b a2 c2
  · rcases getm m q em with ⟨rfl, rfl⟩ | ⟨hm, em⟩
    · exact ⟨fun b hb => ⟨(hf b hb).1, (hf b hb).2.1⟩, o', by rw [List.getElem?_set_self (by omega)], r⟩
    · obtain ⟨x, o2, y, z⟩ := S.ow m q em
      exact ⟨x, o2, by rw [List.getElem?_set_ne (fun q => hm q.symm)]; exact y, z⟩
  · by_cases hm : n = m
    · subst hm
      exact ⟨_, List.getElem?_set_self hn⟩
    · rw [List.getElem?_set_ne hm] at em ⊢
      exact S.lv m u em
/-- a register is forgotten -/
theorem SI.drop {n : Nat} (S : SI G L Z η H) (ha : G.A0 n = none) : SI G (L.set n none) Z (η.set n none) H := by
  have getm : ∀ (m : Nat) (q : Addr × List Addr), (L.set n none)[m]? = some (some q) → m ≠ n ∧ L[m]? = some (some q) := by
    intro m q em
    by_cases hm : n = m
    · subst hm
      by_cases hn : n < L.length
      · rw [List.getElem?_set_self hn] at em; cases em
      · rw [List.getElem?_eq_none (by rw [List.length_set]; omega)] at em; cases em
    · rw [List.getElem?_set_ne hm] at em
      exact ⟨fun z => hm z.symm, em⟩
  refine ⟨fun m c em => ?_, S.z0, S.zh, S.fh, S.zn, ?_, by rw [List.length_set, List.length_set]; exact S.ln, fun m q em => ?_, fun m u em => ?_⟩
  · obtain ⟨k0, e0⟩ := S.a0 m c em
    have : n ≠ m := fun z => by subst z; rw [ha] at em; cases em
    exact ⟨k0, by rw [List.getElem?_set_ne this]; exact e0⟩
  · have nd := all_nodup.mp S.nd
    refine all_nodup.mpr ⟨fun x hx => ?_, ?_⟩
    · obtain ⟨m, em⟩ := List.getElem?_of_mem hx
      cases x with
      | none => exact List.nodup_nil
      | some q => exact nd.1 _ (List.mem_of_getElem? (getm m q em).2)
    · rw [List.pairwise_iff_getElem]
      have pw := nd.2
      rw [List.pairwise_iff_getElem] at pw
      intro i j hi hj hij b hb1 hb2
      rw [List.length_set] at hi hj
      have q1 : ∀ (k : Nat) (hk2 : k < L.length), b ∈ cellsOf ((L.set n none)[k]'(by rw [List.length_set]; exact hk2)) → b ∈ cellsOf L[k] := by
        intro k hk2 hb
        by_cases hkn : n = k
        · subst hkn
          rw [List.getElem_set_self] at hb
          cases hb
        · rw [List.getElem_set_ne hkn] at hb
          exact hb
      exact pw i j hi hj hij b (q1 i hi hb1) (q1 j hj hb2)
  · obtain ⟨hm, em⟩ := getm m q em
    obtain ⟨x, o2, y, z⟩ := S.ow m q em
    exact ⟨x, o2, by rw [List.getElem?_set_ne (fun q => hm q.symm)]; exact y, z⟩
  · by_cases hm : n = m
    · subst hm
      by_cases hn : n < η.length
      · rw [List.getElem?_set_self hn] at em; cases em
      · rw [List.getElem?_eq_none (by rw [List.length_set]; omega)] at em; cases em
    · rw [List.getElem?_set_ne hm] at em ⊢
      exact S.lv m u em

/-! ## values and slots -/
def RepV (G : Gh) (L : Loc) (Z H : Hp) (x : V) : Vl → Prop
  | .dat d => Rp Z x d
  | .ptr n => ∃ a ks, L[n]? = some (some (a, ks)) ∧ x = .ref a
  | .fr o => ∃ a ks, x = .ref a ∧ RepO Z H a ks o ∧ ∀ b ∈ a :: ks, Z b = none ∧ G.F0 b = none ∧ b ∉ L.all
def RepS (L : Loc) (Z : Hp) (x : Option V) : Option Vl → Prop
  | none => True
  | some (.dat d) => ∃ v, x = some v ∧ Rp Z v d
  | some (.ptr n) => ∃ a ks, L[n]? = some (some (a, ks)) ∧ x = some (.ref a)
  | some (.fr _) => False
abbrev Sl := List (Option Vl)
abbrev SV := L2.St
def SS (L : Loc) (Z : Hp) : SV → Sl → Prop := Paired (RepS L Z)
/-- later: more is frozen, registers keep their places -/
def Ext (L : Loc) (Z : Hp) (L' : Loc) (Z' : Hp) : Prop := Sub Z Z' ∧ ∀ (n : Nat) (a : Addr) (ks : List Addr), L[n]? = some (some (a, ks)) → ∃ ks', L'[n]? = some (some (a, ks'))
theorem Ext.refl : Ext L Z L Z := ⟨Sub.refl _, fun n a ks h => ⟨ks, h⟩⟩
theorem Ext.trans (a : Ext L Z L' Z') (b : Ext L' Z' L2' Z2) : Ext L Z L2' Z2 := ⟨a.1.trans b.1, fun n c ks h => by
  obtain ⟨ks', e⟩ := a.2 n c ks h
  exact b.2 n c ks' e⟩
theorem RepS.ext {x : Option V} {v : Option Vl} (e : Ext L Z L' Z') (h : RepS L Z x v) : RepS L' Z' x v := by
  cases v with
  | none => trivial
  | some v =>
    cases v with
    | dat d => obtain ⟨u, a, b⟩ := h; exact ⟨u, a, Rp.mono e.1 _ _ b⟩
    | ptr n => obtain ⟨a, ks, h1, h2⟩ := h; obtain ⟨ks', h3⟩ := e.2 n a ks h1; exact ⟨a, ks', h3, h2⟩
    | fr o => exact h
theorem SS.ext {σ : SV} {ρ : Sl} (e : Ext L Z L' Z') (h : SS L Z σ ρ) : SS L' Z' σ ρ := Paired.mapP h fun _ _ q => q.ext e
theorem SS.get : ∀ {σ : SV} {ρ : Sl} {i : Nat} {v : Option Vl}, SS L Z σ ρ → ρ[i]? = some v → ∃ x, σ[i]? = some x ∧ RepS L Z x v
  | _, _, _, _, .nil, e => by simp at e
  | _, _, 0, _, .cons r _, e => by simp at e; subst e; exact ⟨_, rfl, r⟩
  | _, _, i + 1, v, .cons _ t, e => by
    obtain ⟨u, h1, h2⟩ := SS.get (i := i) (v := v) t (by simpa using e)
    exact ⟨u, by simpa using h1, h2⟩
theorem SS.set {x : Option V} {v : Option Vl} (r : RepS L Z x v) : ∀ {σ : SV} {ρ : Sl} (i : Nat), SS L Z σ ρ → SS L Z (σ.set i x) (ρ.set i v)
  | _, _, _, .nil => .nil
  | _, _, 0, .cons _ t => .cons r t
  | _, _, i + 1, .cons q t => .cons q (SS.set r i t)
theorem SS.length {σ : SV} {ρ : Sl} (h : SS L Z σ ρ) : σ.length = ρ.length := Paired.length h

def Vl.fz : Vl → Vl
  | .fr (.lst ds) => .dat (.list ds)
  | v => v
def Vl.view : Vl → Reg → Option D
  | .dat d, _ => some d
  | .ptr n, η => match η[n]? with
    | some (some (.lst ds)) => some (.list ds)
    | _ => none
  | .fr _, _ => none
/-- what is read as data just now -/
def Vw (Z H : Hp) (x : V) : D → Prop
  | .list ds => ∃ a xs, x = .ref a ∧ Rd H a (.lst xs) ∧ RpAll Z xs ds
  | d => Rp Z x d
theorem Vw.of {x : V} {d : D} (s : Sub Z H) (r : Rp Z x d) : Vw Z H x d := by
  cases d with
  | list ds => cases r with
    | lst h1 h2 => exact ⟨_, _, rfl, s.rd h1, h2⟩
  | _ => exact r
theorem Vw.rp {x : V} {d : D} (s : Sub Z H) (r : Vw Z H x d) : Rp H x d := by
  cases d with
  | list ds =>
    obtain ⟨a, xs, rfl, h1, h2⟩ := r
    exact .lst h1 (RpAll.mono s _ _ h2)
  | _ => exact Rp.mono s _ _ r
theorem RepV.ext {H' : Hp} {x : V} {v : Vl} (e : Ext L Z L' Z') (h : RepV G L Z H x v) (hf : ∀ o, v ≠ .fr o) : RepV G L' Z' H' x v := by
  cases v with
  | dat d => exact Rp.mono e.1 _ _ h
  | ptr n =>
    obtain ⟨a, ks, h1, h2⟩ := h
    obtain ⟨ks', h3⟩ := e.2 n a ks h1
    exact ⟨a, ks', h3, h2⟩
  | fr o => exact absurd rfl (hf o)
theorem RepV.view {x : V} {v : Vl} {d : D} (S : SI G L Z η H) (h : RepV G L Z H x v) (e : v.view η = some d) : Vw Z H x d := by
  cases v with
  | dat d' => cases e; exact Vw.of S.zh h
  | ptr n =>
    obtain ⟨a, ks, h1, rfl⟩ := h
    obtain ⟨_, o, h2, h3⟩ := S.ow n _ h1
    unfold Vl.view at e
    simp only [h2] at e
    cases o with
    | lst ds =>
      cases e
      obtain ⟨_, xs, q1, q2⟩ := h3
      exact ⟨a, xs, rfl, .inl q1, q2⟩
    | dK kvs => cases e
    | dT kvs => cases e
  | fr o => cases e
/-- a new list that is not named is frozen -/
theorem settle {x : V} {v : Vl} (S : SI G L Z η H) (h : RepV G L Z H x v) : ∃ Z', SI G L Z' η H ∧ Ext L Z L Z' ∧ RepV G L Z' H x v.fz := by
  cases v with
  | dat d => exact ⟨Z, S, Ext.refl, h⟩
  | ptr n => exact ⟨Z, S, Ext.refl, h⟩
  | fr o =>
    cases o with
    | lst ds =>
      obtain ⟨a, ks, rfl, ⟨rfl, xs, h1, h2⟩, hf⟩ := h
      obtain ⟨z1, z2, z3⟩ := hf a List.mem_cons_self
      have sz : Sub Z (upd Z a (.lst xs)) := Sub.upd z1
      exact ⟨_, S.freeze z3 z1 z2 h1, ⟨sz, fun n a ks h => ⟨ks, h⟩⟩, .lst (.inl upd_same) (RpAll.mono sz _ _ h2)⟩
    | dK kvs => exact ⟨Z, S, Ext.refl, h⟩
    | dT kvs => exact ⟨Z, S, Ext.refl, h⟩
end

/-! ## the lifted readings -/
abbrev LTE := Sl → Reg → (Vl → Reg → Prop) → Prop
abbrev LTT := Sl → Reg → (Bool → Reg → Prop) → Prop
abbrev LTA := Sl → Reg → (List Vl → Reg → Prop) → Prop
def RepVs (G : Gh) (L : Loc) (Z H : Hp) : List V → List Vl → Prop := Paired fun x v => RepV G L Z H x v ∧ ∀ o, v ≠ .fr o

def liftE (G : Gh) (t : LTE) : TE := fun σ H Q => ∃ ρ L Z η Qp, SI G L Z η H ∧ SS L Z σ ρ ∧ t ρ η Qp ∧
  ∀ x v L' Z' η' H', SI G L' Z' η' H' → Ext L Z L' Z' → RepV G L' Z' H' x v → Qp v η' → Q x H'
def liftT (G : Gh) (t : LTT) : TT := fun σ H Q => ∃ ρ L Z η Qp, SI G L Z η H ∧ SS L Z σ ρ ∧ t ρ η Qp ∧
  ∀ b L' Z' η' H', SI G L' Z' η' H' → Ext L Z L' Z' → Qp b η' → Q b H'
def liftA (G : Gh) (t : LTA) : TA := fun σ H Q => ∃ ρ L Z η Qp, SI G L Z η H ∧ SS L Z σ ρ ∧ t ρ η Qp ∧
  ∀ xs vs L' Z' η' H', SI G L' Z' η' H' → Ext L Z L' Z' → RepVs G L' Z' H' xs vs → Qp vs η' → Q xs H'
structure LEnds where
  nx : Sl → Reg → Prop
  rt : Vl → Reg → Prop
  bk : Sl → Reg → Prop := fun _ _ => False
  ct : Sl → Reg → Prop := fun _ _ => False
abbrev LTS := LEnds → Sl → Reg → Prop
/-- the ends of a statement, as the layer below has them -/
structure EndsOk (G : Gh) (P : LEnds) (Q : Ends) : Prop where
  nx : ∀ σ H ρ L Z η, SI G L Z η H → SS L Z σ ρ → P.nx ρ η → Q.nx σ H
  rt : ∀ x v L Z η H, SI G L Z η H → RepV G L Z H x v → P.rt v η → Q.rt x H
  bk : ∀ σ H ρ L Z η, SI G L Z η H → SS L Z σ ρ → P.bk ρ η → Q.bk σ H
  ct : ∀ σ H ρ L Z η, SI G L Z η H → SS L Z σ ρ → P.ct ρ η → Q.ct σ H
def liftS (G : Gh) (t : LTS) : TS := fun Q σ H => ∃ ρ L Z η P, SI G L Z η H ∧ SS L Z σ ρ ∧ t P ρ η ∧ EndsOk G P Q

abbrev LE (X : Cx) (G : Gh) (e : Expr) (t : LTE) : Prop := PE X e (liftE G t)
abbrev LT (X : Cx) (G : Gh) (e : Expr) (t : LTT) : Prop := PT X e (liftT G t)
abbrev LA (X : Cx) (G : Gh) (es : List Expr) (t : LTA) : Prop := PA X es (liftA G t)
abbrev LS (X : Cx) (G : Gh) (st : Stmt) (t : LTS) : Prop := PS X st (liftS G t)
abbrev LSs (X : Cx) (G : Gh) (st : List Stmt) (t : LTS) : Prop := PSs X st (liftS G t)
theorem _root_.L2.PE.weak {X : Cx} {e : Expr} {t t' : TE} (h : PE X e t) (w : ∀ σ H Q, t' σ H Q → t σ H Q) : PE X e t' := ⟨fun pins s σ H Q I q => h.run pins s σ H Q I (w σ H Q q)⟩
theorem _root_.L2.PT.weak {X : Cx} {e : Expr} {t t' : TT} (h : PT X e t) (w : ∀ σ H Q, t' σ H Q → t σ H Q) : PT X e t' := ⟨fun pins s σ H Q I q => h.run pins s σ H Q I (w σ H Q q)⟩
theorem _root_.L2.PW.weak {X : Cx} {e : Expr} {t t' : TT} (h : PW X e t) (w : ∀ σ H Q, t' σ H Q → t σ H Q) : PW X e t' := ⟨fun whole pins s σ H Q I q => h.run whole pins s σ H Q I (w σ H Q q)⟩
theorem _root_.L2.PA.weak {X : Cx} {e : List Expr} {t t' : TA} (h : PA X e t) (w : ∀ σ H Q, t' σ H Q → t σ H Q) : PA X e t' := ⟨fun pos pins s σ H Q I q => h.run pos pins s σ H Q I (w σ H Q q)⟩
theorem _root_.L2.PS.weak {X : Cx} {e : Stmt} {t t' : TS} (h : PS X e t) (w : ∀ D σ H, t' D σ H → t D σ H) : PS X e t' := ⟨fun pins s σ H D I q => h.run pins s σ H D I (w D σ H q)⟩
theorem _root_.L2.PSs.weak {X : Cx} {e : List Stmt} {t t' : TS} (h : PSs X e t) (w : ∀ D σ H, t' D σ H → t D σ H) : PSs X e t' := ⟨fun pins s σ H D I q => h.run pins s σ H D I (w D σ H q)⟩

section
variable {G : Gh} {L : Loc} {Z : Hp} {η : Reg} {H : Hp} {σ : SV} {ρ : Sl}
/-- one part is evaluated, its value settled; go on -/
theorem step {ta : LTE} {R : V → Hp → Prop} {P : Vl → Reg → Prop} (S : SI G L Z η H) (s : SS L Z σ ρ) (t : ta ρ η fun v η1 => P v.fz η1)
    (k : ∀ x v L1 Z1 η1 H1, SI G L1 Z1 η1 H1 → SS L1 Z1 σ ρ → Ext L Z L1 Z1 → RepV G L1 Z1 H1 x v → P v η1 → R x H1) : liftE G ta σ H R := by
  refine ⟨ρ, L, Z, η, _, S, s, t, fun x v L' Z' η' H' S' E' r q => ?_⟩
  obtain ⟨Z2, S2, E2, r2⟩ := settle S' r
  have E3 := E'.trans E2
  exact k x _ L' Z2 η' H' S2 (s.ext E3) E3 r2 q
/-- .. unsettled -/
theorem step' {ta : LTE} {R : V → Hp → Prop} {P : Vl → Reg → Prop} (S : SI G L Z η H) (s : SS L Z σ ρ) (t : ta ρ η P)
    (k : ∀ x v L1 Z1 η1 H1, SI G L1 Z1 η1 H1 → SS L1 Z1 σ ρ → Ext L Z L1 Z1 → RepV G L1 Z1 H1 x v → P v η1 → R x H1) : liftE G ta σ H R :=
  ⟨ρ, L, Z, η, _, S, s, t, fun x v L' Z' η' H' S' E' r q => k x v L' Z' η' H' S' (s.ext E') E' r q⟩
theorem stepT {ta : LTT} {R : Bool → Hp → Prop} {P : Bool → Reg → Prop} (S : SI G L Z η H) (s : SS L Z σ ρ) (t : ta ρ η P)
    (k : ∀ b L1 Z1 η1 H1, SI G L1 Z1 η1 H1 → SS L1 Z1 σ ρ → Ext L Z L1 Z1 → P b η1 → R b H1) : liftT G ta σ H R :=
  ⟨ρ, L, Z, η, _, S, s, t, fun b L' Z' η' H' S' E' q => k b L' Z' η' H' S' (s.ext E') E' q⟩
theorem stepA {ta : LTA} {R : List V → Hp → Prop} {P : List Vl → Reg → Prop} (S : SI G L Z η H) (s : SS L Z σ ρ) (t : ta ρ η P)
    (k : ∀ xs vs L1 Z1 η1 H1, SI G L1 Z1 η1 H1 → SS L1 Z1 σ ρ → Ext L Z L1 Z1 → RepVs G L1 Z1 H1 xs vs → P vs η1 → R xs H1) : liftA G ta σ H R :=
  ⟨ρ, L, Z, η, _, S, s, t, fun b vs L' Z' η' H' S' E' r q => k b vs L' Z' η' H' S' (s.ext E') E' r q⟩
theorem stepS {t : LTS} {P : LEnds} {Q : Ends} (S : SI G L Z η H) (s : SS L Z σ ρ) (h : t P ρ η) (e : EndsOk G P Q) : liftS G t Q σ H := ⟨ρ, L, Z, η, P, S, s, h, e⟩
end
end Pl

namespace Pl
open PySem PySem.Spec PyProof.Rows L2

/-! ## the terms -/
inductive Bop | add | sub | mul | fdiv | mod | pow | band | bor | bxor | shl | shr
  deriving DecidableEq
inductive Cop | eq | ne | lt | le | gt | ge | isin | notin | isnone | notnone
  deriving DecidableEq
/-- built-ins called by name -/
inductive Bi | len | int | abs | sum | min1 | max1 | min2 | max2 | all | any | list | tuple | sorted | rlist1 | rlist2 | rtup1 | rtup2 | isi (T : String)
  deriving DecidableEq
/-- methods of built-in types -/
inductive Mt | append | pop | popAt | extend | index | split | bitlen
  deriving DecidableEq
inductive Tg | one (i : Nat) | many (is : List Nat)
mutual
inductive E
  | var (i : Nat)
  | lit (d : D)
  | con (x : Str) (d : D)
  | bop (o : Bop) (a b : E)
  | neg (a : E)
  | cmp (o : Cop) (a b : E)
  | chn (o p : Cop) (a b c : E)
  | and (a : E) (es : Es)
  | or (a : E) (es : Es)
  | not (a : E)
  | ite (c a b : E)
  | tup (es : Es)
  | lst (es : Es)
  | idx (a b : E)
  | sli (a : E) (lo hi : Eo)
  | call (f : Nat) (es : Es)
  | bi (b : Bi) (es : Es)
  | met (m : Mt) (a : E) (es : Es)
  | lc (tg : Tg) (own : List Nat) (s : Src) (c : Eo) (e : E)
inductive Es
  | nil | cons (e : E) (es : Es)
inductive Eo
  | no | so (e : E)
inductive Src
  | seq (e : E) | rng1 (a : E) | rng2 (a b : E) | zip (a b : E) | enum (a : E)
end

/-! ## the meaning -/
abbrev PSpec := List Vl → List Ob → (Vl → List Ob → Prop) → Prop
abbrev Env := List (Str × PSpec)
def Vl.settled : Vl → Prop
  | .fr _ => False
  | _ => True
def Vl.onD : Vl → (D → Prop) → Prop
  | .dat d, Q => Q d
  | _, _ => False
def onView (v : Vl) (η : Reg) (Q : D → Prop) : Prop := match v.view η with
  | some d => Q d
  | none => False
def MulOk (i j : Int) : Prop := (-(2 ^ 64) < i ∧ i < 2 ^ 64) ∨ (-(2 ^ 64) < j ∧ j < 2 ^ 64) ∨ IntMulOk i j
def DivOk (i j : Int) : Prop := j < 1073741824 ∨ Builtin.divisionGoesByPylong i j = false
def ShOk (i j : Int) : Prop := 0 ≤ j ∧ ((j ≤ 1000000 ∧ i.natAbs < 2 ^ 64) ∨ (Builtin.Int.intBits i : Int) + j ≤ 2 ^ 27)
def bopD : Bop → D → D → (Vl → Prop) → Prop
  | .add, .int i, .int j, Q => Q (.dat (.int (i + j)))
  | .add, .str x, .str y, Q => x.length + y.length ≤ sizeLine ∧ Q (.dat (.str (x ++ y)))
  | .add, .tuple xs, .tuple ys, Q => xs.length + ys.length ≤ sizeLine ∧ Q (.dat (.tuple (xs ++ ys)))
  | .add, .list xs, .list ys, Q => xs.length + ys.length ≤ sizeLine ∧ Q (.fr (.lst (xs ++ ys)))
  | .sub, .int i, .int j, Q => Q (.dat (.int (i - j)))
  | .mul, .int i, .int j, Q => MulOk i j ∧ Q (.dat (.int (i * j)))
  | .mul, .list xs, .int k, Q => (-(2 ^ 63) ≤ k ∧ k < 2 ^ 63 ∧ xs.length * k.toNat ≤ sizeLine) ∧ Q (.fr (.lst (List.replicate k.toNat xs).flatten))
  | .fdiv, .int i, .int j, Q => (0 < j ∧ DivOk i j) ∧ Q (.dat (.int (i / j)))
  | .mod, .int i, .int j, Q => 0 < j ∧ Q (.dat (.int (i % j)))
  | .pow, .int i, .int j, Q => (0 ≤ j ∧ j ≤ 1000000 ∧ i.natAbs < 2 ^ 64) ∧ Q (.dat (.int (i ^ j.toNat)))
  | .band, .int i, .int j, Q => Q (.dat (.int (Builtin.bitAnd i j)))
  | .bor, .int i, .int j, Q => Q (.dat (.int (Builtin.bitOr i j)))
  | .bxor, .int i, .int j, Q => Q (.dat (.int (Builtin.bitXor i j)))
  | .shl, .int i, .int j, Q => ShOk i j ∧ Q (.dat (.int (i * 2 ^ j.toNat)))
  | .shr, .int i, .int j, Q => 0 ≤ j ∧ Q (.dat (.int (i / 2 ^ j.toNat)))
  | _, _, _, _ => False
def isNone : D → Bool
  | .none => true
  | _ => false
def intsOf (xs : List D) (Q : List Int → Prop) : Prop := ∃ ns : List Int, xs = ns.map PyData.int ∧ Q ns
def cmpD : Cop → D → D → (Bool → Prop) → Prop
  | .eq, x, y, Q => (x.depth ≤ 60 ∨ y.depth ≤ 60) ∧ Q (PyData.eqv x y)
  | .ne, x, y, Q => (x.depth ≤ 60 ∨ y.depth ≤ 60) ∧ Q (!PyData.eqv x y)
  | .lt, .int i, .int j, Q => Q (decide (i < j))
  | .le, .int i, .int j, Q => Q (decide (i ≤ j))
  | .gt, .int i, .int j, Q => Q (decide (j < i))
  | .ge, .int i, .int j, Q => Q (decide (j ≤ i))
  | .lt, .str i, .str j, Q => Q (decide (i.cps.toList < j.cps.toList))
  | .isin, .str x, .str z, Q => ∃ c : Nat, x = ⟨#[c]⟩ ∧ Q (decide (c ∈ z.cps.toList))
  | .isin, x, .list ys, Q => (PyData.depthAll ys ≤ 60 ∨ x.depth ≤ 60) ∧ Q (ys.any fun y => PyData.eqv y x)
  | .isin, x, .tuple ys, Q => (PyData.depthAll ys ≤ 60 ∨ x.depth ≤ 60) ∧ Q (ys.any fun y => PyData.eqv y x)
  | .notin, .str x, .str z, Q => ∃ c : Nat, x = ⟨#[c]⟩ ∧ Q (!decide (c ∈ z.cps.toList))
  | .notin, x, .list ys, Q => (PyData.depthAll ys ≤ 60 ∨ x.depth ≤ 60) ∧ Q (!ys.any fun y => PyData.eqv y x)
  | .notin, x, .tuple ys, Q => (PyData.depthAll ys ≤ 60 ∨ x.depth ≤ 60) ∧ Q (!ys.any fun y => PyData.eqv y x)
  | .isnone, x, .none, Q => Q (isNone x)
  | .notnone, x, .none, Q => Q (!isNone x)
  | _, _, _, _ => False
def idxD : D → D → (D → Prop) → Prop
  | .list xs, .int i, Q => ∃ d, atI xs i = some d ∧ Q d
  | .tuple xs, .int i, Q => ∃ d, atI xs i = some d ∧ Q d
  | .str z, .int i, Q => z.length ≤ sizeLine ∧ ∃ c, atI z.cps.toList i = some c ∧ Q (.str ⟨#[c]⟩)
  | _, _, _ => False
def cutL {α : Type} (xs : List α) (lo hi : Option Int) : List α := (xs.drop (HT.sIx xs.length 0 lo)).take (HT.sIx xs.length xs.length hi - HT.sIx xs.length 0 lo)
def sliD : D → Option Int → Option Int → (Vl → Prop) → Prop
  | .list xs, lo, hi, Q => Q (.fr (.lst (cutL xs lo hi)))
  | .tuple xs, lo, hi, Q => Q (.dat (.tuple (cutL xs lo hi)))
  | .str z, lo, hi, Q => z.length ≤ sizeLine ∧ Q (.dat (.str (cutS z lo hi)))
  | _, _, _, _ => False
def chars (s : Str) : List D := s.cps.toList.map fun c => .str ⟨#[c]⟩
def rangeD (lo : Int) (n : Nat) : List D := (List.range n).map fun k => .int (lo + (k : Nat))
/-- the type's name of data -/
def tyD : D → String
  | .none => "NoneType" | .bool _ => "bool" | .int _ => "int" | .str _ => "str" | .list _ => "list" | .tuple _ => "tuple" | .dict _ => "dict"
def tyV' : Vl → Reg → Option String
  | .dat d, _ => some (tyD d)
  | .ptr n, η => match η[n]? with
    | some (some (.lst _)) => some "list"
    | some (some _) => some "dict"
    | _ => none
  | .fr _, _ => none
def lenOf (v : Vl) (η : Reg) (Q : Nat → Prop) : Prop := onView v η fun
  | .list xs => Q xs.length
  | .tuple xs => Q xs.length
  | .str s => s.length ≤ sizeLine ∧ Q s.length
  | _ => False
def biW : Bi → List Vl → Reg → (Vl → Prop) → Prop
  | .len, [v], η, Q => lenOf v η fun n => Q (.dat (.int n))
  | .int, [.dat (.int i)], _, Q => Q (.dat (.int i))
  | .int, [.dat (.bool b)], _, Q => Q (.dat (.int (if b then 1 else 0)))
  | .abs, [.dat (.int i)], _, Q => Q (.dat (.int (if i < 0 then -i else i)))
  | .min2, [.dat (.int i), .dat (.int j)], _, Q => Q (.dat (.int (if j < i then j else i)))
  | .max2, [.dat (.int i), .dat (.int j)], _, Q => Q (.dat (.int (if j > i then j else i)))
  | .sum, [v], η, Q => onView v η fun
    | .list xs => intsOf xs fun ns => Q (.dat (.int ns.sum))
    | _ => False
  | .min1, [v], η, Q => onView v η fun
    | .list xs => intsOf xs fun ns => 0 < ns.length ∧ ∀ m ∈ ns, (∀ y ∈ ns, m ≤ y) → Q (.dat (.int m))
    | _ => False
  | .max1, [v], η, Q => onView v η fun
    | .list xs => intsOf xs fun ns => 0 < ns.length ∧ ∀ m ∈ ns, (∀ y ∈ ns, y ≤ m) → Q (.dat (.int m))
    | _ => False
  | .all, [v], η, Q => onView v η fun
    | .list xs => ∃ bs : List Bool, xs = bs.map PyData.bool ∧ Q (.dat (.bool (bs.all id)))
    | _ => False
  | .any, [v], η, Q => onView v η fun
    | .list xs => ∃ bs : List Bool, xs = bs.map PyData.bool ∧ Q (.dat (.bool (bs.any id)))
    | _ => False
  | .list, [v], η, Q => onView v η fun
    | .list xs => Q (.fr (.lst xs))
    | .tuple xs => Q (.fr (.lst xs))
    | _ => False
  | .tuple, [v], η, Q => onView v η fun
    | .list xs => Q (.dat (.tuple xs))
    | .tuple xs => Q (.dat (.tuple xs))
    | _ => False
  | .rlist1, [.dat (.int j)], _, Q => RgOk 0 j ∧ Q (.fr (.lst (rangeD 0 j.toNat)))
  | .rlist2, [.dat (.int i), .dat (.int j)], _, Q => RgOk i j ∧ Q (.fr (.lst (rangeD i (j - i).toNat)))
  | .rtup1, [.dat (.int j)], _, Q => RgOk 0 j ∧ Q (.dat (.tuple (rangeD 0 j.toNat)))
  | .rtup2, [.dat (.int i), .dat (.int j)], _, Q => RgOk i j ∧ Q (.dat (.tuple (rangeD i (j - i).toNat)))
  | .sorted, [v], η, Q => onView v η fun
    | .list xs => (PySem.W.AllAlike xs ∧ PySem.W.Sortable xs ∧ ∀ d ∈ xs, d.depth ≤ 50) ∧ Q (.fr (.lst (xs.mergeSort (PySem.W.dataLe false id))))
    | _ => False
  | .isi T, [v], η, Q => ∃ t b, tyV' v η = some t ∧ kitB t T = some b ∧ Q (.dat (.bool b))
  | _, _, _, _ => False
/-- the first place of an item -/
def firstAt (ds : List D) (d : D) (Q : Nat → Prop) : Prop := (PyData.depthAll ds ≤ 60 ∨ d.depth ≤ 60) ∧ ∃ (j : Nat) (z : D), ds[j]? = some z ∧ PyData.eqv z d = true ∧ (∀ (m : Nat) (y : D), m < j → ds[m]? = some y → PyData.eqv y d = false) ∧ Q j
def mtTy : Mt → Option String → Bool
  | .append, some "list" => true
  | .pop, some "list" => true
  | .popAt, some "list" => true
  | .extend, some "list" => true
  | .index, some "list" => true
  | .index, some "tuple" => true
  | .split, some "str" => true
  | .bitlen, some "int" => true
  | _, _ => false
def metW : Mt → Vl → List Vl → Reg → (Vl → Reg → Prop) → Prop
  | .append, .ptr n, [v], η, Q => match η[n]? with
    | some (some (.lst xs)) => xs.length < sizeLine ∧ v.onD fun d => Q (.dat .none) (η.set n (some (.lst (xs ++ [d]))))
    | _ => False
  | .pop, .ptr n, [], η, Q => match η[n]? with
    | some (some (.lst xs)) => ∃ d, xs[xs.length - 1]? = some d ∧ Q (.dat d) (η.set n (some (.lst xs.dropLast)))
    | _ => False
  | .popAt, .ptr n, [.dat (.int i)], η, Q => match η[n]? with
    | some (some (.lst xs)) => ∃ d, (0 ≤ i ∧ i < 2 ^ 63) ∧ xs[i.toNat]? = some d ∧ Q (.dat d) (η.set n (some (.lst (xs.eraseIdx i.toNat))))
    | _ => False
  | .extend, .ptr n, [v], η, Q => match η[n]? with
    | some (some (.lst xs)) => onView v η fun
      | .list ys => xs.length + ys.length ≤ sizeLine ∧ Q (.dat .none) (η.set n (some (.lst (xs ++ ys))))
      | _ => False
    | _ => False
  | .index, v, [.dat d], η, Q => onView v η fun
    | .list ds => firstAt ds d fun j => Q (.dat (.int (j : Nat))) η
    | .tuple ds => firstAt ds d fun j => Q (.dat (.int (j : Nat))) η
    | _ => False
  | .bitlen, .dat (.int i), [], η, Q => Q (.dat (.int (Builtin.Int.intBits i : Nat))) η
  | .split, .dat (.str a), [.dat (.str b)], η, Q => (b.length == 0) = false ∧ a.length + 2 ≤ sizeLine ∧ Q (.fr (.lst ((Txt.split a b).map PyData.str))) η
  | _, _, _, _, _ => False

/-! calls -/
def regsOf : List Vl → List Nat
  | [] => []
  | .ptr n :: r => n :: regsOf r
  | _ :: r => regsOf r
def renum : Nat → List Vl → List Vl
  | _, [] => []
  | k, .ptr _ :: r => .ptr k :: renum (k + 1) r
  | k, v :: r => v :: renum k r
def obsAt : List Nat → Reg → Option (List Ob)
  | [], _ => some []
  | n :: ns, η => match η[n]?, obsAt ns η with
    | some (some o), some os => some (o :: os)
    | _, _ => none
def putAll : List Nat → List Ob → Reg → Reg
  | n :: ns, o :: os, η => putAll ns os (η.set n (some o))
  | _, _, η => η
def Vl.noPtr : Vl → Prop
  | .ptr _ => False
  | _ => True
def callW (sp : PSpec) (vs : List Vl) (η : Reg) (Q : Vl → Reg → Prop) : Prop :=
  (regsOf vs).Nodup ∧ match obsAt (regsOf vs) η with
    | some obs => sp (renum 0 vs) obs fun v obs' => obs'.length = obs.length ∧ v.noPtr ∧ Q v (putAll (regsOf vs) obs' η)
    | none => False
def callN (Γ : Env) (f : Nat) (vs : List Vl) (η : Reg) (Q : Vl → Reg → Prop) : Prop := match Γ[f]? with
  | some p => callW p.2 vs η Q
  | none => False

/-! loops -/
def setMany : Sl → List Nat → List D → Sl
  | ρ, i :: is, d :: ds => setMany (ρ.set i (some (.dat d))) is ds
  | ρ, _, _ => ρ
def wTg : Tg → D → Sl → (Sl → Prop) → Prop
  | .one i, d, ρ, Q => Q (ρ.set i (some (.dat d)))
  | .many is, .tuple ds, ρ, Q => is.length = ds.length ∧ Q (setMany ρ is ds)
  | .many _, _, _, _ => False
def wipeL (ρ : Sl) : List Nat → Sl
  | [] => ρ
  | v :: vs => (wipeL ρ vs).set v none
def stab : Vl → List D → Reg → Prop
  | .ptr n, ds, η => η[n]? = some (some (.lst ds))
  | _, _, _ => True
def wFor (tg : Tg) (body : LTS) (ok : Reg → Prop) : List D → LTS
  | [], P, ρ, η => P.nx ρ η
  | d :: r, P, ρ, η => wTg tg d ρ fun ρ' => body { P with nx := fun ρ η => ok η ∧ wFor tg body ok r P ρ η, ct := fun ρ η => ok η ∧ wFor tg body ok r P ρ η, bk := P.nx } ρ' η
def wLc (tg : Tg) (own : List Nat) (ct : LTT) (elt : LTE) (ok : Reg → Prop) (ρ : Sl) : List D → Reg → (List D → Reg → Prop) → Prop
  | [], η, Q => Q [] η
  | d :: r, η, Q => wTg tg d (wipeL ρ own) fun ρ' => ct ρ' η fun b η1 =>
    if b = true then elt ρ' η1 fun v η2 => v.fz.onD fun e => ok η2 ∧ wLc tg own ct elt ok ρ r η2 fun es η3 => Q (e :: es) η3
    else ok η1 ∧ wLc tg own ct elt ok ρ r η1 Q
def asT (t : LTE) : LTT := fun ρ η Q => t ρ η fun v η1 => match v with
  | .dat (.bool b) => Q b η1
  | _ => False

mutual
def wE (Γ : Env) : E → LTE
  | .var i => fun ρ η Q => match ρ[i]? with
    | some (some v) => Q v η
    | _ => False
  | .lit d => fun _ η Q => Q (.dat d) η
  | .con _ d => fun _ η Q => Q (.dat d) η
  | .bop o a b => fun ρ η Q => wE Γ a ρ η fun v η1 => wE Γ b ρ η1 fun w η2 => onView v.fz η2 fun x => onView w.fz η2 fun y => bopD o x y fun r => Q r η2
  | .neg a => fun ρ η Q => wE Γ a ρ η fun v η1 => match v.fz with
    | .dat (.int i) => Q (.dat (.int (-i))) η1
    | _ => False
  | .cmp o a b => fun ρ η Q => wE Γ a ρ η fun v η1 => wE Γ b ρ η1 fun w η2 => onView v.fz η2 fun x => onView w.fz η2 fun y => cmpD o x y fun r => Q (.dat (.bool r)) η2
  | .chn o p a b c => fun ρ η Q => wE Γ a ρ η fun v η1 => wE Γ b ρ η1 fun w η2 => onView v.fz η2 fun x => onView w.fz η2 fun y => cmpD o x y fun r =>
    if r = true then wE Γ c ρ η2 fun u η3 => onView w.fz η3 fun y => onView u.fz η3 fun z => cmpD p y z fun q => Q (.dat (.bool q)) η3 else Q (.dat (.bool false)) η2
  | .and a es => fun ρ η Q => wE Γ a ρ η fun v η1 => match v with
    | .dat (.bool b) => if b = true then wAnd Γ es ρ η1 Q else Q (.dat (.bool false)) η1
    | _ => False
  | .or a es => fun ρ η Q => wE Γ a ρ η fun v η1 => match v with
    | .dat (.bool b) => if b = true then Q (.dat (.bool true)) η1 else wOr Γ es ρ η1 Q
    | _ => False
  | .not a => fun ρ η Q => wE Γ a ρ η fun v η1 => match v with
    | .dat (.bool b) => Q (.dat (.bool (!b))) η1
    | _ => False
  | .ite c a b => fun ρ η Q => wE Γ c ρ η fun v η1 => match v with
    | .dat (.bool k) => if k = true then wE Γ a ρ η1 Q else wE Γ b ρ η1 Q
    | _ => False
  | .tup es => fun ρ η Q => wEs Γ es ρ η fun vs η1 => vs.length ≤ sizeLine ∧ ∃ ds, vs = ds.map Vl.dat ∧ Q (.dat (.tuple ds)) η1
  | .lst es => fun ρ η Q => wEs Γ es ρ η fun vs η1 => vs.length ≤ sizeLine ∧ ∃ ds, vs = ds.map Vl.dat ∧ Q (.fr (.lst ds)) η1
  | .idx a b => fun ρ η Q => wE Γ a ρ η fun v η1 => wE Γ b ρ η1 fun w η2 => onView v.fz η2 fun x => onView w.fz η2 fun y => idxD x y fun r => Q (.dat r) η2
  | .sli a lo hi => fun ρ η Q => wE Γ a ρ η fun v η1 => wEo Γ lo ρ η1 fun l η2 => wEo Γ hi ρ η2 fun h η3 => onView v.fz η3 fun x => sliD x l h fun r => Q r η3
  | .call f es => fun ρ η Q => wEs Γ es ρ η fun vs η1 => callN Γ f vs η1 Q
  | .bi b es => fun ρ η Q => wEs Γ es ρ η fun vs η1 => biW b vs η1 fun r => Q r η1
  | .met m a es => fun ρ η Q => wE Γ a ρ η fun v η1 => mtTy m (tyV' v.fz η1) = true ∧ wEs Γ es ρ η1 fun vs η2 => metW m v.fz vs η2 Q
  | .lc tg own s c e => fun ρ η Q => wSrc Γ s ρ η fun ds ok _ η1 => wLc tg own (wCond Γ c) (wE Γ e) ok ρ ds η1 fun es η2 => Q (.fr (.lst es)) η2
def wAnd (Γ : Env) : Es → LTE
  | .nil => fun _ η Q => Q (.dat (.bool true)) η
  | .cons a es => fun ρ η Q => wE Γ a ρ η fun v η1 => match v with
    | .dat (.bool b) => if b = true then wAnd Γ es ρ η1 Q else Q (.dat (.bool false)) η1
    | _ => False
def wOr (Γ : Env) : Es → LTE
  | .nil => fun _ η Q => Q (.dat (.bool false)) η
  | .cons a es => fun ρ η Q => wE Γ a ρ η fun v η1 => match v with
    | .dat (.bool b) => if b = true then Q (.dat (.bool true)) η1 else wOr Γ es ρ η1 Q
    | _ => False
def wEs (Γ : Env) : Es → LTA
  | .nil => fun _ η Q => Q [] η
  | .cons a es => fun ρ η Q => wE Γ a ρ η fun v η1 => v.fz.settled ∧ wEs Γ es ρ η1 fun vs η2 => Q (v.fz :: vs) η2
def wEo (Γ : Env) : Eo → Sl → Reg → (Option Int → Reg → Prop) → Prop
  | .no => fun _ η Q => Q none η
  | .so a => fun ρ η Q => wE Γ a ρ η fun v η1 => match v with
    | .dat (.int i) => Q (some i) η1
    | _ => False
def wCond (Γ : Env) : Eo → LTT
  | .no => fun _ η Q => Q true η
  | .so a => asT (wE Γ a)
def wSrc (Γ : Env) : Src → Sl → Reg → (List D → (Reg → Prop) → List Nat → Reg → Prop) → Prop
  | .seq a => fun ρ η R => wE Γ a ρ η fun v η1 => onView v.fz η1 fun
    | .list ds => R ds (stab v.fz ds) (regsOf [v.fz]) η1
    | .tuple ds => R ds (fun _ => True) [] η1
    | .str s => s.length ≤ sizeLine ∧ R (chars s) (fun _ => True) [] η1
    | _ => False
  | .rng1 a => fun ρ η R => wE Γ a ρ η fun v η1 => match v with
    | .dat (.int j) => j ≤ sizeLine ∧ -(2 ^ 62) ≤ j ∧ R (rangeD 0 j.toNat) (fun _ => True) [] η1
    | _ => False
  | .rng2 a b => fun ρ η R => wE Γ a ρ η fun v η1 => wE Γ b ρ η1 fun w η2 => match v, w with
    | .dat (.int i), .dat (.int j) => (j - i ≤ sizeLine ∧ (-(2 ^ 62) ≤ i ∧ i < 2 ^ 62 ∧ -(2 ^ 62) ≤ j ∧ j < 2 ^ 62)) ∧ R (rangeD i (j - i).toNat) (fun _ => True) [] η2
    | _, _ => False
  | .zip a b => fun ρ η R => wE Γ a ρ η fun v η1 => wE Γ b ρ η1 fun w η2 => onView v.fz η2 fun
    | .list xs => onView w.fz η2 fun
      | .list ys => R (List.zipWith (fun x y => PyData.tuple [x, y]) xs ys) (fun η => stab v.fz xs η ∧ stab w.fz ys η) (regsOf [v.fz, w.fz]) η2
      | _ => False
    | .tuple xs => onView w.fz η2 fun
      | .tuple ys => R (List.zipWith (fun x y => PyData.tuple [x, y]) xs ys) (fun _ => True) [] η2
      | _ => False
    | _ => False
  | .enum a => fun ρ η R => wE Γ a ρ η fun v η1 => onView v.fz η1 fun
    | .list xs => R (xs.zipIdx.map fun p => PyData.tuple [.int p.2, p.1]) (stab v.fz xs) (regsOf [v.fz]) η1
    | _ => False
end

/-! ## statements -/
mutual
inductive S
  | asg (i : Nat) (r : Option Nat) (e : E)
  | asgT (is : List Nat) (e : E)
  | sto (a b e : E)
  | augN (i : Nat) (e : E)
  | augS (a b e : E)
  | exp (e : E)
  | ret (e : E)
  | retP (i n : Nat)
  | iff (c : E) (t f : Ss)
  | for (gs : List Nat) (tg : Tg) (s : Src) (b : Ss)
  | whl (c : E) (b : Ss)
  | brk | cnt | pas
  | frz (i n : Nat)
inductive Ss
  | nil | cons (s : S) (ss : Ss)
end
def clr1 (r : Nat) : Option Vl → Option Vl
  | some (.ptr n) => if n = r then none else some (.ptr n)
  | v => v
def clr (r : Nat) (ρ : Sl) : Sl := ρ.map (clr1 r)
def frz1 (r : Nat) (d : D) : Option Vl → Option Vl
  | some (.ptr n) => if n = r then some (.dat d) else some (.ptr n)
  | v => v
def asgW (i : Nat) (r : Option Nat) (v : Vl) (ρ : Sl) (η : Reg) (Q : Sl → Reg → Prop) : Prop := match v with
  | .dat d => Q (ρ.set i (some (.dat d))) η
  | .ptr n => Q (ρ.set i (some (.ptr n))) η
  | .fr o => match r with
    | some n => n < η.length ∧ Q ((clr n ρ).set i (some (.ptr n))) (η.set n (some o))
    | none => match o with
      | .lst ds => Q (ρ.set i (some (.dat (.list ds)))) η
      | _ => False
def stoW (v i w : Vl) (η : Reg) (Q : Reg → Prop) : Prop := match v with
  | .ptr n => match η[n]? with
    | some (some (.lst xs)) => match i with
      | .dat (.int k) => w.onD fun d => ∃ j, ixN xs.length k = some j ∧ Q (η.set n (some (.lst (xs.set j d))))
      | _ => False
    | _ => False
  | _ => False
/-- x += y -/
def augD : D → D → (D → Prop) → Prop
  | .int i, .int j, Q => Q (.int (i + j))
  | .str x, .str y, Q => x.length + y.length ≤ sizeLine ∧ Q (.str (x ++ y))
  | _, _, _ => False
def augGet (v i : Vl) (η : Reg) (Q : D → Prop) : Prop := match v with
  | .ptr n => match η[n]? with
    | some (some (.lst xs)) => match i with
      | .dat (.int k) => ∃ d, atI xs k = some d ∧ Q d
      | _ => False
    | _ => False
  | _ => False
def wWhile (c : LTE) (body : LTS) : LTS := fun P ρ η => ∃ I : Nat → Sl → Reg → Prop, (∃ m, I m ρ η) ∧ ∀ m ρ η, I m ρ η →
  asT c ρ η fun b η1 => if b = true then body { P with nx := fun ρ η => ∃ m', m' < m ∧ I m' ρ η, ct := fun ρ η => ∃ m', m' < m ∧ I m' ρ η, bk := P.nx } ρ η1 else P.nx ρ η1
mutual
def wS (Γ : Env) : S → LTS
  | .asg i r e => fun P ρ η => wE Γ e ρ η fun v η1 => asgW i r v ρ η1 P.nx
  | .asgT is e => fun P ρ η => wE Γ e ρ η fun v η1 => v.fz.onD fun d => wTg (.many is) d ρ fun ρ' => P.nx ρ' η1
  | .sto a b e => fun P ρ η => wE Γ e ρ η fun w η1 => wE Γ a ρ η1 fun v η2 => wE Γ b ρ η2 fun i η3 => stoW v i w.fz η3 fun η4 => P.nx ρ η4
  | .augN i e => fun P ρ η => match ρ[i]? with
    | some (some (.dat x)) => wE Γ e ρ η fun w η1 => w.fz.onD fun y => augD x y fun z => P.nx (ρ.set i (some (.dat z))) η1
    | _ => False
  | .augS a b e => fun P ρ η => wE Γ a ρ η fun v η1 => wE Γ b ρ η1 fun i η2 => augGet v i η2 fun x =>
    wE Γ e ρ η2 fun w η3 => w.fz.onD fun u => augD x u fun z => stoW v i (.dat z) η3 fun η4 => P.nx ρ η4
  | .exp e => fun P ρ η => wE Γ e ρ η fun _ η1 => P.nx ρ η1
  | .ret e => fun P ρ η => wE Γ e ρ η P.rt
  | .retP i n => fun P ρ η => ρ[i]? = some (some (.ptr n)) ∧ match η[n]? with
      | some (some o) => P.rt (.fr o) (η.set n none)
      | _ => False
  | .iff c t f => fun P ρ η => asT (wE Γ c) ρ η fun b η1 => if b = true then wSs Γ t P ρ η1 else wSs Γ f P ρ η1
  | .for gs tg s b => fun P ρ η => wSrc Γ s ρ η fun ds ok rs η1 => (∀ r ∈ rs, r ∈ gs) ∧ wFor tg (wSs Γ b) ok ds P ρ η1
  | .whl c b => wWhile (wE Γ c) (wSs Γ b)
  | .brk => fun P ρ η => P.bk ρ η
  | .cnt => fun P ρ η => P.ct ρ η
  | .pas => fun P ρ η => P.nx ρ η
  | .frz i n => fun P ρ η => ρ[i]? = some (some (.ptr n)) ∧ match η[n]? with
      | some (some (.lst ds)) => P.nx (ρ.map (frz1 n (.list ds))) (η.set n none)
      | _ => False
def wSs (Γ : Env) : Ss → LTS
  | .nil => fun P ρ η => P.nx ρ η
  | .cons s ss => fun P ρ η => wS Γ s { P with nx := fun ρ η => wSs Γ ss P ρ η } ρ η
end
def outs : Nat → Reg → Option (List Ob)
  | 0, _ => some []
  | n + 1, some o :: r => match outs n r with
    | some os => some (o :: os)
    | none => none
  | _ + 1, _ => none
/-- a def's body: n registers of its own, m names -/
def wFn (Γ : Env) (body : Ss) (m n : Nat) (vs : List Vl) (obs : List Ob) (Q : Vl → List Ob → Prop) : Prop :=
  wSs Γ body ⟨fun _ η => (match outs obs.length η with
      | some os => Q (.dat .none) os
      | none => False),
    fun v η => (match outs obs.length η with
      | some os => v.noPtr ∧ Q v os
      | none => False), fun _ _ => False, fun _ _ => False⟩ (vs.map some ++ List.replicate (m - vs.length) none) (obs.map some ++ List.replicate n none)
end Pl

namespace Pl
open PySem PySem.Spec PyProof.Rows L2

/-! ## what follows an expression -/
def Cont (G : Gh) (L : Loc) (Z : Hp) (Qp : Vl → Reg → Prop) (Q : VK) : Prop :=
  ∀ x v L' Z' η' H', SI G L' Z' η' H' → Ext L Z L' Z' → RepV G L' Z' H' x v → Qp v η' → Q x H'
section
variable {G : Gh} {L L' : Loc} {Z Z' : Hp} {η η' : Reg} {H H' : Hp} {Qp : Vl → Reg → Prop} {Q : VK} {σ : SV} {ρ : Sl}
theorem Cont.shift (k : Cont G L Z Qp Q) (e : Ext L Z L' Z') : Cont G L' Z' Qp Q := fun x v L2 Z2 η2 H2 S E r q => k x v L2 Z2 η2 H2 S (e.trans E) r q
theorem Cont.dat (k : Cont G L Z Qp Q) (S : SI G L Z η H) {x : V} {d : D} (r : Rp Z x d) (q : Qp (.dat d) η) : Q x H := k x (.dat d) L Z η H S Ext.refl r q
theorem Cont.tup (k : Cont G L Z Qp Q) (S : SI G L Z η H) {xs : List V} {ds : List D} (r : RpAll Z xs ds) (q : Qp (.dat (.tuple ds)) η) :
    ∀ p o, H p = none → o.dict = none → Q (.ref p) (upd H p (.frz o (.tup xs))) := fun p o hp hd => by
  obtain ⟨_, hz, _⟩ := S.fresh hp
  have s : Sub Z (upd Z p (.frz o (.tup xs))) := Sub.upd hz
  exact k _ (.dat (.tuple ds)) L _ η _ (S.newZ hp) ⟨s, fun n a ks h => ⟨ks, h⟩⟩ (.tup upd_same hd (RpAll.mono s _ _ r)) q
theorem Cont.lst (k : Cont G L Z Qp Q) (S : SI G L Z η H) {xs : List V} {ds : List D} (r : RpAll Z xs ds) (q : Qp (.fr (.lst ds)) η) :
    ∀ p, H p = none → Q (.ref p) (upd H p (.lst xs)) := fun p hp => by
  obtain ⟨h1, h2, h3⟩ := S.fresh hp
  refine k _ (.fr (.lst ds)) L Z η _ (S.other h1 h2 h3) Ext.refl ⟨p, [], rfl, ⟨rfl, xs, upd_same, r⟩, fun b hb => ?_⟩ q
  rw [List.mem_singleton] at hb
  subst hb
  exact ⟨h2, h3, h1⟩
theorem lift_of {t : LTE} (S : SI G L Z η H) (s : SS L Z σ ρ) (h : t ρ η Qp) (k : Cont G L Z Qp Q) : liftE G t σ H Q := ⟨ρ, L, Z, η, Qp, S, s, h, k⟩
theorem onView_some {v : Vl} {η : Reg} {P : D → Prop} (h : onView v η P) : ∃ d, v.view η = some d ∧ P d := by
  unfold onView at h
  cases e : v.view η with
  | none => rw [e] at h; exact False.elim h
  | some d => rw [e] at h; exact ⟨d, rfl, h⟩
theorem onD_some {v : Vl} {P : D → Prop} (h : v.onD P) : ∃ d, v = .dat d ∧ P d := by
  cases v with
  | dat d => exact ⟨d, rfl, h⟩
  | ptr n => exact False.elim h
  | fr o => exact False.elim h
theorem view_nofr {v : Vl} {η : Reg} {d : D} (h : v.view η = some d) : ∀ o, v ≠ .fr o := fun o e => by subst e; cases h
/-- both parts of a binary operation -/
theorem step2 {ta tb : LTE} {R : V → V → Hp → Prop} {P : D → D → Reg → Prop} (S : SI G L Z η H) (s : SS L Z σ ρ)
    (t : ta ρ η fun v η1 => tb ρ η1 fun w η2 => onView v.fz η2 fun x => onView w.fz η2 fun y => P x y η2)
    (k : ∀ xv yv x y L2 Z2 η2 H2, SI G L2 Z2 η2 H2 → SS L2 Z2 σ ρ → Ext L Z L2 Z2 → Vw Z2 H2 xv x → Vw Z2 H2 yv y → P x y η2 → R xv yv H2) :
    liftE G ta σ H fun xv H1 => liftE G tb σ H1 fun yv H2 => R xv yv H2 := by
  refine step (P := fun v η1 => tb ρ η1 fun w η2 => onView v η2 fun x => onView w.fz η2 fun y => P x y η2) S s t fun xv v L1 Z1 η1 H1 S1 s1 E1 r1 t1 => ?_
  refine step (P := fun w η2 => onView v η2 fun x => onView w η2 fun y => P x y η2) S1 s1 t1 fun yv w L2 Z2 η2 H2 S2 s2 E2 r2 q => ?_
  obtain ⟨x, ex, q⟩ := onView_some q
  obtain ⟨y, ey, q⟩ := onView_some q
  exact k xv yv x y L2 Z2 η2 H2 S2 s2 (E1.trans E2) ((r1.ext E2 (view_nofr ex)).view S2 ex) (r2.view S2 ey) q
end

/-! ## operators -/
def opOf : Bop → Operator
  | .add => .Add | .sub => .Sub | .mul => .Mult | .fdiv => .FloorDiv | .mod => .Mod | .pow => .Pow
  | .band => .BitAnd | .bor => .BitOr | .bxor => .BitXor | .shl => .LShift | .shr => .RShift
theorem rd_lst {X : Cx} {pins : List (Addr × Obj)} {σ : SV} {H : Hp} {s : Shared} {l : Addr} {xs : List V} (I : Inv X pins σ H s) (h : Rd H l (.lst xs)) :
    xs.length ≤ sizeLine ∧ ∃ (vs : List Value) (n : Nat), Vals xs vs ∧ s.heap.get? l = some { cls := .type "list", data := .seq vs.toArray n } := by
  obtain ⟨z, its, n, r, e⟩ := h.ok I.hok
  exact ⟨z, its, n, r, e⟩
section
variable {X : Cx}
def rCatR : R2 := fun x y H Q => ∃ l b xs ys, x = .ref l ∧ y = .ref b ∧ Rd H l (.lst xs) ∧ Rd H b (.lst ys) ∧ xs.length + ys.length ≤ sizeLine ∧ ∀ p, H p = none → Q (.ref p) (upd H p (.lst (xs ++ ys)))
theorem op_catR : OpR X (binaryOp .Add) rCatR := by
  rintro pins s σ H x y v u Q I rx ry ⟨l, b, xs, ys, rfl, rfl, hl, hb, hz, q⟩
  cases rx; cases ry
  obtain ⟨_, vs, n, r, e⟩ := rd_lst I hl
  obtain ⟨_, ws, m, r', e'⟩ := rd_lst I hb
  have h1 := r.length
  have h2 := r'.length
  refine PySem.P.add_list e e' ?_ (by simp; omega)
  rw [show vs.toArray ++ ws.toArray = (vs ++ ws).toArray from by simp]
  exact ⟨.ref _, _, I.lnew (t' := s.toks) (r.append r') (by rw [List.length_append]; omega), rfl, q _ I.fresh⟩
def rRepR : R2 := fun x y H Q => ∃ l k xs, x = .ref l ∧ y = .int k ∧ Rd H l (.lst xs) ∧ (-(2 ^ 63) ≤ k ∧ k < 2 ^ 63 ∧ xs.length * k.toNat ≤ sizeLine) ∧
  ∀ p, H p = none → Q (.ref p) (upd H p (.lst (List.replicate k.toNat xs).flatten))
theorem rep_fold (vs : List Value) (m : Nat) : (List.replicate m vs.toArray).foldl (fun a b => a ++ b) #[] = (List.replicate m vs).flatten.toArray := by
  have g := foldl_rep vs m []
  simpa using g
theorem op_repR : OpR X (binaryOp .Mult) rRepR := by
  rintro pins s σ H x y v u Q I rx ry ⟨l, k, xs, rfl, rfl, hl, ⟨k1, k2, k3⟩, q⟩
  cases rx
  obtain ⟨t, rfl⟩ := ry
  obtain ⟨_, vs, n, r, e⟩ := rd_lst I hl
  have hn : vs.length = xs.length := r.length.symm
  have big : (sizeLine : Nat) ≤ (2 ^ 63 - 1) / 8 := by decide
  have g1 : ¬ (!Builtin.List.listFitsIndex k) = true := by rw [fitsIndex_both k1 k2]; simp
  have g2 : ¬ vs.toArray.size * k.toNat > (2 ^ 63 - 1) / 8 := by simp only [List.size_toArray, hn]; omega
  have g3 : ¬ Builtin.List.listTooLong (vs.toArray.size * k.toNat) = true := by
    rw [notLongL (by simp only [List.size_toArray, hn]; exact k3)]; simp
  have made : List.foldl (fun a b => a ++ b) #[] (List.replicate (if vs.toArray.isEmpty = true then 0 else k.toNat) vs.toArray) = (List.replicate k.toNat vs).flatten.toArray := by
    rw [rep_fold]
    cases vs with
    | nil => simp
    | cons a b => simp
  refine wpAny_binaryOp_repeat_ref (T := "list") (U := "int") (by decide) ⟨_, e, rfl⟩ (fun s' => typeIs_int s' k t) noFill_list_mul F.fills_int_mul F.slot_int_rmul repeat_list F.slot_int_index.lookup ?_
  refine call_meets F.slot_int_rmul (typeIs_int s k t) F.entry_int_rmul (F.args_int_rmul_2 _ _) (int___rmul___int_list k t l vs.toArray n) ⟨e, rfl, ⟨_, e, rfl⟩, ?_⟩
  refine call_meets F.slot_list_mul ⟨_, e, rfl⟩ F.entry_list_mul (F.args_list_mul_2 _ _) (AutoListH.list___mul___list_int_3 l vs.toArray n k t g1 g2 g3) ⟨e, ?_⟩
  rw [made]
  refine ⟨.ref _, _, I.lnew (t' := s.toks) (r.rep k.toNat) ?_, rfl, q _ I.fresh⟩
  rw [PyProof.Rows.lm_len_rep_flat, Nat.mul_comm]
  exact k3
/-! ### tuples: they are tracked with their objects (which have no dict of their own) -/
abbrev tupObj (us : List Value) : Obj := { cls := .type "tuple", data := .seq us.toArray }
theorem tup_laid {pins : List (Addr × Obj)} {σ : SV} {H : Hp} {s : Shared} {h' : Heap} {tk : Nat} {us : List Value} {xs : List V} {Q : VK} (I : Inv X pins σ H s) (k : ∀ b o, s.heap.get? b = some o → h'.get? b = some o) (r : Vals xs us) (hz : xs.length ≤ sizeLine)
    (q : ∀ p o, H p = none → o.dict = none → Q (.ref p) (upd H p (.frz o (.tup xs)))) : EP X pins σ Q (.ref h'.objs.size) { s with heap := h'.push (tupObj us), toks := tk } := by
  have I1 : Inv X pins σ H { s with heap := h' } := I.kept (t' := s.toks) k
  have hn : H h'.objs.size = none := I1.hok.fresh (Nat.le_refl _)
  refine ⟨.ref h'.objs.size, upd H h'.objs.size (.frz (tupObj us) (.tup xs)), ?_, rfl, q _ (tupObj us) hn rfl⟩
  exact I1.laid (t' := tk) (fun b o e => Heap.get?_push_of_some _ e) (Nat.le_refl _) ⟨Heap.get?_push_size _ rfl, hz, us, r, ⟨_, Heap.get?_push_size _ rfl, rfl, _, rfl⟩⟩
theorem rd_tup {pins : List (Addr × Obj)} {σ : SV} {H : Hp} {s : Shared} {l : Addr} {xs : List V} (I : Inv X pins σ H s) (h : Rd H l (.tup xs)) :
    xs.length ≤ sizeLine ∧ ∃ vs : List Value, Vals xs vs ∧ IsTup s.heap l vs.toArray := by
  obtain ⟨z, its, r, e⟩ := h.ok I.hok
  exact ⟨z, its, r, e⟩
def rCatF : R2 := fun x y H Q => ∃ a b xs ys, x = .ref a ∧ y = .ref b ∧ Rd H a (.tup xs) ∧ Rd H b (.tup ys) ∧ xs.length + ys.length ≤ sizeLine ∧
  (xs = [] → Q (.ref b) H) ∧ (xs ≠ [] → ys = [] → Q (.ref a) H) ∧ (xs ≠ [] → ys ≠ [] → ∀ p o, H p = none → o.dict = none → Q (.ref p) (upd H p (.frz o (.tup (xs ++ ys)))))
theorem op_catF : OpR X (binaryOp .Add) rCatF := by
  rintro pins s σ H x y v u Q I rx ry ⟨a, b, xs, ys, rfl, rfl, ha, hb, hz, q0, q1, q2⟩
  cases rx; cases ry
  obtain ⟨_, vs, r, pa⟩ := rd_tup I ha
  obtain ⟨_, ws, r', pb⟩ := rd_tup I hb
  have h1 := r.length
  have h2 := r'.length
  cases xs with
  | nil =>
    cases r
    exact cat_tup0 pa pb ⟨.ref b, _, I, rfl, q0 rfl⟩
  | cons c xs =>
    have nv : vs ≠ [] := fun e => by subst e; simp at h1
    refine HT.cat_tup pa pb nv (fun e => ?_) (fun e => ?_) (by omega)
    · subst e
      cases r'
      exact ⟨.ref a, _, I, rfl, q1 (by simp) rfl⟩
    · have ny : ys ≠ [] := fun z => e (by subst z; cases r'; rfl)
      exact tup_laid (tk := s.toks) I (fun _ _ e => e) (r.append r') (by rw [List.length_append]; exact hz) (q2 (by simp) ny)
def rSlF : V → Option Int → Option Int → Hp → VK → Prop := fun x lo hi H Q => ∃ a xs, x = .ref a ∧ Rd H a (.tup xs) ∧
  (HT.sIx xs.length 0 lo = 0 ∧ HT.sIx xs.length xs.length hi = xs.length → Q (.ref a) H) ∧ (¬ (HT.sIx xs.length 0 lo = 0 ∧ HT.sIx xs.length xs.length hi = xs.length) → ∀ p o, H p = none → o.dict = none → Q (.ref p) (upd H p (.frz o (.tup (cutV xs lo hi)))))
theorem sl_tupF : SlR X rSlF := by
  rintro pins s σ H x v vl vu lo hi sl Q I rx hs pl pu ⟨a, xs, rfl, hx, q1, q2⟩
  cases rx
  obtain ⟨hz, vs, r, ht⟩ := rd_tup I hx
  have hlen : vs.toArray.size = xs.length := by rw [List.size_toArray]; exact r.length.symm
  refine ⟨"tuple", _, PyProof.Rows.slot_tuple_getitem.lookup, ht.typeIs, ?_⟩
  by_cases hw : HT.sIx xs.length 0 lo = 0 ∧ HT.sIx xs.length xs.length hi = xs.length
  · exact getItem_tuple_whole ht hs pl pu (by rw [hlen]; exact hw) ⟨.ref a, _, I, rfl, q1 hw⟩
  · refine HT.getItem_tuple_cut ht hs pl pu (by rw [hlen]; exact hw) ?_ (by rw [hlen]; exact hz)
    rw [hlen]
    exact tup_laid (tk := s.toks) I (fun _ _ e => e) ((r.drop _).take _) (Nat.le_trans (cutV_length xs lo hi) hz) (q2 hw)
theorem call_tupF : CallR X (.type "tuple") (fun xs H Q => ∃ p ys, xs = [.ref p] ∧ ((Rd H p (.lst ys) ∧ ∀ l o, H l = none → o.dict = none → Q (.ref l) (upd H l (.frz o (.tup ys)))) ∨ (Rd H p (.tup ys) ∧ Q (.ref p) H))) := by
  rintro pins s σ H xs us Q I r ⟨p, ys, rfl, h⟩
  obtain ⟨u, rfl, rx⟩ := vals1 r
  cases rx
  rcases h with ⟨hq, q⟩ | ⟨hq, q⟩
  · obtain ⟨hz, vs, n, r', e⟩ := rd_lst I hq
    have hlen := r'.length
    refine call_tuple_list ⟨_, e, rfl, _, rfl⟩ (fun h' kp => ?_) (by simp only [List.size_toArray]; omega)
    exact tup_laid (tk := s.toks) I kp r' hz q
  · obtain ⟨hz, vs, r', pl⟩ := rd_tup I hq
    exact call_tuple_same pl ⟨.ref p, _, I, rfl, q⟩
def tTupF (t : TA) : TE := fun σ H Q => t σ H fun xs H1 => xs.length ≤ sizeLine ∧ ∀ p o, H1 p = none → o.dict = none → Q (.ref p) (upd H1 p (.frz o (.tup xs)))
theorem pe_tupF {es : List Expr} {t : TA} {k1 : Nat} {pos : Pos} (h : PA X es t) : PE X (.Tuple es k1 pos) (tTupF t) := by
  refine ⟨fun pins s σ H Q I hq => wpAny_Tuple_spliced (thn (h.run pos pins s σ H _ I hq) ?_)⟩
  rintro us s1 ⟨xs, H1, I1, r, z, q⟩
  exact ⟨by rw [← r.length]; exact z, tup_laid (tk := s1.toks) I1 (fun _ _ e => e) r z q⟩
def tTupRgF (te : SV → Hp → (Int → Int → Hp → Prop) → Prop) : TE := fun σ H Q => te σ H fun a b H1 => RgOk a b ∧ ∀ p o, H1 p = none → o.dict = none → Q (.ref p) (upd H1 p (.frz o (.tup (rgV a b))))
theorem pe_tupRgF {e : Expr} {te : SV → Hp → (Int → Int → Hp → Prop) → Prop} {p pos : Pos} (hc : X.calm = true) (hg : Gl X "tuple") (hm : X.mg "tuple" = none) (he : PRg X e te) (na : starEach [e] X.env = (false, eval e X.env) :: starEach [] X.env) :
    PE X (.Call (.Name "tuple" p) [e] [] pos) (tTupRgF te) := by
  refine ⟨fun pins s σ H Q I h => ?_⟩
  refine Call_ (ld_blt I hg hm boot_tuple (PyProof.Rows.callWith_type1 (args_cons (thn (he pins s σ H _ I h) ?_) na) na))
  rintro x s1 ⟨r, a, b, t, u, v, H1, rfl, hr, I1, ⟨b1, b2, b3, b4, b5⟩, q⟩
  refine args_nil (call_tuple_range (n := (b - a).toNat) (I1.ok.hd hc) hr (small_one b1 b2 b3 b4) (rangeSize_nat a b) b5 fun h' tk acc hk hi => ?_)
  have g := tup_laid (tk := tk) (us := acc.toList) I1 hk (vals_rg hi) (by rw [rgV_length, sizeLine_eq]; omega) q
  simpa only [Array.toArray_toList] using g
theorem op_mulI : OpR X (binaryOp .Mult) (rI IntMulOk fun i j => .int (i * j)) := opI fun _ _ _ _ _ _ _ hc q => mul_int q hc
theorem iop_mulI : OpR X (inplaceOp .Mult) (rI IntMulOk fun i j => .int (i * j)) := opI fun _ _ _ _ _ _ _ hc q => imul_int q hc
theorem MulOk.fits {i j : Int} (h : MulOk i j) : IntMulOk i j := by
  rcases h with h | h | h
  · exact CMul.ok (.inl h)
  · exact CMul.ok (.inr h)
  · exact h
theorem op_divI : OpR X (binaryOp .FloorDiv) (rI (fun i j => 0 < j ∧ DivOk i j) fun i j => .int (i / j)) := opI fun i j _ _ _ _ _ hc q => by
  have h1 : (0 : Int) < j := hc.1
  refine floordiv_int (by omega) (by rw [Int.fdiv_eq_ediv_of_nonneg i (by omega)]; exact q) (.inl ?_)
  rcases hc.2 with h2 | h2
  · exact PyProof.noPylong_small (by omega)
  · exact h2
theorem iop_divI : OpR X (inplaceOp .FloorDiv) (rI (fun i j => 0 < j ∧ DivOk i j) fun i j => .int (i / j)) := opI fun i j _ _ _ _ _ hc q => by
  have h1 : (0 : Int) < j := hc.1
  refine ifloordiv_int (by omega) (by rw [Int.fdiv_eq_ediv_of_nonneg i (by omega)]; exact q) (.inl ?_)
  rcases hc.2 with h2 | h2
  · exact PyProof.noPylong_small (by omega)
  · exact h2
def rBop (K : PySem.W.Frag) : Bop → R2
  | .add => fun x y H Q => rI0 (fun i j => .int (i + j)) x y H Q ∨ (∃ i j, x = .str i ∧ y = .str j ∧ i.length + j.length ≤ sizeLine ∧ Q (.str (i ++ j)) H) ∨ rCatF x y H Q ∨ rCatR x y H Q
  | .sub => rI0 fun i j => .int (i - j)
  | .mul => fun x y H Q => rI IntMulOk (fun i j => .int (i * j)) x y H Q ∨ rRepR x y H Q
  | .fdiv => rI (fun i j => 0 < j ∧ DivOk i j) fun i j => .int (i / j)
  | .mod => rI (fun _ j => 0 < j) fun i j => .int (i % j)
  | .pow => rI CPow fun i j => .int (i ^ j.toNat)
  | .band => rI0 fun i j => .int (Builtin.bitAnd i j)
  | .bor => rI0 fun i j => .int (Builtin.bitOr i j)
  | .bxor => rI0 fun i j => .int (Builtin.bitXor i j)
  | .shl => fun x y H Q => rI CPow (fun i j => .int (i * 2 ^ j.toNat)) x y H Q ∨ rI CShl (fun i j => .int (i * 2 ^ j.toNat)) x y H Q
  | .shr => rI (fun _ j => 0 ≤ j) fun i j => .int (i / 2 ^ j.toNat)
theorem ok_bop : ∀ o : Bop, OpR X (binaryOp (opOf o)) (rBop X.K o)
  | .add => OpR.or op_add (OpR.or op_add_str (OpR.or op_catF op_catR))
  | .sub => op_sub
  | .mul => OpR.or op_mulI op_repR
  | .fdiv => op_divI
  | .mod => op_mod
  | .pow => op_pow
  | .band => op_and
  | .bor => op_or
  | .bxor => op_xor
  | .shl => OpR.or op_shl op_shlW
  | .shr => op_shr
end
theorem Vw.flat {Z H : Hp} {x : V} {d : D} (h : Vw Z H x d) : (∀ i, d = .int i → x = .int i) ∧ (∀ i, d = .str i → x = .str i) ∧ (∀ i, d = .bool i → x = .bl i) ∧ (d = .none → x = .non) := by
  refine ⟨fun i e => ?_, fun i e => ?_, fun i e => ?_, fun e => ?_⟩
  · subst e; exact Rp.int_inv h
  · subst e; exact Rp.str_inv h
  · subst e; exact Rp.bl_inv h
  · subst e; exact Rp.non_inv h
theorem Vw.int {Z H : Hp} {x : V} {i : Int} (h : Vw Z H x (.int i)) : x = .int i := Rp.int_inv h
theorem Vw.str {Z H : Hp} {x : V} {i : Str} (h : Vw Z H x (.str i)) : x = .str i := Rp.str_inv h
theorem Vw.bl {Z H : Hp} {x : V} {i : Bool} (h : Vw Z H x (.bool i)) : x = .bl i := Rp.bl_inv h
theorem Vw.tup {Z H : Hp} {x : V} {ds : List D} (h : Vw Z H x (.tuple ds)) : ∃ a o xs, x = .ref a ∧ Z a = some (.frz o (.tup xs)) ∧ o.dict = none ∧ RpAll Z xs ds := by
  cases h with
  | tup h1 hd h2 => exact ⟨_, _, _, rfl, h1, hd, h2⟩

/-- what follows an operation that leaves the registers alone -/
def LC (G : Gh) (L : Loc) (Z : Hp) (η : Reg) (Qd : Vl → Prop) (Q : VK) : Prop := Cont G L Z (fun v η' => η' = η ∧ Qd v) Q
section
variable {X : Cx} {G : Gh} {L : Loc} {Z : Hp} {η : Reg} {H : Hp} {x y : V} {Qd : Vl → Prop} {Q : VK}
theorem LC.flat (k : LC G L Z η Qd Q) (S : SI G L Z η H) {d : D} (r : Rp Z x d) (q : Qd (.dat d)) : Q x H := Cont.dat k S r ⟨rfl, q⟩
theorem bop_ok {K : PySem.W.Frag} (S : SI G L Z η H) : ∀ (o : Bop) (a b : D), Vw Z H x a → Vw Z H y b → bopD o a b Qd → LC G L Z η Qd Q → rBop K o x y H Q := by
  intro o a b rx ry h k
  cases o with
  | add =>
    cases a <;> cases b <;> first | exact False.elim h | skip
    · cases rx.int; cases ry.int
      exact .inl ⟨_, _, rfl, rfl, k.flat S (.int _) h⟩
    · cases rx.str; cases ry.str
      exact .inr (.inl ⟨_, _, rfl, rfl, h.1, k.flat S (.str _) h.2⟩)
    · obtain ⟨hz, h⟩ := h
      obtain ⟨p, xs, rfl, hp, r1⟩ := rx
      obtain ⟨q, ys, rfl, hq, r2⟩ := ry
      refine .inr (.inr (.inr ⟨p, q, xs, ys, rfl, rfl, hp, hq, by rw [r1.length, r2.length]; exact hz, ?_⟩))
      exact Cont.lst k S (r1.append r2) ⟨rfl, h⟩
    · obtain ⟨hz, h⟩ := h
      obtain ⟨p, o1, xs, rfl, hp, d1, r1⟩ := rx.tup
      obtain ⟨q, o2, ys, rfl, hq, d2, r2⟩ := ry.tup
      refine .inr (.inr (.inl ⟨p, q, xs, ys, rfl, rfl, .inr ⟨_, S.zh _ _ hp⟩, .inr ⟨_, S.zh _ _ hq⟩, by rw [r1.length, r2.length]; exact hz, fun e => ?_, fun _ e => ?_, fun _ _ => ?_⟩))
      · subst e
        cases r1
        exact k.flat S (.tup hq d2 r2) h
      · subst e
        cases r2
        rw [List.append_nil] at h
        exact k.flat S (.tup hp d1 r1) h
      · exact Cont.tup k S (r1.append r2) ⟨rfl, h⟩
  | sub =>
    cases a <;> cases b <;> first | exact False.elim h | skip
    cases rx.int; cases ry.int
    exact ⟨_, _, rfl, rfl, k.flat S (.int _) h⟩
  | mul =>
    cases a <;> cases b <;> first | exact False.elim h | skip
    · cases rx.int; cases ry.int
      exact .inl ⟨_, _, rfl, rfl, h.1.fits, k.flat S (.int _) h.2⟩
    · cases ry.int
      obtain ⟨⟨k1, k2, k3⟩, h⟩ := h
      obtain ⟨p, xs, rfl, hp, r1⟩ := rx
      refine .inr ⟨p, _, xs, rfl, rfl, hp, ⟨k1, k2, by rw [r1.length]; exact k3⟩, ?_⟩
      exact Cont.lst k S (r1.rep _) ⟨rfl, h⟩
  | fdiv =>
    cases a <;> cases b <;> first | exact False.elim h | skip
    cases rx.int; cases ry.int
    exact ⟨_, _, rfl, rfl, h.1, k.flat S (.int _) h.2⟩
  | mod =>
    cases a <;> cases b <;> first | exact False.elim h | skip
    cases rx.int; cases ry.int
    exact ⟨_, _, rfl, rfl, h.1, k.flat S (.int _) h.2⟩
  | pow =>
    cases a <;> cases b <;> first | exact False.elim h | skip
    cases rx.int; cases ry.int
    exact ⟨_, _, rfl, rfl, h.1, k.flat S (.int _) h.2⟩
  | band =>
    cases a <;> cases b <;> first | exact False.elim h | skip
    cases rx.int; cases ry.int
    exact ⟨_, _, rfl, rfl, k.flat S (.int _) h⟩
  | bor =>
    cases a <;> cases b <;> first | exact False.elim h | skip
    cases rx.int; cases ry.int
    exact ⟨_, _, rfl, rfl, k.flat S (.int _) h⟩
  | bxor =>
    cases a <;> cases b <;> first | exact False.elim h | skip
    cases rx.int; cases ry.int
    exact ⟨_, _, rfl, rfl, k.flat S (.int _) h⟩
  | shl =>
    cases a <;> cases b <;> first | exact False.elim h | skip
    cases rx.int; cases ry.int
    obtain ⟨⟨h0, h1⟩, h⟩ := h
    rcases h1 with ⟨h1, h2⟩ | h1
    · exact .inl ⟨_, _, rfl, rfl, ⟨h0, h1, h2⟩, k.flat S (.int _) h⟩
    · exact .inr ⟨_, _, rfl, rfl, ⟨h0, h1⟩, k.flat S (.int _) h⟩
  | shr =>
    cases a <;> cases b <;> first | exact False.elim h | skip
    cases rx.int; cases ry.int
    exact ⟨_, _, rfl, rfl, h.1, k.flat S (.int _) h.2⟩
theorem le_bop {ta tb : LTE} {a b : Expr} {pos : Pos} (o : Bop) (ha : LE X G a ta) (hb : LE X G b tb) :
    LE X G (.BinOp a (opOf o) b pos) (fun ρ η Q => ta ρ η fun v η1 => tb ρ η1 fun w η2 => onView v.fz η2 fun x => onView w.fz η2 fun y => bopD o x y fun r => Q r η2) := by
  refine (pe_op (ok_bop o) ha hb).weak ?_
  rintro σ H Q ⟨ρ, L, Z, η, Qp, S, s, t, k⟩
  refine step2 (P := fun x y η2 => bopD o x y fun r => Qp r η2) S s t fun xv yv x y L2 Z2 η2 H2 S2 s2 E rx ry q => ?_
  refine bop_ok S2 o x y rx ry q fun x v L' Z' η' H' S' E' r q => ?_
  obtain ⟨rfl, q⟩ := q
  exact k x v L' Z' _ H' S' (E.trans E') r q
end
end Pl

namespace Pl
open PySem PySem.Spec PyProof.Rows L2

section
variable {X : Cx} {G : Gh} {L : Loc} {Z : Hp} {η : Reg} {H : Hp} {x y : V} {Qd : Vl → Prop} {Q : VK}
/-! ## names and constants -/
theorem le_var {Γ : Env} {i : Nat} {n : Str} {pos : Pos} (hN : X.N[i]? = some n) (hv : Vis X.env.scope n) (hd : (n == ("__debug__" : Str)) = false) (hc : (n == ("__classdict__" : Str)) = false) :
    LE X G (.Name n pos) (wE Γ (.var i)) := by
  refine (pe_var hN hv hd hc).weak ?_
  rintro σ H Q ⟨ρ, L, Z, η, Qp, S, s, t, k⟩
  simp only [wE] at t
  cases e : ρ[i]? with
  | none => rw [e] at t; exact False.elim t
  | some o =>
    rw [e] at t
    obtain ⟨u, hu, r⟩ := s.get e
    cases o with
    | none => exact False.elim t
    | some v =>
      cases v with
      | dat d =>
        obtain ⟨w, rfl, r⟩ := r
        exact ⟨w, hu, k w (.dat d) L Z η H S Ext.refl r t⟩
      | ptr n =>
        obtain ⟨a, ks, h1, rfl⟩ := r
        exact ⟨_, hu, k _ (.ptr n) L Z η H S Ext.refl ⟨a, ks, h1, rfl⟩ t⟩
      | fr o => exact False.elim r
theorem le_const {Γ : Env} {e : Expr} {v : V} {d : D} (h : PE X e (tC v)) (r : ∀ H : Hp, Rp H v d) {w : LTE} (hw : w = fun _ η Q => Q (.dat d) η) : LE X G e w := by
  subst hw
  refine h.weak ?_
  rintro σ H Q ⟨ρ, L, Z, η, Qp, S, s, t, k⟩
  exact k v (.dat d) L Z η H S Ext.refl (r Z) t

/-! ## comparisons -/
def copOf : Cop → CmpOp
  | .eq => .Eq | .ne => .NotEq | .lt => .Lt | .le => .LtE | .gt => .Gt | .ge => .GtE | .isin => .In | .notin => .NotIn | .isnone => .Is | .notnone => .IsNot
def rEqP : R2 := fun x y H Q => ∃ d e, Rp H x d ∧ Rp H y e ∧ (d.depth ≤ 60 ∨ e.depth ≤ 60) ∧ Q (.bl (PyData.eqv d e)) H
def rNeP : R2 := fun x y H Q => ∃ d e, Rp H x d ∧ Rp H y e ∧ (d.depth ≤ 60 ∨ e.depth ≤ 60) ∧ Q (.bl (!PyData.eqv d e)) H
theorem op_eqP (hu : X.A.units + 64 < cLine) : OpR X (compareOp .Eq) rEqP := by
  rintro pins s σ H x y v u Q I rx ry ⟨d, e, hd, he, sz, q⟩
  obtain ⟨as, r1⟩ := Dp.reads I d x v (Rp.dp _ _ hd) rx
  obtain ⟨bs, r2⟩ := Dp.reads I e y u (Rp.dp _ _ he) ry
  exact SeqAt.eq_plain r1 r2 (Rp.plain _ _ hd) (Rp.plain _ _ he) (by omega) ⟨.bl _, H, I, rfl, q⟩
theorem op_neP (hu : X.A.units + 64 < cLine) : OpR X (compareOp .NotEq) rNeP := by
  rintro pins s σ H x y v u Q I rx ry ⟨d, e, hd, he, sz, q⟩
  obtain ⟨as, r1⟩ := Dp.reads I d x v (Rp.dp _ _ hd) rx
  obtain ⟨bs, r2⟩ := Dp.reads I e y u (Rp.dp _ _ he) ry
  exact SeqAt.ne_plain r1 r2 (Rp.plain _ _ hd) (Rp.plain _ _ he) (by omega) ⟨.bl _, H, I, rfl, q⟩
def rInP (neg : Bool) : R2 := fun x y H Q => ∃ d ys, Rp H x d ∧ (Rp H y (.list ys) ∨ Rp H y (.tuple ys)) ∧ (PyData.depthAll ys ≤ 60 ∨ d.depth ≤ 60) ∧
  Q (.bl (if neg then !(ys.any fun y => PyData.eqv y d) else ys.any fun y => PyData.eqv y d)) H
theorem op_inP (hu : X.A.units + 64 < cLine) : OpR X (compareOp .In) (rInP false) := by
  rintro pins s σ H x y v u Q I rx ry ⟨d, ys, hd, hy, sz, q⟩
  obtain ⟨as, r1⟩ := Dp.reads I d x v (Rp.dp _ _ hd) rx
  rcases hy with hy | hy
  · obtain ⟨bs, r2⟩ := Dp.reads I _ y u (Rp.dp _ _ hy) ry
    have pl := Rp.plain _ _ hy
    rw [PyData.plain] at pl
    exact SeqAt.in_list_data r2 r1 pl (Rp.plain _ _ hd) (by omega) ⟨.bl _, H, I, rfl, q⟩
  · obtain ⟨bs, r2⟩ := Dp.reads I _ y u (Rp.dp _ _ hy) ry
    have pl := Rp.plain _ _ hy
    rw [PyData.plain] at pl
    exact SeqAt.in_tuple_data r2 r1 pl (Rp.plain _ _ hd) (by omega) ⟨.bl _, H, I, rfl, q⟩
theorem op_notinP (hu : X.A.units + 64 < cLine) : OpR X (compareOp .NotIn) (rInP true) := by
  rintro pins s σ H x y v u Q I rx ry ⟨d, ys, hd, hy, sz, q⟩
  obtain ⟨as, r1⟩ := Dp.reads I d x v (Rp.dp _ _ hd) rx
  rcases hy with hy | hy
  · obtain ⟨bs, r2⟩ := Dp.reads I _ y u (Rp.dp _ _ hy) ry
    have pl := Rp.plain _ _ hy
    rw [PyData.plain] at pl
    exact SeqAt.notIn_list_data r2 r1 pl (Rp.plain _ _ hd) (by omega) ⟨.bl _, H, I, rfl, q⟩
  · obtain ⟨bs, r2⟩ := Dp.reads I _ y u (Rp.dp _ _ hy) ry
    have pl := Rp.plain _ _ hy
    rw [PyData.plain] at pl
    exact SeqAt.notIn_tuple_data r2 r1 pl (Rp.plain _ _ hd) (by omega) ⟨.bl _, H, I, rfl, q⟩
def rCop : Cop → R2
  | .eq => rEqP
  | .ne => rNeP
  | .lt => fun x y H Q => rI0 (fun i j => .bl (decide (i < j))) x y H Q ∨ ∃ i j, x = .str i ∧ y = .str j ∧ Q (.bl (decide (i.cps.toList < j.cps.toList))) H
  | .le => rI0 fun i j => .bl (decide (i ≤ j))
  | .gt => rI0 fun i j => .bl (decide (j < i))
  | .ge => rI0 fun i j => .bl (decide (j ≤ i))
  | .isin => fun x y H Q => (∃ (c : Nat) (z : Str), x = .str ⟨#[c]⟩ ∧ y = .str z ∧ Q (.bl (decide (c ∈ z.cps.toList))) H) ∨ rInP false x y H Q
  | .notin => fun x y H Q => (∃ (c : Nat) (z : Str), x = .str ⟨#[c]⟩ ∧ y = .str z ∧ Q (.bl (!decide (c ∈ z.cps.toList))) H) ∨ rInP true x y H Q
  | .isnone => fun x y H Q => y = .non ∧ Q (.bl (decide (x = .non))) H
  | .notnone => fun x y H Q => y = .non ∧ Q (.bl (!decide (x = .non))) H
theorem ok_cop (hu : X.A.units + 64 < cLine) : ∀ o : Cop, OpR X (compareOp (copOf o)) (rCop o)
  | .eq => op_eqP hu
  | .ne => op_neP hu
  | .lt => OpR.or op_lt op_lt_str
  | .le => op_le
  | .gt => op_gt
  | .ge => op_ge
  | .isin => OpR.or op_in_sign (op_inP hu)
  | .notin => OpR.or op_notIn_sign (op_notinP hu)
  | .isnone => op_isN
  | .notnone => op_notN
theorem isNone_of {Z : Hp} {x : V} {d : D} (h : Rp Z x d) : decide (x = .non) = isNone d := by
  cases h <;> rfl
theorem cop_ok (S : SI G L Z η H) : ∀ (o : Cop) (a b : D), Vw Z H x a → Vw Z H y b → cmpD o a b (fun r => Qd (.dat (.bool r))) → LC G L Z η Qd Q → rCop o x y H Q := by
  intro o a b rx ry h k
  have hin : ∀ (neg : Bool) (ys : List D), (Rp H y (.list ys) ∨ Rp H y (.tuple ys)) → ((PyData.depthAll ys ≤ 60 ∨ a.depth ≤ 60) ∧ Qd (.dat (.bool (if neg then !(ys.any fun y => PyData.eqv y a) else ys.any fun y => PyData.eqv y a)))) → rInP neg x y H Q :=
    fun neg ys hy ⟨h1, h2⟩ => ⟨a, ys, rx.rp S.zh, hy, h1, k.flat S (.bl _) h2⟩
  have rb := ry.rp S.zh
  cases o with
  | eq => exact ⟨a, b, rx.rp S.zh, rb, h.1, k.flat S (.bl _) h.2⟩
  | ne => exact ⟨a, b, rx.rp S.zh, rb, h.1, k.flat S (.bl _) h.2⟩
  | lt =>
    cases a <;> cases b <;> first | exact False.elim h | skip
    · cases rx.int; cases ry.int
      exact .inl ⟨_, _, rfl, rfl, k.flat S (.bl _) h⟩
    · cases rx.str; cases ry.str
      exact .inr ⟨_, _, rfl, rfl, k.flat S (.bl _) h⟩
  | le =>
    cases a <;> cases b <;> first | exact False.elim h | skip
    cases rx.int; cases ry.int
    exact ⟨_, _, rfl, rfl, k.flat S (.bl _) h⟩
  | gt =>
    cases a <;> cases b <;> first | exact False.elim h | skip
    cases rx.int; cases ry.int
    exact ⟨_, _, rfl, rfl, k.flat S (.bl _) h⟩
  | ge =>
    cases a <;> cases b <;> first | exact False.elim h | skip
    cases rx.int; cases ry.int
    exact ⟨_, _, rfl, rfl, k.flat S (.bl _) h⟩
  | isin =>
    cases b with
    | list ys => exact .inr (hin false ys (.inl rb) (by cases a <;> exact h))
    | tuple ys => exact .inr (hin false ys (.inr rb) (by cases a <;> exact h))
    | str z =>
      cases a <;> first | exact False.elim h | skip
      obtain ⟨c, rfl, h⟩ := h
      cases rx.str; cases ry.str
      exact .inl ⟨c, z, rfl, rfl, k.flat S (.bl _) h⟩
    | _ => cases a <;> exact False.elim h
  | notin =>
    cases b with
    | list ys => exact .inr (hin true ys (.inl rb) (by cases a <;> exact h))
    | tuple ys => exact .inr (hin true ys (.inr rb) (by cases a <;> exact h))
    | str z =>
      cases a <;> first | exact False.elim h | skip
      obtain ⟨c, rfl, h⟩ := h
      cases rx.str; cases ry.str
      exact .inl ⟨c, z, rfl, rfl, k.flat S (.bl _) h⟩
    | _ => cases a <;> exact False.elim h
  | isnone =>
    cases b <;> first | exact False.elim h | skip
    refine ⟨Rp.non_inv rb, ?_⟩
    rw [isNone_of (rx.rp S.zh)]
    exact k.flat S (.bl _) h
  | notnone =>
    cases b <;> first | exact False.elim h | skip
    refine ⟨Rp.non_inv rb, ?_⟩
    rw [isNone_of (rx.rp S.zh)]
    exact k.flat S (.bl _) h

/-! ## values that are tests -/
theorem liftT_as {ta : LTE} {σ : SV} {H : Hp} {Q : Bool → Hp → Prop} (h : liftT G (asT ta) σ H Q) : liftE G ta σ H fun x H' => ∃ k, x = .bl k ∧ Q k H' := by
  obtain ⟨ρ, L, Z, η, Qp, S, s, t, k⟩ := h
  refine step' S s t fun x v L1 Z1 η1 H1 S1 s1 E1 r1 q => ?_
  cases v with
  | dat d =>
    cases d <;> first | exact False.elim q | skip
    exact ⟨_, Rp.bl_inv r1, k _ L1 Z1 η1 H1 S1 E1 q⟩
  | ptr n => exact False.elim q
  | fr o => exact False.elim q
/-- an expression's lifted reading serves as a test's -/
theorem lt_of {e : Expr} {w : LTE} {t : TE} (h : PT X e (tB t)) (hw : ∀ σ H Q, liftE G w σ H Q → t σ H Q) : LT X G e (asT w) := h.weak fun σ H Q q => hw σ H _ (liftT_as q)
theorem lt_val {e : Expr} {w : LTE} (h : LE X G e w) (he : ∀ whole, isTrue e X.env whole = (do let v ← whole; standAt e.pos; holding [v] (truthy v))) : LT X G e (asT w) := lt_of (pt_val h he) fun _ _ _ q => q
def cmpW (o : Cop) (ta tb : LTE) : LTE := fun ρ η Q => ta ρ η fun v η1 => tb ρ η1 fun w η2 => onView v.fz η2 fun x => onView w.fz η2 fun y => cmpD o x y fun r => Q (.dat (.bool r)) η2
theorem cmpW_low {ta tb : LTE} (o : Cop) : ∀ σ H Q, liftE G (cmpW o ta tb) σ H Q → tOp (rCop o) (liftE G ta) (liftE G tb) σ H Q := by
  rintro σ H Q ⟨ρ, L, Z, η, Qp, S, s, t, k⟩
  refine step2 (P := fun x y η2 => cmpD o x y fun r => Qp (.dat (.bool r)) η2) S s t fun xv yv x y L2 Z2 η2 H2 S2 s2 E rx ry q => ?_
  refine cop_ok (Qd := fun v => Qp v η2) S2 o x y rx ry q fun x v L' Z' η' H' S' E' r q => ?_
  obtain ⟨rfl, q⟩ := q
  exact k x v L' Z' _ H' S' (E.trans E') r q
theorem le_cmp {ta tb : LTE} {a b : Expr} {pos : Pos} (hu : X.A.units + 64 < cLine) (o : Cop) (ha : LE X G a ta) (hb : LE X G b tb) (hm : behindInMarks (copOf o) b = false) :
    LE X G (.Compare a [copOf o] [b] pos) (cmpW o ta tb) ∧ LT X G (.Compare a [copOf o] [b] pos) (asT (cmpW o ta tb)) :=
  ⟨(pe_cmpR (ok_cop hu o) ha hb hm).weak (cmpW_low o), lt_of (pt_cmpR (ok_cop hu o) ha hb hm) (cmpW_low o)⟩
def chnW (o p : Cop) (ta tb tc : LTE) : LTE := fun ρ η Q => ta ρ η fun v η1 => tb ρ η1 fun w η2 => onView v.fz η2 fun x => onView w.fz η2 fun y => cmpD o x y fun r =>
    if r = true then tc ρ η2 fun u η3 => onView w.fz η3 fun y => onView u.fz η3 fun z => cmpD p y z fun q => Q (.dat (.bool q)) η3 else Q (.dat (.bool false)) η2
theorem chnW_low {ta tb tc : LTE} (o p : Cop) : ∀ σ H Q, liftE G (chnW o p ta tb tc) σ H Q → tChain (rCop o) (rCop p) (liftE G ta) (liftE G tb) (liftE G tc) σ H Q := by
  rintro σ H Q ⟨ρ, L, Z, η, Qp, S, s, t, k⟩
  unfold chnW at t
  refine step (P := fun v η1 => tb ρ η1 fun w η2 => onView v η2 fun x => onView w.fz η2 fun y => cmpD o x y fun r =>
    if r = true then tc ρ η2 fun u η3 => onView w.fz η3 fun y => onView u.fz η3 fun z => cmpD p y z fun q => Qp (.dat (.bool q)) η3 else Qp (.dat (.bool false)) η2) S s t fun xv v L1 Z1 η1 H1 S1 s1 E1 r1 t1 => ?_
  refine step (P := fun w η2 => onView v η2 fun x => onView w η2 fun y => cmpD o x y fun r =>
    if r = true then tc ρ η2 fun u η3 => onView w η3 fun y => onView u.fz η3 fun z => cmpD p y z fun q => Qp (.dat (.bool q)) η3 else Qp (.dat (.bool false)) η2) S1 s1 t1 fun yv w L2 Z2 η2 H2 S2 s2 E2 r2 q => ?_
  obtain ⟨x, ex, q⟩ := onView_some q
  obtain ⟨y, ey, q⟩ := onView_some q
  refine cop_ok (Qd := fun v => match v with
    | .dat (.bool r) => if r = true then tc ρ η2 fun u η3 => onView w η3 fun y => onView u.fz η3 fun z => cmpD p y z fun q => Qp (.dat (.bool q)) η3 else Qp (.dat (.bool false)) η2
    | _ => False) S2 o x y ((r1.ext E2 (view_nofr ex)).view S2 ex) (r2.view S2 ey) q fun z v' L' Z' η' H' S' E' r q => ?_
  obtain ⟨rfl, q⟩ := q
  cases v' with
  | dat d =>
    cases d <;> first | exact False.elim q | skip
    rename_i b
    refine ⟨b, Rp.bl_inv r, ?_⟩
    have E3 : Ext L Z L' Z' := (E1.trans E2).trans E'
    cases b with
    | false => exact k _ (.dat (.bool false)) L' Z' _ _ S' E3 (.bl _) q
    | true =>
      refine step (P := fun u η3 => onView w η3 fun y => onView u η3 fun z => cmpD p y z fun q => Qp (.dat (.bool q)) η3) S' (s2.ext E') q fun zv u L4 Z4 η4 H4 S4 s4 E4 r4 q => ?_
      obtain ⟨y', ey', q⟩ := onView_some q
      obtain ⟨z', ez', q⟩ := onView_some q
      refine cop_ok (Qd := fun v => Qp v η4) S4 p y' z' ((r2.ext (E'.trans E4) (view_nofr ey')).view S4 ey') (r4.view S4 ez') q fun x v L5 Z5 η5 H5 S5 E5 r q => ?_
      obtain ⟨rfl, q⟩ := q
      exact k x v L5 Z5 _ _ S5 ((E3.trans E4).trans E5) r q
  | ptr n => exact False.elim q
  | fr o => exact False.elim q
theorem le_chn {ta tb tc : LTE} {a b c : Expr} {pos : Pos} (hu : X.A.units + 64 < cLine) (o p : Cop) (ha : LE X G a ta) (hb : LE X G b tb) (hc : LE X G c tc) (hm : lastMarks [copOf o, copOf p] [b, c] = false) :
    LE X G (.Compare a [copOf o, copOf p] [b, c] pos) (chnW o p ta tb tc) ∧ LT X G (.Compare a [copOf o, copOf p] [b, c] pos) (asT (chnW o p ta tb tc)) :=
  ⟨(pe_chain (ok_cop hu o) (ok_cop hu p) ha hb hc hm).weak (chnW_low o p), lt_of (pt_chain (ok_cop hu o) (ok_cop hu p) ha hb hc hm) (chnW_low o p)⟩

/-! ## and, or, not, if -/
theorem stepB {ta : LTE} {R : V → Hp → Prop} {P : Bool → Reg → Prop} {σ : SV} {ρ : Sl} (S : SI G L Z η H) (s : SS L Z σ ρ) (t : ta ρ η fun v η1 => match v with
    | .dat (.bool b) => P b η1
    | _ => False)
    (k : ∀ b L1 Z1 η1 H1, SI G L1 Z1 η1 H1 → SS L1 Z1 σ ρ → Ext L Z L1 Z1 → P b η1 → R (.bl b) H1) : liftE G ta σ H R := by
  refine step' S s t fun x v L1 Z1 η1 H1 S1 s1 E1 r1 q => ?_
  cases v with
  | dat d =>
    cases d <;> first | exact False.elim q | skip
    cases Rp.bl_inv r1
    exact k _ L1 Z1 η1 H1 S1 s1 E1 q
  | ptr n => exact False.elim q
  | fr o => exact False.elim q
def andW (ta tb : LTE) : LTE := fun ρ η Q => ta ρ η fun v η1 => match v with
    | .dat (.bool b) => if b = true then tb ρ η1 Q else Q (.dat (.bool false)) η1
    | _ => False
def orW (ta tb : LTE) : LTE := fun ρ η Q => ta ρ η fun v η1 => match v with
    | .dat (.bool b) => if b = true then Q (.dat (.bool true)) η1 else tb ρ η1 Q
    | _ => False
def notW (ta : LTE) : LTE := fun ρ η Q => ta ρ η fun v η1 => match v with
    | .dat (.bool b) => Q (.dat (.bool (!b))) η1
    | _ => False
def iteW (tc ta tb : LTE) : LTE := fun ρ η Q => tc ρ η fun v η1 => match v with
    | .dat (.bool b) => if b = true then ta ρ η1 Q else tb ρ η1 Q
    | _ => False
section
variable {a b c : Expr} {rest : List Expr} {ta tb tc : LTE} {pos : Pos}
theorem le_and (ha : LE X G a ta) (hb : LE X G (.BoolOp .And (b :: rest) pos) tb) : LE X G (.BoolOp .And (a :: b :: rest) pos) (andW ta tb) := by
  refine (pe_and ha hb).weak ?_
  rintro σ H Q ⟨ρ, L, Z, η, Qp, S, s, t, k⟩
  refine stepB (P := fun b η1 => if b = true then tb ρ η1 Qp else Qp (.dat (.bool false)) η1) S s t fun d L1 Z1 η1 H1 S1 s1 E1 q => ⟨d, rfl, ?_⟩
  cases d with
  | true => rw [if_pos rfl]; exact lift_of S1 s1 q (Cont.shift k E1)
  | false => exact Cont.dat (Cont.shift k E1) S1 (.bl _) q
theorem le_or (ha : LE X G a ta) (hb : LE X G (.BoolOp .Or (b :: rest) pos) tb) : LE X G (.BoolOp .Or (a :: b :: rest) pos) (orW ta tb) := by
  refine (pe_or ha hb).weak ?_
  rintro σ H Q ⟨ρ, L, Z, η, Qp, S, s, t, k⟩
  refine stepB (P := fun b η1 => if b = true then Qp (.dat (.bool true)) η1 else tb ρ η1 Qp) S s t fun d L1 Z1 η1 H1 S1 s1 E1 q => ⟨d, rfl, ?_⟩
  cases d with
  | true => rw [if_pos rfl]; exact Cont.dat (Cont.shift k E1) S1 (.bl _) q
  | false => exact lift_of S1 s1 q (Cont.shift k E1)
theorem le_one {op : BoolOp} (ha : LE X G a ta) : LE X G (.BoolOp op [a] pos) ta := pe_one ha
/-- the last part of an and (or): a truth value -/
theorem boolOnly (ha : LE X G a ta) {w : LTE} (hw : ∀ ρ η Q, w ρ η Q → ta ρ η fun v η1 => match v with
    | .dat (.bool b) => Q (.dat (.bool b)) η1
    | _ => False) : LE X G a w := by
  refine ha.weak ?_
  rintro σ H Q ⟨ρ, L, Z, η, Qp, S, s, t, k⟩
  exact stepB (P := fun b η1 => Qp (.dat (.bool b)) η1) S s (hw _ _ _ t) fun d L1 Z1 η1 H1 S1 s1 E1 q => Cont.dat (Cont.shift k E1) S1 (.bl _) q
theorem le_not (ha : LE X G a ta) : LE X G (.UnaryOp .Not a pos) (notW ta) := by
  refine (pe_not ha).weak ?_
  rintro σ H Q ⟨ρ, L, Z, η, Qp, S, s, t, k⟩
  exact stepB (P := fun b η1 => Qp (.dat (.bool (!b))) η1) S s t fun d L1 Z1 η1 H1 S1 s1 E1 q => ⟨d, rfl, Cont.dat (Cont.shift k E1) S1 (.bl _) q⟩
theorem le_ite (hc : LT X G c (asT tc)) (ha : LE X G a ta) (hb : LE X G b tb) : LE X G (.IfExp c a b pos) (iteW tc ta tb) := by
  refine (pe_ifExp hc ha hb).weak ?_
  rintro σ H Q ⟨ρ, L, Z, η, Qp, S, s, t, k⟩
  refine stepT (P := fun b η1 => if b = true then ta ρ η1 Qp else tb ρ η1 Qp) S s t fun d L1 Z1 η1 H1 S1 s1 E1 q => ?_
  cases d with
  | true => rw [if_pos rfl]; exact lift_of S1 s1 q (Cont.shift k E1)
  | false => exact lift_of S1 s1 q (Cont.shift k E1)
/-! .. as tests -/
theorem asT_and {ρ : Sl} {Q : Bool → Reg → Prop} (h : asT (andW ta tb) ρ η Q) : asT ta ρ η fun d η1 => if d = true then asT tb ρ η1 Q else Q false η1 := h
theorem lw_and (ha : LT X G a (asT ta)) (hb : PW X (.BoolOp .And (b :: rest) pos) (liftT G (asT tb))) : PW X (.BoolOp .And (a :: b :: rest) pos) (liftT G (asT (andW ta tb))) := by
  refine (pw_and ha hb).weak ?_
  rintro σ H Q ⟨ρ, L, Z, η, Qp, S, s, t, k⟩
  refine stepT (P := fun d η1 => if d = true then asT tb ρ η1 Qp else Qp false η1) S s t fun d L1 Z1 η1 H1 S1 s1 E1 q => ?_
  cases d with
  | true => rw [if_pos rfl]; exact ⟨ρ, L1, Z1, η1, Qp, S1, s1, q, fun b L' Z' η' H' S' E' q => k b L' Z' η' H' S' (E1.trans E') q⟩
  | false => exact k false L1 Z1 η1 H1 S1 E1 q
theorem lw_or (ha : LT X G a (asT ta)) (hb : PW X (.BoolOp .Or (b :: rest) pos) (liftT G (asT tb))) : PW X (.BoolOp .Or (a :: b :: rest) pos) (liftT G (asT (orW ta tb))) := by
  refine (pw_or ha hb).weak ?_
  rintro σ H Q ⟨ρ, L, Z, η, Qp, S, s, t, k⟩
  refine stepT (P := fun d η1 => if d = true then Qp true η1 else asT tb ρ η1 Qp) S s t fun d L1 Z1 η1 H1 S1 s1 E1 q => ?_
  cases d with
  | true => rw [if_pos rfl]; exact k true L1 Z1 η1 H1 S1 E1 q
  | false => exact ⟨ρ, L1, Z1, η1, Qp, S1, s1, q, fun b L' Z' η' H' S' E' q => k b L' Z' η' H' S' (E1.trans E') q⟩
theorem lt_weak {e : Expr} {w w' : LTE} (h : LT X G e (asT w)) (hw : ∀ ρ η Q, asT w' ρ η Q → asT w ρ η Q) : LT X G e (asT w') := by
  refine h.weak ?_
  rintro σ H Q ⟨ρ, L, Z, η, Qp, S, s, t, k⟩
  exact ⟨ρ, L, Z, η, Qp, S, s, hw _ _ _ t, k⟩
theorem lt_not (ha : LT X G a (asT ta)) : LT X G (.UnaryOp .Not a pos) (asT (notW ta)) := by
  refine (pt_not ha).weak ?_
  rintro σ H Q ⟨ρ, L, Z, η, Qp, S, s, t, k⟩
  exact stepT (P := fun d η1 => Qp (!d) η1) S s t fun d L1 Z1 η1 H1 S1 s1 E1 q => k _ L1 Z1 η1 H1 S1 E1 q
/-! ## minus -/
theorem le_neg (ha : LE X G a ta) : LE X G (.UnaryOp .USub a pos) (fun ρ η Q => ta ρ η fun v η1 => match v.fz with
    | .dat (.int i) => Q (.dat (.int (-i))) η1
    | _ => False) := by
  refine (pe_un un_neg ha).weak ?_
  rintro σ H Q ⟨ρ, L, Z, η, Qp, S, s, t, k⟩
  refine step (P := fun v η1 => match v with
    | .dat (.int i) => Qp (.dat (.int (-i))) η1
    | _ => False) S s t fun x v L1 Z1 η1 H1 S1 s1 E1 r1 q => ?_
  cases v with
  | dat d =>
    cases d <;> first | exact False.elim q | skip
    exact ⟨_, Rp.int_inv r1, Cont.dat (Cont.shift k E1) S1 (.int _) q⟩
  | ptr n => exact False.elim q
  | fr o => exact False.elim q
end
end
end Pl

namespace Pl
open PySem PySem.Spec PyProof.Rows L2

section
variable {X : Cx} {G : Gh} {L : Loc} {Z : Hp} {η : Reg} {H : Hp} {Q : VK}
/-! ## arguments, displays -/
theorem RepVs.ext {L' : Loc} {Z' H' : Hp} {xs : List V} {vs : List Vl} (e : Ext L Z L' Z') (h : RepVs G L Z H xs vs) : RepVs G L' Z' H' xs vs := Paired.mapP h fun _ _ q => ⟨RepV.ext e q.1 q.2, q.2⟩
theorem RepVs.datas : ∀ {xs : List V} {ds : List D}, RepVs G L Z H xs (ds.map Vl.dat) → RpAll Z xs ds
  | _, [], h => by cases h; exact .nil
  | _, d :: ds, h => by
    cases h with
    | cons r t => exact .cons r.1 (RepVs.datas t)
theorem la_nil : LA X G [] (fun _ η Q => Q [] η) := by
  refine pa_nil.weak ?_
  rintro σ H Q ⟨ρ, L, Z, η, Qp, S, s, t, k⟩
  exact k [] [] L Z η H S Ext.refl .nil t
theorem la_cons {e : Expr} {es : List Expr} {te : LTE} {t : LTA} (he : LE X G e te) (hr : LA X G es t) (hs : starEach (e :: es) X.env = (false, eval e X.env) :: starEach es X.env) :
    LA X G (e :: es) (fun ρ η Q => te ρ η fun v η1 => v.fz.settled ∧ t ρ η1 fun vs η2 => Q (v.fz :: vs) η2) := by
  refine (pa_cons he hr hs).weak ?_
  rintro σ H Q ⟨ρ, L, Z, η, Qp, S, s, tt, k⟩
  refine step (P := fun v η1 => v.settled ∧ t ρ η1 fun vs η2 => Qp (v :: vs) η2) S s tt fun x v L1 Z1 η1 H1 S1 s1 E1 r1 q => ?_
  obtain ⟨hv, q⟩ := q
  refine stepA (P := fun vs η2 => Qp (v :: vs) η2) S1 s1 q fun xs vs L2 Z2 η2 H2 S2 s2 E2 r2 q => ?_
  have nf : ∀ o, v ≠ .fr o := fun o e => by subst e; exact hv
  exact k _ _ L2 Z2 η2 H2 S2 (E1.trans E2) (.cons ⟨r1.ext E2 nf, nf⟩ r2) q
theorem le_tup {es : List Expr} {t : LTA} {k1 : Nat} {pos : Pos} (h : LA X G es t) : LE X G (.Tuple es k1 pos) (fun ρ η Q => t ρ η fun vs η1 => vs.length ≤ sizeLine ∧ ∃ ds, vs = ds.map Vl.dat ∧ Q (.dat (.tuple ds)) η1) := by
  refine (pe_tupF h).weak ?_
  rintro σ H Q ⟨ρ, L, Z, η, Qp, S, s, tt, k⟩
  refine stepA (P := fun vs η1 => vs.length ≤ sizeLine ∧ ∃ ds, vs = ds.map Vl.dat ∧ Qp (.dat (.tuple ds)) η1) S s tt fun xs vs L1 Z1 η1 H1 S1 s1 E1 r1 q => ?_
  obtain ⟨hz, ds, rfl, q⟩ := q
  exact ⟨by rw [r1.length]; exact hz, Cont.tup (Cont.shift k E1) S1 r1.datas q⟩
theorem le_lst {es : List Expr} {t : LTA} {pos : Pos} (h : LA X G es t) : LE X G (.List es pos) (fun ρ η Q => t ρ η fun vs η1 => vs.length ≤ sizeLine ∧ ∃ ds, vs = ds.map Vl.dat ∧ Q (.fr (.lst ds)) η1) := by
  refine (pe_lst h).weak ?_
  rintro σ H Q ⟨ρ, L, Z, η, Qp, S, s, tt, k⟩
  refine stepA (P := fun vs η1 => vs.length ≤ sizeLine ∧ ∃ ds, vs = ds.map Vl.dat ∧ Qp (.fr (.lst ds)) η1) S s tt fun xs vs L1 Z1 η1 H1 S1 s1 E1 r1 q => ?_
  obtain ⟨hz, ds, rfl, q⟩ := q
  exact ⟨by rw [r1.length]; exact hz, Cont.lst (Cont.shift k E1) S1 r1.datas q⟩

/-! ## items and slices -/
theorem atI_rp {xs : List V} {ds : List D} {i : Int} {d : D} (r : RpAll Z xs ds) (h : atI ds i = some d) : ∃ v, atI xs i = some v ∧ Rp Z v d := by
  unfold atI at h ⊢
  rw [r.length]
  cases e : ixN ds.length i with
  | none => rw [e] at h; cases h
  | some j => rw [e] at h; exact r.get h
theorem le_idx {a b : Expr} {ta tb : LTE} {pos : Pos} (ha : LE X G a ta) (hb : LE X G b tb) (hs : PlainIx b) :
    LE X G (.Subscript a b pos) (fun ρ η Q => ta ρ η fun v η1 => tb ρ η1 fun w η2 => onView v.fz η2 fun x => onView w.fz η2 fun y => idxD x y fun r => Q (.dat r) η2) := by
  refine (pe_ix ix_seq ha hb hs).weak ?_
  rintro σ H Q ⟨ρ, L, Z, η, Qp, S, s, t, k⟩
  refine step2 (P := fun x y η2 => idxD x y fun r => Qp (.dat r) η2) S s t fun xv yv x y L2 Z2 η2 H2 S2 s2 E rx ry q => ?_
  have k2 := Cont.shift k E
  cases x <;> cases y <;> first | exact False.elim q | skip
  · cases rx.str; cases ry.int
    obtain ⟨hz, c, hc, q⟩ := q
    exact .inr (.inr ⟨_, _, c, rfl, rfl, hz, hc, Cont.dat k2 S2 (.str _) q⟩)
  · cases ry.int
    obtain ⟨d, hd, q⟩ := q
    obtain ⟨p, xs, rfl, hp, r⟩ := rx
    obtain ⟨v, hv, rv⟩ := atI_rp r hd
    exact .inl ⟨p, xs, _, v, rfl, rfl, .inl hp, hv, Cont.dat k2 S2 rv q⟩
  · cases ry.int
    obtain ⟨d, hd, q⟩ := q
    obtain ⟨p, o, xs, rfl, hp, _, r⟩ := rx.tup
    obtain ⟨v, hv, rv⟩ := atI_rp r hd
    exact .inr (.inl ⟨p, xs, _, v, rfl, rfl, .inl (.inr ⟨_, S2.zh _ _ hp⟩), hv, Cont.dat k2 S2 rv q⟩)
abbrev LTO := Sl → Reg → (Option Int → Reg → Prop) → Prop
def liftO (G : Gh) (t : LTO) : TO := fun σ H Q => ∃ ρ L Z η Qp, SI G L Z η H ∧ SS L Z σ ρ ∧ t ρ η Qp ∧
  ∀ b L' Z' η' H', SI G L' Z' η' H' → Ext L Z L' Z' → Qp b η' → Q b H'
theorem lo_none : PO X none (liftO G fun _ η Q => Q none η) := by
  refine ⟨fun pins s σ H Q I h => po_none.run pins s σ H Q I ?_⟩
  obtain ⟨ρ, L, Z, η, Qp, S, s, t, k⟩ := h
  exact k none L Z η H S Ext.refl t
theorem lo_some {a : Expr} {ta : LTE} (ha : LE X G a ta) : PO X (some a) (liftO G fun ρ η Q => ta ρ η fun v η1 => match v with
    | .dat (.int i) => Q (some i) η1
    | _ => False) := by
  refine ⟨fun pins s σ H Q I h => (po_some ha).run pins s σ H Q I ?_⟩
  obtain ⟨ρ, L, Z, η, Qp, S, s, t, k⟩ := h
  refine step' (P := fun v η1 => match v with
    | .dat (.int i) => Qp (some i) η1
    | _ => False) S s t fun x v L1 Z1 η1 H1 S1 s1 E1 r1 q => ?_
  cases v with
  | dat d =>
    cases d <;> first | exact False.elim q | skip
    exact ⟨_, Rp.int_inv r1, k _ L1 Z1 η1 H1 S1 E1 q⟩
  | ptr n => exact False.elim q
  | fr o => exact False.elim q
theorem stepO {ta : LTO} {σ : SV} {ρ : Sl} {R : Option Int → Hp → Prop} {P : Option Int → Reg → Prop} (S : SI G L Z η H) (s : SS L Z σ ρ) (t : ta ρ η P)
    (k : ∀ b L1 Z1 η1 H1, SI G L1 Z1 η1 H1 → SS L1 Z1 σ ρ → Ext L Z L1 Z1 → P b η1 → R b H1) : liftO G ta σ H R :=
  ⟨ρ, L, Z, η, _, S, s, t, fun b L' Z' η' H' S' E' q => k b L' Z' η' H' S' (s.ext E') E' q⟩
theorem cut_rp {xs : List V} {ds : List D} (r : RpAll Z xs ds) (lo hi : Option Int) : RpAll Z (cutV xs lo hi) (cutL ds lo hi) := by
  unfold cutV cutL
  rw [r.length]
  exact (r.drop _).take _
theorem cut_all {ds : List D} {lo hi : Option Int} (h : HT.sIx ds.length 0 lo = 0 ∧ HT.sIx ds.length ds.length hi = ds.length) : cutL ds lo hi = ds := by
  unfold cutL
  rw [h.1, h.2]
  simp
def rSli (K : PySem.W.Frag) : V → Option Int → Option Int → Hp → VK → Prop := fun x lo hi H Q => rSlL K x lo hi H Q ∨ rSlF x lo hi H Q ∨ rSlS x lo hi H Q
theorem le_sli {a : Expr} {lo hi : Option Expr} {ta : LTE} {tl th : LTO} {p2 pos : Pos} (ha : LE X G a ta) (hl : PO X lo (liftO G tl)) (hh : PO X hi (liftO G th)) :
    LE X G (.Subscript a (.Slice lo hi none p2) pos) (fun ρ η Q => ta ρ η fun v η1 => tl ρ η1 fun l η2 => th ρ η2 fun h η3 => onView v.fz η3 fun x => sliD x l h fun r => Q r η3) := by
  refine (pe_slice (r := rSli X.K) (SlR.or sl_list (SlR.or sl_tupF sl_str)) ha hl hh).weak ?_
  rintro σ H Q ⟨ρ, L, Z, η, Qp, S, s, t, k⟩
  refine step (P := fun v η1 => tl ρ η1 fun l η2 => th ρ η2 fun h η3 => onView v η3 fun x => sliD x l h fun r => Qp r η3) S s t fun xv v L1 Z1 η1 H1 S1 s1 E1 r1 q => ?_
  refine stepO (P := fun l η2 => th ρ η2 fun h η3 => onView v η3 fun x => sliD x l h fun r => Qp r η3) S1 s1 q fun l L2 Z2 η2 H2 S2 s2 E2 q => ?_
  refine stepO (P := fun h η3 => onView v η3 fun x => sliD x l h fun r => Qp r η3) S2 s2 q fun h L3 Z3 η3 H3 S3 s3 E3 q => ?_
  obtain ⟨x, ex, q⟩ := onView_some q
  have E := E1.trans (E2.trans E3)
  have k2 := Cont.shift k E
  have rx := (r1.ext (E2.trans E3) (view_nofr ex)).view S3 ex
  cases x <;> first | exact False.elim q | skip
  · cases rx.str
    exact .inr (.inr ⟨_, rfl, q.1, Cont.dat k2 S3 (.str _) q.2⟩)
  · obtain ⟨p, xs, rfl, hp, r⟩ := rx
    exact .inl ⟨p, xs, rfl, .inl hp, Cont.lst k2 S3 (cut_rp r l h) q⟩
  · obtain ⟨p, o, xs, rfl, hp, hd, r⟩ := rx.tup
    refine .inr (.inl ⟨p, xs, rfl, .inr ⟨_, S3.zh _ _ hp⟩, fun e => ?_, fun _ => Cont.tup k2 S3 (cut_rp r l h) q⟩)
    rw [r.length] at e
    rw [show sliD = sliD from rfl] at q
    have q : Qp (.dat (.tuple (cutL _ l h))) η3 := q
    rw [cut_all e] at q
    exact Cont.dat k2 S3 (.tup hp hd r) q
end
end Pl

namespace Pl
open PySem PySem.Spec PyProof.Rows L2

/-! ## calls of the text's own defs -/
/-- a def's promise, on pure data, as the layer below has it -/
def liftSp (sp : PSpec) : Sp := fun xs H Q _ => ∃ (G : Gh) (L : Loc) (Z : Hp) (obs : List Ob) (vs : List Vl) (Qp : Vl → List Ob → Prop),
  (∀ n, obs.length ≤ n → G.A0 n = none) ∧ L.length = obs.length ∧ SI G L Z (obs.map some) H ∧ RepVs G L Z H xs vs ∧ sp vs obs Qp ∧
  ∀ x v L' Z' obs' H', SI G L' Z' (obs'.map some) H' → obs'.length = obs.length → RepV G L' Z' H' x v → v.noPtr → Qp v obs' → Q x H'
structure FnIn (X : Cx) (n : Str) (sp : PSpec) : Prop where
  ex : ∃ (f : Addr) (k : Nat) (fd : FuncData) (ps : List Str), X.mg n = some (.ref f) ∧ PySem.W.keepIn X.K (.ref f) = true ∧
    FnOk X.prog X.w X.K X.mg X.base CX0 k f fd ps (liftSp sp) ∧ Binds X.K fd ps [] ∧ Room k X.A

def putL : List Nat → Loc → Loc → Loc
  | n :: ns, p :: ps, L => putL ns ps (L.set n p)
  | _, _, L => L
theorem putL_length : ∀ (ix : List Nat) (P L : Loc), (putL ix P L).length = L.length
  | [], _, _ => rfl
  | _ :: _, [], _ => rfl
  | n :: ns, p :: ps, L => by rw [putL, putL_length, List.length_set]
theorem putAll_length : ∀ (ix : List Nat) (P : List Ob) (η : Reg), (putAll ix P η).length = η.length
  | [], _, _ => rfl
  | _ :: _, [], _ => rfl
  | n :: ns, p :: ps, L => by rw [putAll, putAll_length, List.length_set]
theorem putL_out {m : Nat} : ∀ {ix : List Nat} {P L : Loc}, m ∉ ix → (putL ix P L)[m]? = L[m]?
  | [], _, _, _ => rfl
  | _ :: _, [], _, _ => rfl
  | n :: ns, p :: ps, L, h => by
    rw [putL, putL_out fun q => h (List.mem_cons_of_mem _ q), List.getElem?_set_ne fun e => h (by rw [e]; exact List.mem_cons_self)]
theorem putAll_out {m : Nat} : ∀ {ix : List Nat} {P : List Ob} {L : Reg}, m ∉ ix → (putAll ix P L)[m]? = L[m]?
  | [], _, _, _ => rfl
  | _ :: _, [], _, _ => rfl
  | n :: ns, p :: ps, L, h => by
    rw [putAll, putAll_out fun q => h (List.mem_cons_of_mem _ q), List.getElem?_set_ne fun e => h (by rw [e]; exact List.mem_cons_self)]
theorem putL_in {i m : Nat} : ∀ {ix : List Nat} {P L : Loc} {i : Nat}, ix.Nodup → P.length = ix.length → ix[i]? = some m → m < L.length → (putL ix P L)[m]? = P[i]?
  | [], _, _, _, _, _, h, _ => by simp at h
  | n :: ns, [], _, _, _, hl, _, _ => by simp at hl
  | n :: ns, p :: ps, L, 0, nd, hl, h, hm => by
    simp at h
    subst h
    rw [putL, putL_out (List.nodup_cons.mp nd).1, List.getElem?_set_self hm]
    rfl
  | n :: ns, p :: ps, L, i + 1, nd, hl, h, hm => by
    rw [putL, putL_in (i := i) (List.nodup_cons.mp nd).2 (by simpa using hl) (by simpa using h) (by rw [List.length_set]; exact hm)]
    rfl
theorem putAll_in {m : Nat} : ∀ {ix : List Nat} {P : List Ob} {L : Reg} {i : Nat}, ix.Nodup → P.length = ix.length → ix[i]? = some m → m < L.length → (putAll ix P L)[m]? = (P[i]?).map some
  | [], _, _, _, _, _, h, _ => by simp at h
  | n :: ns, [], _, _, _, hl, _, _ => by simp at hl
  | n :: ns, p :: ps, L, 0, nd, hl, h, hm => by
    simp at h
    subst h
    rw [putAll, putAll_out (List.nodup_cons.mp nd).1, List.getElem?_set_self hm]
    rfl
  | n :: ns, p :: ps, L, i + 1, nd, hl, h, hm => by
    rw [putAll, putAll_in (i := i) (List.nodup_cons.mp nd).2 (by simpa using hl) (by simpa using h) (by rw [List.length_set]; exact hm)]
    rfl
/-- the registers that are handed on -/
structure Picked (ix : List Nat) (L : Loc) (η : Reg) (P : List (Addr × List Addr)) (obs : List Ob) : Prop where
  nd : ix.Nodup
  lp : P.length = ix.length
  lo : obs.length = ix.length
  at_ : ∀ (i n : Nat), ix[i]? = some n → ∃ p o, P[i]? = some p ∧ obs[i]? = some o ∧ L[n]? = some (some p) ∧ η[n]? = some (some o)
theorem picked {G : Gh} {L : Loc} {Z : Hp} {η : Reg} {H : Hp} (S : SI G L Z η H) : ∀ {ix : List Nat} {obs : List Ob}, ix.Nodup → obsAt ix η = some obs → ∃ P, Picked ix L η P obs
  | [], obs, _, h => by
    cases h
    exact ⟨[], List.nodup_nil, rfl, rfl, fun i n e => by simp at e⟩
  | n :: ns, obs, nd, h => by
    unfold obsAt at h
    cases e : η[n]? with
    | none => rw [e] at h; cases h
    | some o =>
      cases o with
      | none => rw [e] at h; cases h
      | some o =>
        cases e2 : obsAt ns η with
        | none => rw [e, e2] at h; cases h
        | some os =>
          rw [e, e2] at h
          cases h
          obtain ⟨P, I⟩ := picked S (List.nodup_cons.mp nd).2 e2
          obtain ⟨p, hp⟩ := S.lv n o e
          refine ⟨p :: P, nd, by simp [I.lp], by simp [I.lo], fun i m em => ?_⟩
          cases i with
          | zero =>
            simp at em
            subst em
            exact ⟨p, o, rfl, rfl, hp, e⟩
          | succ i =>
            obtain ⟨q, o2, a, b, c, d⟩ := I.at_ i m (by simpa using em)
            exact ⟨q, o2, by simpa using a, by simpa using b, c, d⟩
def flatP (P : List (Addr × List Addr)) : List Addr := P.flatMap fun p => p.1 :: p.2
theorem flatP_all (P : List (Addr × List Addr)) : flatP P = Loc.all (P.map some) := by
  unfold flatP Loc.all
  rw [List.flatMap_map]
  rfl
open Classical in
/-- the ghost of a callee -/
noncomputable def Gh.sub (Z H : Hp) (P : List (Addr × List Addr)) : Gh where
  F0 := fun a => if (Z a).isSome = true ∨ a ∈ flatP P then none else H a
  Z0 := Z
  A0 := fun n => (P.map (·.1))[n]?
theorem sub_some {Z H : Hp} {P : List (Addr × List Addr)} {a : Addr} (h1 : Z a = none) (h2 : a ∉ flatP P) : (Gh.sub Z H P).F0 a = H a := by
  show (if _ then _ else _) = _
  rw [if_neg]
  rintro (q | q)
  · rw [h1] at q; cases q
  · exact h2 q
theorem sub_none {Z H : Hp} {P : List (Addr × List Addr)} {a : Addr} {o : HO} (h : (Gh.sub Z H P).F0 a = some o) : Z a = none ∧ a ∉ flatP P ∧ H a = some o := by
  have h' : (if (Z a).isSome = true ∨ a ∈ flatP P then none else H a) = some o := h
  by_cases q : (Z a).isSome = true ∨ a ∈ flatP P
  · rw [if_pos q] at h'; cases h'
  · rw [if_neg q] at h'
    refine ⟨?_, fun z => q (.inr z), h'⟩
    cases e : Z a with
    | none => rfl
    | some u => exact absurd (.inl (by rw [e]; rfl)) q
section
variable {G : Gh} {L : Loc} {Z : Hp} {η : Reg} {H : Hp} {ix : List Nat} {P : List (Addr × List Addr)} {obs : List Ob}
theorem Picked.mem (K : Picked ix L η P obs) {b : Addr} (h : b ∈ flatP P) : ∃ (i n : Nat) (p : Addr × List Addr), ix[i]? = some n ∧ P[i]? = some p ∧ L[n]? = some (some p) ∧ b ∈ p.1 :: p.2 := by
  unfold flatP at h
  obtain ⟨p, hp, hb⟩ := List.mem_flatMap.mp h
  obtain ⟨i, hi⟩ := List.getElem?_of_mem hp
  have hlt : i < ix.length := by rw [← K.lp]; exact (List.getElem?_eq_some_iff.mp hi).1
  obtain ⟨q, o, h1, h2, h3, h4⟩ := K.at_ i ix[i] (List.getElem?_eq_getElem hlt)
  rw [hi] at h1
  cases h1
  exact ⟨i, ix[i], p, List.getElem?_eq_getElem hlt, hi, h3, hb⟩
theorem SI.apart (S : SI G L Z η H) {m n : Nat} {p q : Addr × List Addr} {b : Addr} (h : m ≠ n) (em : L[m]? = some (some p)) (en : L[n]? = some (some q)) (hb : b ∈ p.1 :: p.2) : b ∉ q.1 :: q.2 := fun hb2 => by
  have pw := (all_nodup.mp S.nd).2
  rw [List.pairwise_iff_getElem] at pw
  obtain ⟨lm, em'⟩ := List.getElem?_eq_some_iff.mp em
  obtain ⟨ln, en'⟩ := List.getElem?_eq_some_iff.mp en
  rcases Nat.lt_or_gt_of_ne h with z | z
  · have := pw m n lm ln z
    rw [em', en'] at this
    exact this b hb hb2
  · have := pw n m ln lm z
    rw [em', en'] at this
    exact this b hb2 hb
theorem SI.enter (S : SI G L Z η H) (K : Picked ix L η P obs) : SI (Gh.sub Z H P) (P.map some) Z (obs.map some) H := by
  have getP : ∀ (i : Nat) (p : Addr × List Addr), (P.map some)[i]? = some (some p) → P[i]? = some p := fun i p e => by
    rw [List.getElem?_map] at e
    cases q : P[i]? with
    | none => rw [q] at e; cases e
    | some u => rw [q] at e; cases e; rfl
  have whole : ∀ (i : Nat) (p : Addr × List Addr), P[i]? = some p → ∃ n o, ix[i]? = some n ∧ obs[i]? = some o ∧ L[n]? = some (some p) ∧ η[n]? = some (some o) := fun i p e => by
    have hlt : i < ix.length := by rw [← K.lp]; exact (List.getElem?_eq_some_iff.mp e).1
    obtain ⟨q, o, h1, h2, h3, h4⟩ := K.at_ i ix[i] (List.getElem?_eq_getElem hlt)
    rw [e] at h1
    cases h1
    exact ⟨_, o, List.getElem?_eq_getElem hlt, h2, h3, h4⟩
  refine ⟨fun n a e => ?_, Sub.refl _, S.zh, fun a o e => (sub_none e).2.2, fun a o e => ?_, ?_, by rw [List.length_map, List.length_map, K.lp, K.lo], fun n p e => ?_, fun n o e => ?_⟩
  · have e' : (P.map (·.1))[n]? = some a := e
    rw [List.getElem?_map] at e'
    cases q : P[n]? with
    | none => rw [q] at e'; cases e'
    | some u =>
      rw [q] at e'
      cases e'
      exact ⟨u.2, by rw [List.getElem?_map, q]; rfl⟩
  · cases q : (Gh.sub Z H P).F0 a with
    | none => rfl
    | some u =>
      have := (sub_none q).1
      rw [e] at this; cases this
  · refine all_nodup.mpr ⟨fun x hx => ?_, ?_⟩
    · obtain ⟨p, hp, rfl⟩ := List.mem_map.mp hx
      obtain ⟨i, hi⟩ := List.getElem?_of_mem hp
      obtain ⟨n, o, h1, h2, h3, h4⟩ := whole i p hi
      exact (all_nodup.mp S.nd).1 _ (List.mem_of_getElem? h3)
    · rw [List.pairwise_map, List.pairwise_iff_getElem]
      intro i j hi hj hij b hb1 hb2
      obtain ⟨n, o, h1, h2, h3, h4⟩ := whole i _ (List.getElem?_eq_getElem hi)
      obtain ⟨m, o', k1, k2, k3, k4⟩ := whole j _ (List.getElem?_eq_getElem hj)
      refine S.apart (fun e => ?_) h3 k3 hb1 hb2
      subst e
      have a1 := (List.getElem?_eq_some_iff.mp h1)
      have a2 := (List.getElem?_eq_some_iff.mp k1)
      have := (List.nodup_iff_pairwise_ne.mp K.nd)
      rw [List.pairwise_iff_getElem] at this
      exact this i j a1.1 a2.1 hij (a1.2.trans a2.2.symm)
  · have hp := getP n p e
    obtain ⟨m, o, h1, h2, h3, h4⟩ := whole n p hp
    obtain ⟨ow, o', h5, h6⟩ := S.ow m p h3
    rw [h4] at h5
    cases h5
    refine ⟨fun b hb => ⟨(ow b hb).1, ?_⟩, o, by rw [List.getElem?_map, h2]; rfl, h6⟩
    cases q : (Gh.sub Z H P).F0 b with
    | none => rfl
    | some u => exact absurd (List.mem_flatMap.mpr ⟨p, List.mem_of_getElem? hp, hb⟩) (sub_none q).2.1
  · rw [List.getElem?_map] at e
    cases q : obs[n]? with
    | none => rw [q] at e; cases e
    | some u =>
      have hlt : n < P.length := by rw [K.lp, ← K.lo]; exact (List.getElem?_eq_some_iff.mp q).1
      exact ⟨P[n], by rw [List.getElem?_map, List.getElem?_eq_getElem hlt]; rfl⟩
/-- behind the call -/
theorem SI.back {L' : Loc} {Z' H' : Hp} {obs' : List Ob} (S : SI G L Z η H) (K : Picked ix L η P obs) (S' : SI (Gh.sub Z H P) L' Z' (obs'.map some) H') (hl : obs'.length = obs.length) :
    SI G (putL ix L' L) Z' (putAll ix obs' η) H' ∧ Ext L Z (putL ix L' L) Z' ∧
      (∀ b, (b ∈ (putL ix L' L).all → b ∈ L'.all ∨ (Gh.sub Z H P).F0 b = H b ∧ (∃ u, H b = some u))) ∧ ∀ b o, G.F0 b = some o → (Gh.sub Z H P).F0 b = some o := by
  have lL' : L'.length = ix.length := by rw [S'.ln, List.length_map, hl, K.lo]
  have lo' : obs'.length = ix.length := by rw [hl, K.lo]
  have inL : ∀ (i n : Nat), ix[i]? = some n → n < L.length ∧ n < η.length := fun i n e => by
    obtain ⟨p, o, _, _, h3, h4⟩ := K.at_ i n e
    exact ⟨(List.getElem?_eq_some_iff.mp h3).1, (List.getElem?_eq_some_iff.mp h4).1⟩
  have old : ∀ (m : Nat) (p : Addr × List Addr), m ∉ ix → L[m]? = some (some p) → ∀ b ∈ p.1 :: p.2, (Gh.sub Z H P).F0 b = H b ∧ ∃ u, H b = some u := fun m p hm em b hb => by
    obtain ⟨ow, o, _, r⟩ := S.ow m p em
    refine ⟨sub_some (ow b hb).1 fun q => ?_, r.some b hb⟩
    obtain ⟨i, n, p', h1, h2, h3, h4⟩ := K.mem q
    exact S.apart (fun e => hm (by rw [e]; exact List.mem_of_getElem? h1)) em h3 hb h4
  have ff : ∀ b o, G.F0 b = some o → (Gh.sub Z H P).F0 b = some o := fun b o e => by
    rw [sub_some ?_ ?_]
    · exact S.fh b o e
    · cases q : Z b with
      | none => rfl
      | some u => have := S.zn b u q; rw [e] at this; cases this
    · intro q
      obtain ⟨i, n, p, h1, h2, h3, h4⟩ := K.mem q
      have := ((S.ow n p h3).1 b h4).2
      rw [e] at this; cases this
  have cas : ∀ (m : Nat) (p : Addr × List Addr), (putL ix L' L)[m]? = some (some p) → (∃ i, ix[i]? = some m ∧ L'[i]? = some (some p)) ∨ (m ∉ ix ∧ L[m]? = some (some p)) := fun m p e => by
    by_cases hm : m ∈ ix
    · obtain ⟨i, hi⟩ := List.getElem?_of_mem hm
      rw [putL_in (i := 0) K.nd lL' hi (inL i m hi).1] at e
      exact .inl ⟨i, hi, e⟩
    · rw [putL_out hm] at e
      exact .inr ⟨hm, e⟩
  have owned : ∀ b, b ∈ L'.all → (Gh.sub Z H P).F0 b = none := fun b hb => (S'.own hb).2.1
  have inall : ∀ (i : Nat) (p : Addr × List Addr), L'[i]? = some (some p) → ∀ b ∈ p.1 :: p.2, b ∈ L'.all := fun i p e b hb => mem_all.mpr ⟨i, p, e, hb⟩
  refine ⟨⟨fun m a e => ?_, fun a o e => S'.z0 a o (S.z0 a o e), S'.zh, fun a o e => S'.fh a o (ff a o e), fun a o e => ?_, ?_, by rw [putL_length, putAll_length]; exact S.ln, fun m p e => ?_, fun m o e => ?_⟩, ⟨S'.z0, fun m a ks e => ?_⟩, fun b hb => ?_, ff⟩
  · obtain ⟨ks, e0⟩ := S.a0 m a e
    by_cases hm : m ∈ ix
    · obtain ⟨i, hi⟩ := List.getElem?_of_mem hm
      obtain ⟨p, o, h1, h2, h3, h4⟩ := K.at_ i m hi
      rw [e0] at h3
      cases h3
      obtain ⟨ks', h5⟩ := S'.a0 i a (by show (P.map (·.1))[i]? = some a; rw [List.getElem?_map, h1]; rfl)
      exact ⟨ks', by rw [putL_in (i := 0) K.nd lL' hi (inL i m hi).1]; exact h5⟩
    · exact ⟨ks, by rw [putL_out hm]; exact e0⟩
  · cases q : G.F0 a with
    | none => rfl
    | some u =>
      have := S'.zn a o e
      rw [ff a u q] at this; cases this
  · refine all_nodup.mpr ⟨fun x hx => ?_, ?_⟩
    · obtain ⟨m, em⟩ := List.getElem?_of_mem hx
      cases x with
      | none => exact List.nodup_nil
      | some p =>
        rcases cas m p em with ⟨i, _, h2⟩ | ⟨_, h2⟩
        · exact (all_nodup.mp S'.nd).1 _ (List.mem_of_getElem? h2)
        · exact (all_nodup.mp S.nd).1 _ (List.mem_of_getElem? h2)
    · rw [List.pairwise_iff_getElem]
      intro i j hi hj hij b hb1 hb2
      cases ei : (putL ix L' L)[i] with
      | none => rw [ei] at hb1; cases hb1
      | some p =>
        cases ej : (putL ix L' L)[j] with
        | none => rw [ej] at hb2; cases hb2
        | some q =>
          rw [ei] at hb1
          rw [ej] at hb2
          have ei' : (putL ix L' L)[i]? = some (some p) := by rw [List.getElem?_eq_getElem hi, ei]
          have ej' : (putL ix L' L)[j]? = some (some q) := by rw [List.getElem?_eq_getElem hj, ej]
          rcases cas i p ei' with ⟨i1, h1, h2⟩ | ⟨h1, h2⟩
          · rcases cas j q ej' with ⟨j1, k1, k2⟩ | ⟨k1, k2⟩
            · refine S'.apart (fun e => ?_) h2 k2 hb1 hb2
              subst e
              rw [h1] at k1
              cases k1
              omega
            · obtain ⟨z1, u, z2⟩ := old j q k1 k2 b hb2
              have := owned b (inall _ _ h2 b hb1)
              rw [z1, z2] at this; cases this
          · obtain ⟨z1, u, z2⟩ := old i p h1 h2 b hb1
            rcases cas j q ej' with ⟨j1, k1, k2⟩ | ⟨k1, k2⟩
            · have := owned b (inall _ _ k2 b hb2)
              rw [z1, z2] at this; cases this
            · exact S.apart (by omega) h2 k2 hb1 hb2
  · rcases cas m p e with ⟨i, h1, h2⟩ | ⟨h1, h2⟩
    · obtain ⟨ow, o, ho, r⟩ := S'.ow i p h2
      refine ⟨fun b hb => ⟨(ow b hb).1, ?_⟩, o, ?_, r⟩
      · cases q : G.F0 b with
        | none => rfl
        | some u =>
          have := (ow b hb).2
          rw [ff b u q] at this; cases this
      · rw [putAll_in K.nd lo' h1 (inL i m h1).2]
        rw [List.getElem?_map] at ho
        cases q : obs'[i]? with
        | none => rw [q] at ho; cases ho
        | some u => rw [q] at ho; cases ho; rfl
    · obtain ⟨ow, o, ho, r⟩ := S.ow m p h2
      have od := old m p h1 h2
      refine ⟨fun b hb => ⟨?_, (ow b hb).2⟩, o, by rw [putAll_out h1]; exact ho, r.mono S'.z0 fun b hb => ?_⟩
      · obtain ⟨z1, u, z2⟩ := od b hb
        cases q : Z' b with
        | none => rfl
        | some v =>
          have := S'.zn b v q
          rw [z1, z2] at this; cases this
      · obtain ⟨z1, u, z2⟩ := od b hb
        rw [z2]
        exact S'.fh b u (by rw [z1, z2])
  · by_cases hm : m ∈ ix
    · obtain ⟨i, hi⟩ := List.getElem?_of_mem hm
      rw [putL_in (i := 0) K.nd lL' hi (inL i m hi).1]
      have hlt : i < obs'.length := by rw [lo']; exact (List.getElem?_eq_some_iff.mp hi).1
      exact S'.lv i obs'[i] (by rw [List.getElem?_map, List.getElem?_eq_getElem hlt]; rfl)
    · rw [putAll_out hm] at e
      rw [putL_out hm]
      exact S.lv m o e
  · by_cases hm : m ∈ ix
    · obtain ⟨i, hi⟩ := List.getElem?_of_mem hm
      obtain ⟨p, o, h1, h2, h3, h4⟩ := K.at_ i m hi
      rw [e] at h3
      cases h3
      obtain ⟨ks', h5⟩ := S'.a0 i a (by show (P.map (·.1))[i]? = some a; rw [List.getElem?_map, h1]; rfl)
      exact ⟨ks', by rw [putL_in (i := 0) K.nd lL' hi (inL i m hi).1]; exact h5⟩
    · exact ⟨ks, by rw [putL_out hm]; exact e⟩
  · obtain ⟨m, p, h1, h2⟩ := mem_all.mp hb
    rcases cas m p h1 with ⟨i, k1, k2⟩ | ⟨k1, k2⟩
    · exact .inl (inall _ _ k2 b h2)
    · exact .inr (old m p k1 k2 b h2)
theorem renum_rep {G' : Gh} {H1 : Hp} (h : ∀ x d, Rp Z x d → Rp Z x d) : ∀ {xs : List V} {vs : List Vl} (k : Nat), RepVs G L Z H xs vs →
    (∀ (i n : Nat), (regsOf vs)[i]? = some n → ∃ p, P[k + i]? = some p ∧ L[n]? = some (some p)) → RepVs G' (P.map some) Z H1 xs (renum k vs)
  | _, [], k, r, _ => by cases r; exact .nil
  | _, .dat d :: vs, k, r, hp => by
    cases r with
    | cons r1 r2 => exact .cons ⟨r1.1, fun o e => by cases e⟩ (renum_rep h k r2 hp)
  | _, .ptr n :: vs, k, r, hp => by
    cases r with
    | cons r1 r2 =>
      obtain ⟨p, e1, e2⟩ := hp 0 n rfl
      obtain ⟨a, ks, e3, rfl⟩ := r1.1
      rw [e2] at e3
      cases e3
      refine .cons ⟨⟨a, ks, by rw [List.getElem?_map, show P[k]? = some (a, ks) from e1]; rfl, rfl⟩, fun o e => by cases e⟩ (renum_rep h (k + 1) r2 fun i m em => ?_)
      obtain ⟨p, e1, e2⟩ := hp (i + 1) m (by simpa [regsOf] using em)
      exact ⟨p, by rw [show k + 1 + i = k + (i + 1) by omega]; exact e1, e2⟩
  | _, .fr o :: vs, k, r, hp => by
    cases r with
    | cons r1 r2 => exact absurd rfl (r1.2 o)
end
section
variable {X : Cx} {G : Gh}
theorem call_low {sp : PSpec} {t : LTA} : ∀ σ H Q, liftE G (fun ρ η Q => t ρ η fun vs η1 => callW sp vs η1 Q) σ H Q → tCall (liftSp sp) [] E0 (liftA G t) σ H Q := by
  rintro σ H Q ⟨ρ, L, Z, η, Qp, S, s, tt, k⟩
  refine stepA (P := fun vs η1 => callW sp vs η1 Qp) S s tt fun xs vs L1 Z1 η1 H1 S1 s1 E1 r1 q => ?_
  obtain ⟨nd, q⟩ := q
  cases ho : obsAt (regsOf vs) η1 with
  | none => rw [ho] at q; exact False.elim q
  | some obs =>
    rw [ho] at q
    obtain ⟨P, K⟩ := picked S1 nd ho
    refine ⟨Gh.sub Z1 H1 P, P.map some, Z1, obs, renum 0 vs, _, ?_, ?_, S1.enter K, ?_, q, fun x v L' Z' obs' H' S' hl rv hv q => ?_⟩
    · intro n hn
      show (P.map (·.1))[n]? = none
      exact List.getElem?_eq_none (by rw [List.length_map, K.lp, ← K.lo]; exact hn)
    · rw [List.length_map, K.lp, K.lo]
    · rw [List.append_nil]
      refine renum_rep (fun _ _ h => h) 0 r1 fun i n e => ?_
      obtain ⟨p, o, h1, _, h3, _⟩ := K.at_ i n e
      exact ⟨p, by rw [Nat.zero_add]; exact h1, h3⟩
    · obtain ⟨B, E2, al, ff⟩ := S1.back K S' hl
      refine k x v _ Z' _ H' B (E1.trans E2) ?_ q.2.2
      cases v with
      | dat d => exact rv
      | ptr n => exact False.elim hv
      | fr o =>
        obtain ⟨a, ks, rfl, r, hf⟩ := rv
        refine ⟨a, ks, rfl, r, fun b hb => ⟨(hf b hb).1, ?_, fun hm => ?_⟩⟩
        · cases q2 : G.F0 b with
          | none => rfl
          | some u =>
            have := (hf b hb).2.1
            rw [ff b u q2] at this; cases this
        · rcases al b hm with z | ⟨z, u, z2⟩
          · exact (hf b hb).2.2 z
          · have := (hf b hb).2.1
            rw [z, z2] at this; cases this
theorem le_call {sp : PSpec} {t : LTA} {n : Str} {p pos : Pos} {e : Expr} {es : List Expr} (F : FnIn X n sp) (hg : Gl X n) (ha : LA X G (e :: es) t) (hdb : (n == ("__debug__" : Str)) = false)
    (he : starEach (e :: es) X.env = (false, eval e X.env) :: starEach es X.env) (hpl : (backTo pos (starEach es X.env)).any (·.1) = false) :
    LE X G (.Call (.Name n p) (e :: es) [] pos) (fun ρ η Q => t ρ η fun vs η1 => callW sp vs η1 Q) := by
  obtain ⟨f, k, fd, ps, h1, h2, h3, h4, h5⟩ := F.ex
  exact (pe_call h3 h5 hg h1 h2 h4 .nil pass0 ha hdb he hpl).weak call_low
theorem le_call0 {sp : PSpec} {n : Str} {p pos : Pos} (F : FnIn X n sp) (hg : Gl X n) (hdb : (n == ("__debug__" : Str)) = false) :
    LE X G (.Call (.Name n p) [] [] pos) (fun ρ η Q => callW sp [] η Q) := by
  obtain ⟨f, k, fd, ps, h1, h2, h3, h4, h5⟩ := F.ex
  refine (pe_call0 h3 h5 hg h1 h2 h4 .nil pass0 hdb).weak fun σ H Q q => ?_
  have := call_low (t := fun _ η Q => Q [] η) σ H Q q
  obtain ⟨ρ, L, Z, η, Qp, S, s, tt, k⟩ := this
  exact k [] [] L Z η H S Ext.refl .nil tt
end
end Pl

namespace Pl
open PySem PySem.Spec PyProof.Rows L2

/-! ## built-ins -/
def biFn : Bi → Value
  | .len => .builtin "len" | .int => .type "int" | .abs => .builtin "abs" | .sum => .builtin "sum" | .min1 => .builtin "min" | .max1 => .builtin "max" | .min2 => .builtin "min" | .max2 => .builtin "max"
  | .all => .builtin "all" | .any => .builtin "any" | .list => .type "list" | .tuple => .type "tuple" | .sorted => .builtin "sorted" | _ => .none
def biName : Bi → Str
  | .len => "len" | .int => "int" | .abs => "abs" | .sum => "sum" | .min1 => "min" | .max1 => "max" | .min2 => "min" | .max2 => "max"
  | .all => "all" | .any => "any" | .list => "list" | .tuple => "tuple" | .sorted => "sorted" | _ => ""
section
variable {X : Cx} {G : Gh} {L : Loc} {Z : Hp} {η : Reg} {H : Hp} {Qd : Vl → Prop} {Q : VK}
def rBi (X : Cx) : Bi → List V → Hp → VK → Prop
  | .len => fun xs H Q => ∃ x n, xs = [x] ∧ LenV X.K x H n ∧ Q (.int n) H
  | .int => fun xs H Q => (∃ i, xs = [.int i] ∧ Q (.int i) H) ∨ ∃ k, xs = [.bl k] ∧ Q (.int (if k then 1 else 0)) H
  | .abs => fun xs H Q => ∃ i, xs = [.int i] ∧ Q (.int (if i < 0 then -i else i)) H
  | .sum => rSum X.K
  | .min1 => rMin X.K
  | .max1 => rMax X.K
  | .min2 => fun xs H Q => ∃ i j, xs = [.int i, .int j] ∧ Q (.int (if j < i then j else i)) H
  | .max2 => fun xs H Q => ∃ i j, xs = [.int i, .int j] ∧ Q (.int (if j > i then j else i)) H
  | .all => rAll X.K
  | .any => rAny X.K
  | .list => fun xs H Q => ∃ p ys, xs = [.ref p] ∧ (SqL X.K H p ys ∨ SqT X.K H p ys) ∧ ∀ l, H l = none → Q (.ref l) (upd H l (.lst ys))
  | .tuple => fun xs H Q => ∃ p ys, xs = [.ref p] ∧ ((Rd H p (.lst ys) ∧ ∀ l o, H l = none → o.dict = none → Q (.ref l) (upd H l (.frz o (.tup ys)))) ∨ (Rd H p (.tup ys) ∧ Q (.ref p) H))
  | _ => fun _ _ _ => False
theorem ok_bi (hc : X.calm = true) : ∀ b : Bi, CallR X (biFn b) (rBi X b)
  | .len => call_len
  | .int => call_int1
  | .abs => call_abs
  | .sum => cr_sum hc
  | .min1 => cr_min hc
  | .max1 => cr_max hc
  | .min2 => call_min2 hc
  | .max2 => call_max2 hc
  | .all => cr_all hc
  | .any => cr_any hc
  | .list => call_list_of
  | .tuple => call_tupF
  | .sorted => fun _ _ _ _ _ _ _ _ _ h => False.elim h
  | .rlist1 => fun _ _ _ _ _ _ _ _ _ h => False.elim h
  | .rlist2 => fun _ _ _ _ _ _ _ _ _ h => False.elim h
  | .rtup1 => fun _ _ _ _ _ _ _ _ _ h => False.elim h
  | .rtup2 => fun _ _ _ _ _ _ _ _ _ h => False.elim h
  | .isi _ => fun _ _ _ _ _ _ _ _ _ h => False.elim h
theorem rp_ints : ∀ {xs : List V} {ns : List Int}, RpAll Z xs (ns.map PyData.int) → xs = ns.map V.int
  | _, [], h => by cases h; rfl
  | _, n :: ns, h => by
    cases h with
    | cons r t => cases r; rw [rp_ints t]; rfl
theorem rp_bls : ∀ {xs : List V} {ns : List Bool}, RpAll Z xs (ns.map PyData.bool) → xs = ns.map V.bl
  | _, [], h => by cases h; rfl
  | _, n :: ns, h => by
    cases h with
    | cons r t => cases r; rw [rp_bls t]; rfl
theorem rp_strs : ∀ {xs : List V} {ns : List Str}, RpAll Z xs (ns.map PyData.str) → xs = ns.map V.str
  | _, [], h => by cases h; rfl
  | _, n :: ns, h => by
    cases h with
    | cons r t => cases r; rw [rp_strs t]; rfl
theorem RepVs.one {xs : List V} {v : Vl} (h : RepVs G L Z H xs [v]) : ∃ x, xs = [x] ∧ RepV G L Z H x v := by
  cases h with
  | cons r t => cases t; exact ⟨_, rfl, r.1⟩
theorem RepVs.two {xs : List V} {v w : Vl} (h : RepVs G L Z H xs [v, w]) : ∃ x y, xs = [x, y] ∧ RepV G L Z H x v ∧ RepV G L Z H y w := by
  cases h with
  | cons r t =>
    cases t with
    | cons r' t => cases t; exact ⟨_, _, rfl, r.1, r'.1⟩
theorem vw_list {x : V} {ds : List D} (h : Vw Z H x (.list ds)) : ∃ a xs, x = .ref a ∧ Rd H a (.lst xs) ∧ RpAll Z xs ds := h
theorem bi_ok (S : SI G L Z η H) : ∀ (b : Bi) (vs : List Vl) (xs : List V), (match b with | .sorted | .rlist1 | .rlist2 | .rtup1 | .rtup2 | .isi _ => False | _ => True) → RepVs G L Z H xs vs → biW b vs η Qd → LC G L Z η Qd Q → rBi X b xs H Q := by
  intro b vs xs hb r h k
  have seq : ∀ {v : Vl} {P : List D → Prop}, vs = [v] → onView v η (fun | .list xs => P xs | _ => False) → ∃ a ys ds, xs = [.ref a] ∧ Rd H a (.lst ys) ∧ RpAll Z ys ds ∧ P ds := fun {v} {P} e0 g => by
    subst e0
    obtain ⟨x, rfl, r1⟩ := RepVs.one r
    obtain ⟨d, e, g⟩ := onView_some g
    have w := r1.view S e
    cases d <;> first | exact False.elim g | skip
    obtain ⟨a, ys, rfl, h1, h2⟩ := w
    exact ⟨a, ys, _, rfl, h1, h2, g⟩
  cases b with
  | len =>
    rcases vs with _ | ⟨v, _ | ⟨w, rest⟩⟩ <;> first | exact False.elim h | skip
    obtain ⟨x, rfl, r1⟩ := RepVs.one r
    obtain ⟨d, e, h⟩ := onView_some h
    have w := r1.view S e
    cases d <;> first | exact False.elim h | skip
    · cases w.str
      exact ⟨_, _, rfl, ⟨h.1, rfl⟩, k.flat S (.int _) h.2⟩
    · obtain ⟨a, ys, rfl, h1, h2⟩ := w
      exact ⟨_, _, rfl, .inl ⟨ys, .inl h1, h2.length.symm⟩, k.flat S (.int _) h⟩
    · obtain ⟨a, o, ys, rfl, h1, hd, h2⟩ := w.tup
      exact ⟨_, _, rfl, .inr ⟨ys, .inl (.inr ⟨_, S.zh _ _ h1⟩), h2.length.symm⟩, k.flat S (.int _) h⟩
  | int =>
    rcases vs with _ | ⟨v, _ | ⟨w, rest⟩⟩
    · exact False.elim h
    · obtain ⟨x, rfl, r1⟩ := RepVs.one r
      rcases v with d | n | o
      · cases d <;> first | exact False.elim h | skip
        · cases Rp.bl_inv r1; exact .inr ⟨_, rfl, k.flat S (.int _) h⟩
        · cases Rp.int_inv r1; exact .inl ⟨_, rfl, k.flat S (.int _) h⟩
      · exact False.elim h
      · exact False.elim h
    · rcases v with d | n | o <;> first | exact False.elim h | (cases d <;> exact False.elim h)
  | abs =>
    rcases vs with _ | ⟨v, _ | ⟨w, rest⟩⟩
    · exact False.elim h
    · obtain ⟨x, rfl, r1⟩ := RepVs.one r
      rcases v with d | n | o
      · cases d <;> first | exact False.elim h | skip
        cases Rp.int_inv r1; exact ⟨_, rfl, k.flat S (.int _) h⟩
      · exact False.elim h
      · exact False.elim h
    · rcases v with d | n | o <;> first | exact False.elim h | (cases d <;> exact False.elim h)
  | min2 =>
    rcases vs with _ | ⟨v, _ | ⟨w, _ | ⟨u, rest⟩⟩⟩
    · exact False.elim h
    · rcases v with d | n | o <;> first | exact False.elim h | (cases d <;> exact False.elim h)
    · obtain ⟨x, y, rfl, r1, r2⟩ := RepVs.two r
      rcases v with d | n | o <;> rcases w with d' | n' | o' <;> first | exact False.elim h | skip
      · cases d <;> cases d' <;> first | exact False.elim h | skip
        cases Rp.int_inv r1; cases Rp.int_inv r2; exact ⟨_, _, rfl, k.flat S (.int _) h⟩
      · cases d <;> exact False.elim h
      · cases d <;> exact False.elim h
    · rcases v with d | n | o <;> rcases w with d' | n' | o' <;> first | exact False.elim h | (cases d <;> first | exact False.elim h | (cases d' <;> exact False.elim h))
  | max2 =>
    rcases vs with _ | ⟨v, _ | ⟨w, _ | ⟨u, rest⟩⟩⟩
    · exact False.elim h
    · rcases v with d | n | o <;> first | exact False.elim h | (cases d <;> exact False.elim h)
    · obtain ⟨x, y, rfl, r1, r2⟩ := RepVs.two r
      rcases v with d | n | o <;> rcases w with d' | n' | o' <;> first | exact False.elim h | skip
      · cases d <;> cases d' <;> first | exact False.elim h | skip
        cases Rp.int_inv r1; cases Rp.int_inv r2; exact ⟨_, _, rfl, k.flat S (.int _) h⟩
      · cases d <;> exact False.elim h
      · cases d <;> exact False.elim h
    · rcases v with d | n | o <;> rcases w with d' | n' | o' <;> first | exact False.elim h | (cases d <;> first | exact False.elim h | (cases d' <;> exact False.elim h))
  | sum =>
    rcases vs with _ | ⟨v, _ | ⟨w, rest⟩⟩ <;> first | exact False.elim h | skip
    obtain ⟨a, ys, ds, rfl, h1, h2, ns, rfl, h⟩ := seq (P := fun xs => intsOf xs fun ns => Qd (.dat (.int ns.sum))) rfl h
    cases rp_ints h2
    exact ⟨a, ns, rfl, .inl h1, k.flat S (.int _) h⟩
  | min1 =>
    rcases vs with _ | ⟨v, _ | ⟨w, rest⟩⟩ <;> first | exact False.elim h | skip
    obtain ⟨a, ys, ds, rfl, h1, h2, ns, rfl, h0, h⟩ := seq (P := fun xs => intsOf xs fun ns => 0 < ns.length ∧ ∀ m ∈ ns, (∀ y ∈ ns, m ≤ y) → Qd (.dat (.int m))) rfl h
    cases rp_ints h2
    exact ⟨a, ns, rfl, .inl h1, h0, fun m hm hy => k.flat S (.int _) (h m hm hy)⟩
  | max1 =>
    rcases vs with _ | ⟨v, _ | ⟨w, rest⟩⟩ <;> first | exact False.elim h | skip
    obtain ⟨a, ys, ds, rfl, h1, h2, ns, rfl, h0, h⟩ := seq (P := fun xs => intsOf xs fun ns => 0 < ns.length ∧ ∀ m ∈ ns, (∀ y ∈ ns, y ≤ m) → Qd (.dat (.int m))) rfl h
    cases rp_ints h2
    exact ⟨a, ns, rfl, .inl h1, h0, fun m hm hy => k.flat S (.int _) (h m hm hy)⟩
  | all =>
    rcases vs with _ | ⟨v, _ | ⟨w, rest⟩⟩ <;> first | exact False.elim h | skip
    obtain ⟨a, ys, ds, rfl, h1, h2, ns, rfl, h⟩ := seq (P := fun xs => ∃ bs : List Bool, xs = bs.map PyData.bool ∧ Qd (.dat (.bool (bs.all id)))) rfl h
    cases rp_bls h2
    exact ⟨a, ns, rfl, .inl h1, k.flat S (.bl _) h⟩
  | any =>
    rcases vs with _ | ⟨v, _ | ⟨w, rest⟩⟩ <;> first | exact False.elim h | skip
    obtain ⟨a, ys, ds, rfl, h1, h2, ns, rfl, h⟩ := seq (P := fun xs => ∃ bs : List Bool, xs = bs.map PyData.bool ∧ Qd (.dat (.bool (bs.any id)))) rfl h
    cases rp_bls h2
    exact ⟨a, ns, rfl, .inl h1, k.flat S (.bl _) h⟩
  | list =>
    rcases vs with _ | ⟨v, _ | ⟨w, rest⟩⟩ <;> first | exact False.elim h | skip
    obtain ⟨x, rfl, r1⟩ := RepVs.one r
    obtain ⟨d, e, h⟩ := onView_some h
    have w := r1.view S e
    cases d <;> first | exact False.elim h | skip
    · obtain ⟨a, ys, rfl, h1, h2⟩ := w
      exact ⟨a, ys, rfl, .inl (.inl h1), Cont.lst k S h2 ⟨rfl, h⟩⟩
    · obtain ⟨a, o, ys, rfl, h1, hd, h2⟩ := w.tup
      exact ⟨a, ys, rfl, .inr (.inl (.inr ⟨_, S.zh _ _ h1⟩)), Cont.lst k S h2 ⟨rfl, h⟩⟩
  | tuple =>
    rcases vs with _ | ⟨v, _ | ⟨w, rest⟩⟩ <;> first | exact False.elim h | skip
    obtain ⟨x, rfl, r1⟩ := RepVs.one r
    obtain ⟨d, e, h⟩ := onView_some h
    have w := r1.view S e
    cases d <;> first | exact False.elim h | skip
    · obtain ⟨a, ys, rfl, h1, h2⟩ := w
      exact ⟨a, ys, rfl, .inl ⟨h1, Cont.tup k S h2 ⟨rfl, h⟩⟩⟩
    · obtain ⟨a, o, ys, rfl, h1, hd, h2⟩ := w.tup
      exact ⟨a, ys, rfl, .inr ⟨.inr ⟨_, S.zh _ _ h1⟩, k.flat S (.tup h1 hd h2) h⟩⟩
  | _ => exact False.elim hb
theorem bi_low {b : Bi} {t : LTA} (hb : match b with | .sorted | .rlist1 | .rlist2 | .rtup1 | .rtup2 | .isi _ => False | _ => True) :
    ∀ σ H Q, liftE G (fun ρ η Q => t ρ η fun vs η1 => biW b vs η1 fun r => Q r η1) σ H Q → tCB (rBi X b) (liftA G t) σ H Q := by
  rintro σ H Q ⟨ρ, L, Z, η, Qp, S, s, tt, k⟩
  refine stepA (P := fun vs η1 => biW b vs η1 fun r => Qp r η1) S s tt fun xs vs L1 Z1 η1 H1 S1 s1 E1 r1 q => ?_
  refine bi_ok S1 b vs xs hb r1 q fun x v L' Z' η' H' S' E' r q => ?_
  obtain ⟨rfl, q⟩ := q
  exact k x v L' Z' _ H' S' (E1.trans E') r q
end

end Pl

namespace Pl
open PySem PySem.Spec PyProof.Rows L2

section
variable {X : Cx} {G : Gh} {L : Loc} {Z : Hp} {η : Reg} {H : Hp} {Q : VK}
/-! ## isinstance -/
theorem ty_of {K : PySem.W.Frag} {x : V} {v : Vl} {t : String} (S : SI G L Z η H) (r : RepV G L Z H x v) (h : tyV' v η = some t) : TyX K H x (.type t) := by
  cases v with
  | dat d =>
    cases h
    have q := Rp.mono S.zh _ _ r
    cases d with
    | none => cases q; exact .base .non
    | bool b => cases q; exact .base (.bl _)
    | int b => cases q; exact .base (.int _)
    | str b => cases q; exact .base (.str _)
    | list ds =>
      cases q with
      | lst h1 h2 =>
        rcases h1 with h1 | ⟨o, h1⟩
        · exact .base (.lst h1)
        · exact .base (.frz h1)
    | tuple ds =>
      cases q with
      | tup h1 hd h2 => exact .fTuple h1
    | dict ds => cases q
  | ptr n =>
    obtain ⟨a, ks, h1, rfl⟩ := r
    obtain ⟨_, o, h2, h3⟩ := S.ow n _ h1
    unfold tyV' at h
    simp only [h2] at h
    cases o with
    | lst ds => cases h; obtain ⟨_, xs, q, _⟩ := h3; exact .base (.lst q)
    | dK ds => cases h; obtain ⟨_, xs, q, _⟩ := h3; exact .base (.dK q)
    | dT ds => cases h; obtain ⟨_, xs, q, _⟩ := h3; exact .base (.dT q)
  | fr o => cases h
theorem le_isi {e : Expr} {te : LTE} {p pT pos : Pos} {T : String} {x : Str} (he : LE X G e te) (hg : Gl X "isinstance") (hm : X.mg "isinstance" = none) (hgT : Gl X x) (hmT : X.mg x = none) (hbT : bootBuiltins x = some (.type T))
    (hnT : x ≠ "__name__") (hdT : (x == ("__debug__" : Str)) = false) (hs : starEach [e, .Name x pT] X.env = (false, eval e X.env) :: starEach [.Name x pT] X.env) :
    LE X G (.Call (.Name "isinstance" p) [e, .Name x pT] [] pos) (fun ρ η Q => te ρ η fun v η1 => v.fz.settled ∧ biW (.isi T) [v.fz] η1 fun r => Q r η1) := by
  refine (pe_callB call_isi hg hm boot_isinstance (pa_cons he (pa_cons (pe_bltn hgT hmT hbT (show RelV (.ty T) (.type T) from rfl) hnT hdT) pa_nil) hs) (he := hs)).weak ?_
  rintro σ H Q ⟨ρ, L, Z, η, Qp, S, s, t, k⟩
  refine step (P := fun v η1 => v.settled ∧ biW (.isi T) [v] η1 fun r => Qp r η1) S s t fun xv v L1 Z1 η1 H1 S1 s1 E1 r1 q => ?_
  obtain ⟨_, t, b, ht, hb, q⟩ := q
  exact ⟨xv, .ty T, .type t, .type T, b, rfl, .ty T, ty_of S1 r1 ht, kit_ty hb, Cont.dat (Cont.shift k E1) S1 (.bl _) q⟩

/-! ## list(range(..)), tuple(range(..)) -/
theorem rg_rp (i j : Int) : RpAll Z (rgV i j) (rangeD i (j - i).toNat) := by
  unfold rgV rangeD
  generalize (j - i).toNat = n
  have go : ∀ (l : List Nat), RpAll Z (l.map fun k => V.int (i + (k : Nat))) (l.map fun k => PyData.int (i + (k : Nat))) := fun l => by
    induction l with
    | nil => exact .nil
    | cons a l ih => exact .cons (.int _) ih
  exact go _
theorem rg1_rp (j : Int) : RpAll Z (rgV 0 j) (rangeD 0 j.toNat) := by
  have h := rg_rp (Z := Z) 0 j
  rw [Int.sub_zero] at h
  exact h
section
variable {a b : Expr} {ta tb : LTE} {p p2 pos pos2 : Pos}
theorem stepI {ta : LTE} {σ : SV} {ρ : Sl} {R : V → Hp → Prop} {P : Int → Reg → Prop} (S : SI G L Z η H) (s : SS L Z σ ρ) (t : ta ρ η fun v η1 => match v.fz with
    | .dat (.int i) => P i η1
    | _ => False)
    (k : ∀ i L1 Z1 η1 H1, SI G L1 Z1 η1 H1 → SS L1 Z1 σ ρ → Ext L Z L1 Z1 → P i η1 → R (.int i) H1) : liftE G ta σ H R := by
  refine step (P := fun v η1 => match v with
    | .dat (.int i) => P i η1
    | _ => False) S s t fun x v L1 Z1 η1 H1 S1 s1 E1 r1 q => ?_
  cases v with
  | dat d =>
    cases d <;> first | exact False.elim q | skip
    cases Rp.int_inv r1
    exact k _ L1 Z1 η1 H1 S1 s1 E1 q
  | ptr n => exact False.elim q
  | fr o => exact False.elim q
theorem le_rlist1 (hc : X.calm = true) (hg : Gl X "list") (hm : X.mg "list" = none) (hg2 : Gl X "range") (hm2 : X.mg "range" = none) (ha : LE X G a ta) (na : starEach [a] X.env = (false, eval a X.env) :: starEach [] X.env) :
    LE X G (.Call (.Name "list" p) [.Call (.Name "range" p2) [a] [] pos2] [] pos) (fun ρ η Q => ta ρ η fun v η1 => v.fz.settled ∧ biW .rlist1 [v.fz] η1 fun r => Q r η1) := by
  refine (pe_listRg hc hg hm (prg_1 hg2 hm2 ha na) rfl).weak ?_
  rintro σ H Q ⟨ρ, L, Z, η, Qp, S, s, t, k⟩
  refine step (P := fun v η1 => v.settled ∧ biW .rlist1 [v] η1 fun r => Qp r η1) S s t fun xv v L1 Z1 η1 H1 S1 s1 E1 r1 q => ?_
  obtain ⟨_, q⟩ := q
  rcases v with d | n | o <;> first | exact False.elim q | skip
  cases d <;> first | exact False.elim q | skip
  refine ⟨_, Rp.int_inv r1, q.1, ?_⟩
  exact Cont.lst (Cont.shift k E1) S1 (rg1_rp _) q.2
theorem le_rlist2 (hc : X.calm = true) (hg : Gl X "list") (hm : X.mg "list" = none) (hg2 : Gl X "range") (hm2 : X.mg "range" = none) (ha : LE X G a ta) (hb : LE X G b tb) (na : starEach [a, b] X.env = (false, eval a X.env) :: starEach [b] X.env) (nb : starEach [b] X.env = (false, eval b X.env) :: starEach [] X.env) :
    LE X G (.Call (.Name "list" p) [.Call (.Name "range" p2) [a, b] [] pos2] [] pos) (fun ρ η Q => ta ρ η fun v η1 => v.fz.settled ∧ tb ρ η1 fun w η2 => w.fz.settled ∧ biW .rlist2 [v.fz, w.fz] η2 fun r => Q r η2) := by
  refine (pe_listRg hc hg hm (prg_2 hg2 hm2 ha hb na nb (hp := by rw [nb]; rfl)) rfl).weak ?_
  rintro σ H Q ⟨ρ, L, Z, η, Qp, S, s, t, k⟩
  refine step (P := fun v η1 => v.settled ∧ tb ρ η1 fun w η2 => w.fz.settled ∧ biW .rlist2 [v, w.fz] η2 fun r => Qp r η2) S s t fun xv v L1 Z1 η1 H1 S1 s1 E1 r1 q => ?_
  obtain ⟨_, q⟩ := q
  refine step (P := fun w η2 => w.settled ∧ biW .rlist2 [v, w] η2 fun r => Qp r η2) S1 s1 q fun yv w L2 Z2 η2 H2 S2 s2 E2 r2 q => ?_
  obtain ⟨_, q⟩ := q
  rcases v with d | n | o
  · rcases w with d' | n' | o'
    · cases d <;> cases d' <;> first | exact False.elim q | skip
      refine ⟨_, _, Rp.int_inv r1, Rp.int_inv r2, q.1, ?_⟩
      exact Cont.lst (Cont.shift k (E1.trans E2)) S2 (rg_rp _ _) q.2
    · cases d <;> exact False.elim q
    · cases d <;> exact False.elim q
  · exact False.elim q
  · exact False.elim q
theorem le_rtup1 (hc : X.calm = true) (hg : Gl X "tuple") (hm : X.mg "tuple" = none) (hg2 : Gl X "range") (hm2 : X.mg "range" = none) (ha : LE X G a ta) (na : starEach [a] X.env = (false, eval a X.env) :: starEach [] X.env) :
    LE X G (.Call (.Name "tuple" p) [.Call (.Name "range" p2) [a] [] pos2] [] pos) (fun ρ η Q => ta ρ η fun v η1 => v.fz.settled ∧ biW .rtup1 [v.fz] η1 fun r => Q r η1) := by
  refine (pe_tupRgF hc hg hm (prg_1 hg2 hm2 ha na) rfl).weak ?_
  rintro σ H Q ⟨ρ, L, Z, η, Qp, S, s, t, k⟩
  refine step (P := fun v η1 => v.settled ∧ biW .rtup1 [v] η1 fun r => Qp r η1) S s t fun xv v L1 Z1 η1 H1 S1 s1 E1 r1 q => ?_
  obtain ⟨_, q⟩ := q
  rcases v with d | n | o <;> first | exact False.elim q | skip
  cases d <;> first | exact False.elim q | skip
  refine ⟨_, Rp.int_inv r1, q.1, ?_⟩
  exact Cont.tup (Cont.shift k E1) S1 (rg1_rp _) q.2
theorem le_rtup2 (hc : X.calm = true) (hg : Gl X "tuple") (hm : X.mg "tuple" = none) (hg2 : Gl X "range") (hm2 : X.mg "range" = none) (ha : LE X G a ta) (hb : LE X G b tb) (na : starEach [a, b] X.env = (false, eval a X.env) :: starEach [b] X.env) (nb : starEach [b] X.env = (false, eval b X.env) :: starEach [] X.env) :
    LE X G (.Call (.Name "tuple" p) [.Call (.Name "range" p2) [a, b] [] pos2] [] pos) (fun ρ η Q => ta ρ η fun v η1 => v.fz.settled ∧ tb ρ η1 fun w η2 => w.fz.settled ∧ biW .rtup2 [v.fz, w.fz] η2 fun r => Q r η2) := by
  refine (pe_tupRgF hc hg hm (prg_2 hg2 hm2 ha hb na nb (hp := by rw [nb]; rfl)) rfl).weak ?_
  rintro σ H Q ⟨ρ, L, Z, η, Qp, S, s, t, k⟩
  refine step (P := fun v η1 => v.settled ∧ tb ρ η1 fun w η2 => w.fz.settled ∧ biW .rtup2 [v, w.fz] η2 fun r => Qp r η2) S s t fun xv v L1 Z1 η1 H1 S1 s1 E1 r1 q => ?_
  obtain ⟨_, q⟩ := q
  refine step (P := fun w η2 => w.settled ∧ biW .rtup2 [v, w] η2 fun r => Qp r η2) S1 s1 q fun yv w L2 Z2 η2 H2 S2 s2 E2 r2 q => ?_
  obtain ⟨_, q⟩ := q
  rcases v with d | n | o
  · rcases w with d' | n' | o'
    · cases d <;> cases d' <;> first | exact False.elim q | skip
      refine ⟨_, _, Rp.int_inv r1, Rp.int_inv r2, q.1, ?_⟩
      exact Cont.tup (Cont.shift k (E1.trans E2)) S2 (rg_rp _ _) q.2
    · cases d <;> exact False.elim q
    · cases d <;> exact False.elim q
  · exact False.elim q
  · exact False.elim q
end

/-! ## sorted -/
def rSortZ (Z : Hp) : List V → Hp → VK → Prop := fun vs H Q => ∃ (a : Addr) (xs : List V) (ds : List D), vs = [.ref a] ∧ Rd H a (.lst xs) ∧ Sub Z H ∧ RpAll Z xs ds ∧
  (PySem.W.AllAlike ds ∧ PySem.W.Sortable ds ∧ ∀ d ∈ ds, d.depth ≤ 50) ∧
  ∀ ys, RpAll Z ys (ds.mergeSort (PySem.W.dataLe false id)) → ∀ p, H p = none → Q (.ref p) (upd H p (.lst ys))
theorem each_of {R : Value → D → Prop} {Z : Hp} (hR : ∀ v d u, Rp Z v d → RelV v u → R u d) : ∀ {xs : List V} {us : List Value} {ds : List D}, Vals xs us → RpAll Z xs ds → PySem.W.EachIs R us ds
  | _, _, [], .nil, h => .nil
  | _, _, d :: ds, .cons r t, h => by
    cases h with
    | cons h1 h2 => exact .cons (hR _ _ _ h1 r) (each_of hR t h2)
theorem of_each {Z : Hp} : ∀ {us : List Value} {ds : List D}, PySem.W.EachIs (fun u d => ∃ v, RelV v u ∧ Rp Z v d) us ds → ∃ ys, Vals ys us ∧ RpAll Z ys ds
  | _, _, .nil => ⟨[], .nil, .nil⟩
  | _, _, .cons ⟨v, r1, r2⟩ t => by
    obtain ⟨ys, h1, h2⟩ := of_each t
    exact ⟨v :: ys, .cons r1 h1, .cons r2 h2⟩
theorem op_sorted (hu : X.A.units + 64 < cLine) (Z : Hp) : CallR X (.builtin "sorted") (rSortZ Z) := by
  rintro pins s σ H xs us Q I rv ⟨a, ys, ds, rfl, hr, hz, rp, ⟨h1, h2, h3⟩, q⟩
  obtain ⟨u, rfl, ru⟩ := vals1 rv
  cases ru
  obtain ⟨hl, vs, n, r, e⟩ := rd_lst I hr
  have lv : vs.length = ds.length := by rw [← r.length, rp.length]
  have er : PySem.W.EachIs (fun v b => ∃ as, Reads s.heap v (id b) as) vs ds := each_of (fun v d u p rel => Dp.reads I d v u (Rp.dp _ _ (Rp.mono hz _ _ p)) rel) r rp
  refine PySem.W.sorted_data (enc := id) (R := fun u d => ∃ v, RelV v u ∧ Rp Z v d) ⟨_, e, rfl, _, rfl⟩ (each_of (fun v d u p rel => ⟨v, rel, p⟩) r rp) er
    (by rw [List.map_id]; exact h1) (by rw [List.map_id]; exact h2) (by rw [← rp.length]; exact hl) (fun b hb => by have := h3 b hb; show _ + PyData.depth b < _; omega) fun out ho eo => ?_
  obtain ⟨zs, hv, hrp⟩ := of_each eo
  obtain ⟨ep, he'⟩ := PyProof.Rows.sortedAll_at s.heap vs out.toArray
  refine ⟨.ref _, upd H (s.heap.objs.size + 1) (.lst zs), I.laid (t' := s.toks) (fun _ _ => PyProof.Rows.sortedAll_old) (Nat.le_succ _) ⟨?_, out, ep, hv, he'⟩, rfl, q zs hrp _ (I.hok.fresh (Nat.le_succ _))⟩
  rw [hv.length, ho, ← rp.length]
  exact hl
theorem le_sorted {t : LTA} {p pos : Pos} {e : Expr} (hu : X.A.units + 64 < cLine) (hg : Gl X "sorted") (hm : X.mg "sorted" = none) (ha : LA X G [e] t) (he : starEach [e] X.env = (false, eval e X.env) :: starEach [] X.env) :
    LE X G (.Call (.Name "sorted" p) [e] [] pos) (fun ρ η Q => t ρ η fun vs η1 => biW .sorted vs η1 fun r => Q r η1) := by
  refine ⟨fun pins s σ H Q I h => ?_⟩
  obtain ⟨ρ, L, Z, η, Qp, S, s', tt, k⟩ := h
  refine (pe_callB (r := fun xs H Q => ∃ Z, rSortZ Z xs H Q) (fun pins s σ H xs us Q I rv ⟨Z, h⟩ => op_sorted hu Z pins s σ H xs us Q I rv h) hg hm boot_sorted ha (he := he)).run pins s σ H Q I ?_
  refine stepA (P := fun vs η1 => biW .sorted vs η1 fun r => Qp r η1) S s' tt fun xs vs L1 Z1 η1 H1 S1 s1 E1 r1 q => ⟨Z1, ?_⟩
  rcases vs with _ | ⟨v, _ | ⟨w, rest⟩⟩ <;> first | exact False.elim q | skip
  obtain ⟨x, rfl, rr⟩ := RepVs.one r1
  obtain ⟨d, ed, q⟩ := onView_some q
  have w := rr.view S1 ed
  cases d <;> first | exact False.elim q | skip
  obtain ⟨a, ys, rfl, h1, h2⟩ := w
  exact ⟨a, ys, _, rfl, h1, S1.zh, h2, q.1, fun zs hz => Cont.lst (Cont.shift k E1) S1 hz q.2⟩

/-! ## methods -/
def mtId : Mt → String
  | .append => "list.append" | .pop => "list.pop" | .popAt => "list.pop" | .extend => "list.extend" | .index => "list.index" | .split => "str.split" | .bitlen => "int.bit_length"
end
end Pl

namespace Pl
open PySem PySem.Spec PyProof.Rows L2

/-! ## methods of built-in types -/
def tyM (T : String) (x : V) (H : Hp) : Prop := match x with
  | .str _ => T = "str"
  | .int _ => T = "int"
  | .ref p => (T = "list" ∧ ∃ xs, Rd H p (.lst xs)) ∨ (T = "tuple" ∧ ∃ o xs, H p = some (.frz o (.tup xs)) ∧ o.dict = none) ∨ (T = "dict" ∧ ((∃ kvs, H p = some (.dK kvs)) ∨ ∃ kvs, H p = some (.dT kvs)))
  | _ => False
theorem tyM_is {X : Cx} {pins : List (Addr × Obj)} {σ : SV} {H : Hp} {s : Shared} {T : String} {x : V} {v : Value} (I : Inv X pins σ H s) (r : RelV x v) (ty : tyM T x H) :
    s.TypeIs v T ∧ ∀ a, v = .ref a → ∃ ob, s.heap.get? a = some ob ∧ ob.dict = none := by
  cases x with
  | str z => obtain ⟨t, rfl⟩ := r; cases (show T = "str" from ty); exact ⟨typeIs_str s z t, fun _ e => nomatch e⟩
  | int i => obtain ⟨t, rfl⟩ := r; cases (show T = "int" from ty); exact ⟨typeIs_int s i t, fun _ e => nomatch e⟩
  | ref p =>
    cases r
    rcases ty with ⟨rfl, xs, h⟩ | ⟨rfl, o, xs, h, hd⟩ | ⟨rfl, h⟩
    · obtain ⟨_, vs, n, _, e⟩ := rd_lst I h
      refine ⟨⟨_, e, rfl⟩, fun a q => ?_⟩
      cases q
      exact ⟨_, e, rfl⟩
    · obtain ⟨e, _, vs, _, ob, e2, hc, _⟩ := I.hok p _ h
      rw [e] at e2
      cases e2
      refine ⟨⟨o, e, hc⟩, fun a q => ?_⟩
      cases q
      exact ⟨o, e, hd⟩
    · have z : ∃ o, s.heap.get? p = some o ∧ o.ExactDict := by
        rcases h with ⟨kvs, h⟩ | ⟨kvs, h⟩
        · obtain ⟨_, _, _, _, o, _, _, e, ex, _⟩ := I.hok p _ h
          exact ⟨o, e, ex⟩
        · obtain ⟨_, _, _, _, o, _, _, e, ex, _⟩ := I.hok p _ h
          exact ⟨o, e, ex⟩
      obtain ⟨o, e, ex⟩ := z
      refine ⟨⟨o, e, ex.1⟩, fun a q => ?_⟩
      cases q
      exact ⟨o, e, ex.2.1⟩
  | _ => exact False.elim ty
/-- a method that is known -/
structure MtK (X : Cx) (name : Str) (T : String) (r : V → List V → Hp → VK → Prop) : Prop where
  pa : PlainAttrs T
  ex : ∃ id, Slot T name id ∧ typeOf (.builtin id) = pure (.type "method_descriptor") ∧ MtR X id r
def tMet (X : Cx) (name : Str) (to : TE) (t : TA) : TE := fun σ H Q => to σ H fun x H1 => ∃ T r, MtK X name T r ∧ tyM T x H1 ∧ t σ H1 fun xs H2 => r x xs H2 Q
section
variable {X : Cx} {o e : Expr} {es : List Expr} {to : TE} {t : TA} {name : Str} {apos cpos : Pos}
theorem pe_met1 (ho : PE X o to) (ha : PA X [e] t) (hbase : attributeBase o name X.env (eval o X.env) = eval o X.env) (hline : (apos.endLine == cpos.line) = true)
    (hs : starEach [e] X.env = (false, eval e X.env) :: starEach [] X.env) : PE X (.Call (.Attribute o name apos) [e] [] cpos) (tMet X name to t) := by
  refine ⟨fun pins s σ H Q I h => wpAny_Call_method_late hbase (by rw [hs]; rfl) hline rfl (thn (ho.run pins s σ H _ I h) ?_)⟩
  rintro v s1 ⟨x, H1, I1, r1, T, r, ⟨pa, id, slot, hty, hm⟩, ty, q1⟩
  obtain ⟨h1, h2⟩ := tyM_is I1 r1 ty
  refine ⟨T, id, pa, slot, hty, h1, h2, ?_⟩
  have hA := ha.run cpos pins s1 σ H1 _ I1 q1
  rw [hs] at hA ⊢
  refine Calls.callWith_builtin rfl (Calls.evalArgs_plain (thn hA ?_))
  rintro us s2 ⟨vs, H2, I2, r2, q2⟩
  exact hm pins s2 σ H2 x vs v us Q I2 r1 r2 q2
theorem pe_met0 (ho : PE X o to) (hbase : attributeBase o name X.env (eval o X.env) = eval o X.env) (hline : (apos.endLine == cpos.line) = true) : PE X (.Call (.Attribute o name apos) [] [] cpos) (tMet X name to tNil) := by
  refine ⟨fun pins s σ H Q I h => wpAny_Call_method0_late hbase hline (thn (ho.run pins s σ H _ I h) ?_)⟩
  rintro v s1 ⟨x, H1, I1, r1, T, r, ⟨pa, id, slot, hty, hm⟩, ty, q1⟩
  obtain ⟨h1, h2⟩ := tyM_is I1 r1 ty
  exact ⟨T, id, pa, slot, hty, h1, h2, Calls.callWith_builtin rfl (PySem.evalArgs_none (hm pins s1 σ H1 x [] v [] Q I1 r1 .nil q1))⟩
end
section
variable {X : Cx}
/-! the rules by values -/
def rIdxP (T : String) : V → List V → Hp → VK → Prop := fun x xs H Q => ∃ y ds d, xs = [y] ∧ Rp H y d ∧ ((T = "list" ∧ Rp H x (.list ds)) ∨ (T = "tuple" ∧ Rp H x (.tuple ds))) ∧ firstAt ds d fun j => Q (.int (j : Nat)) H
theorem reads_get {h : Heap} : ∀ {vs : List Value} {ds : List D} {as : List Addr} {i : Nat} {v : Value}, ReadsAll h vs ds as → vs[i]? = some v → ∃ d bs, ds[i]? = some d ∧ Reads h v d bs
  | _, _, _, i, v, .nil, e => by simp at e
  | _, _, _, 0, v, .cons r t, e => by simp at e; subst e; exact ⟨_, _, rfl, r⟩
  | _, _, _, i + 1, v, .cons r t, e => by
    obtain ⟨d, bs, a, b⟩ := reads_get (i := i) t (by simpa using e)
    exact ⟨d, bs, by simpa using a, b⟩
theorem reads_len {h : Heap} : ∀ {vs : List Value} {ds : List D} {as : List Addr}, ReadsAll h vs ds as → vs.length = ds.length
  | _, _, _, .nil => rfl
  | _, _, _, .cons r t => by rw [List.length_cons, List.length_cons, reads_len t]
theorem mt_listIdx (hu : X.A.units + 64 < cLine) : MtR X "list.index" (rIdxP "list") := by
  rintro pins s σ H x xs v us Q I rx rv ⟨y, ds, d, rfl, ry, hx, hz, j, z, hj, hyes, hno, q⟩
  rcases hx with ⟨_, hx⟩ | ⟨h, _⟩
  · obtain ⟨u, rfl, ru⟩ := vals1 rv
    obtain ⟨bs, r2⟩ := Dp.reads I d y u (Rp.dp _ _ ry) ru
    have pd := Rp.plain _ _ ry
    have pl := Rp.plain _ _ hx
    rw [PyData.plain] at pl
    cases hx with
    | lst h1 h2 =>
      cases rx
      obtain ⟨hsz, vs, n, r, e⟩ := rd_lst I h1
      obtain ⟨as, rall⟩ := Dp.readsAll I ds _ vs (RpAll.dp _ _ h2) r
      have hl := reads_len rall
      have hjl : j < vs.length := by rw [hl]; exact (List.getElem?_eq_some_iff.mp hj).1
      have line := sizeLine_eq
      have val : ∀ (m : Nat) (hm : m < vs.toArray.size), ∃ w, ds[m]? = some w ∧ SeqAt.readOf s.heap vs.toArray[m] = w := fun m hm => by
        have hm' : m < vs.length := by simpa using hm
        obtain ⟨w, cs, hw, rw'⟩ := reads_get rall (List.getElem?_eq_getElem hm')
        refine ⟨w, hw, ?_⟩
        have pw : w.plain = true := by
          obtain ⟨vv, _, rp⟩ := h2.get hw
          exact Rp.plain _ _ rp
        simpa using SeqAt.readOf_plain pw rw'
      refine call_meets PySem.F.slot_list_index ⟨_, e, rfl⟩ PySem.F.entry_list_index (PySem.F.args_list_index_2 _ _)
        (SeqAt.list_indexAt _ vs.toArray n none #[] u (fun w => PyData.eqv (SeqAt.readOf s.heap w) d) j (by simpa using hjl) ?_ ?_ ?_)
        ⟨e, SeqAt.items_plain (by simpa using rall) r2 pl pd (by omega), ⟨.int (j : Nat), H, I.tok _, ⟨_, rfl⟩, q⟩⟩
      · have : vs.length ≤ sizeLine := by rw [hl, ← h2.length]; exact hsz
        rw [line] at this
        omega
      · obtain ⟨w, hw, ev⟩ := val j (by simpa using hjl)
        rw [hj] at hw
        cases hw
        show PyData.eqv (SeqAt.readOf s.heap vs.toArray[j]) d = true
        rw [ev]
        exact hyes
      · intro m hm hmj
        obtain ⟨w, hw, ev⟩ := val m hm
        show PyData.eqv (SeqAt.readOf s.heap vs.toArray[m]) d = false
        rw [ev]
        exact hno m w hmj hw
  · exact absurd h (by decide)
theorem mt_tupIdx (hu : X.A.units + 64 < cLine) : MtR X "tuple.index" (rIdxP "tuple") := by
  rintro pins s σ H x xs v us Q I rx rv ⟨y, ds, d, rfl, ry, hx, hz, j, z, hj, hyes, hno, q⟩
  rcases hx with ⟨h, _⟩ | ⟨_, hx⟩
  · exact absurd h (by decide)
  · obtain ⟨u, rfl, ru⟩ := vals1 rv
    obtain ⟨bs, r2⟩ := Dp.reads I d y u (Rp.dp _ _ ry) ru
    have pd := Rp.plain _ _ ry
    have pl := Rp.plain _ _ hx
    rw [PyData.plain] at pl
    cases hx with
    | tup h1 hdn h2 =>
      cases rx
      obtain ⟨hsz, vs, r, ⟨⟨cls, dd, data, sl⟩, e, hc, n, hd⟩⟩ := rd_tup I (.inr ⟨_, h1⟩)
      simp only at hc hd
      subst hc hd
      obtain ⟨as, rall⟩ := Dp.readsAll I ds _ vs (RpAll.dp _ _ h2) r
      have hl := reads_len rall
      have hjl : j < vs.length := by rw [hl]; exact (List.getElem?_eq_some_iff.mp hj).1
      have val : ∀ (m : Nat) (hm : m < vs.toArray.size), ∃ w, ds[m]? = some w ∧ SeqAt.readOf s.heap vs.toArray[m] = w := fun m hm => by
        have hm' : m < vs.length := by simpa using hm
        obtain ⟨w, cs, hw, rw'⟩ := reads_get rall (List.getElem?_eq_getElem hm')
        refine ⟨w, hw, ?_⟩
        have pw : w.plain = true := by
          obtain ⟨vv, _, rp⟩ := h2.get hw
          exact Rp.plain _ _ rp
        simpa using SeqAt.readOf_plain pw rw'
      refine call_meets PySem.F.slot_tuple_index ⟨_, e, rfl⟩ PySem.F.entry_tuple_index (PySem.F.args_tuple_index_2 _ _)
        (TI.tuple_indexAt _ vs.toArray n dd sl u (fun w => PyData.eqv (SeqAt.readOf s.heap w) d) j (by simpa using hjl) ?_ ?_)
        ⟨e, SeqAt.items_plain (by simpa using rall) r2 pl pd (by omega), ⟨.int (j : Nat), H, I.tok _, ⟨_, rfl⟩, q⟩⟩
      · obtain ⟨w, hw, ev⟩ := val j (by simpa using hjl)
        rw [hj] at hw
        cases hw
        show PyData.eqv (SeqAt.readOf s.heap vs.toArray[j]) d = true
        rw [ev]
        exact hyes
      · intro m hm hmj
        obtain ⟨w, hw, ev⟩ := val m hm
        show PyData.eqv (SeqAt.readOf s.heap vs.toArray[m]) d = false
        rw [ev]
        exact hno m w hmj hw
def mtName : Mt → Str
  | .append => "append" | .pop => "pop" | .popAt => "pop" | .extend => "extend" | .index => "index" | .split => "split" | .bitlen => "bit_length"
end
end Pl

namespace Pl
open PySem PySem.Spec PyProof.Rows L2

section
variable {X : Cx} {G : Gh} {L : Loc} {Z : Hp} {η : Reg} {H : Hp} {Q : VK}
theorem Ext.set {n : Nat} {a : Addr} {ks ks' : List Addr} (e : L[n]? = some (some (a, ks))) : Ext L Z (L.set n (some (a, ks'))) Z := by
  refine ⟨Sub.refl _, fun m b js h => ?_⟩
  by_cases hm : n = m
  · subst hm
    rw [e] at h
    cases h
    exact ⟨ks', by rw [List.getElem?_set_self (List.getElem?_eq_some_iff.mp e).1]⟩
  · exact ⟨js, by rw [List.getElem?_set_ne hm]; exact h⟩
/-- the list of a register -/
theorem SI.list (S : SI G L Z η H) {n : Nat} {ds : List D} {x : V} (h : η[n]? = some (some (.lst ds))) (r : RepV G L Z H x (.ptr n)) :
    ∃ a xs, x = .ref a ∧ L[n]? = some (some (a, [])) ∧ H a = some (.lst xs) ∧ RpAll Z xs ds := by
  obtain ⟨a, ks, h1, rfl⟩ := r
  obtain ⟨_, o, h2, h3⟩ := S.ow n _ h1
  rw [h] at h2
  cases h2
  obtain ⟨e, xs, q1, q2⟩ := h3
  have e : ks = [] := e
  subst e
  exact ⟨a, xs, rfl, h1, q1, q2⟩
theorem SI.putList (S : SI G L Z η H) {n : Nat} {a : Addr} {ys : List V} {es : List D} (h1 : L[n]? = some (some (a, []))) (r : RpAll Z ys es) :
    SI G (L.set n (some (a, []))) Z (η.set n (some (.lst es))) (upd H a (.lst ys)) :=
  S.write h1 (fun b hb u e => by rw [upd_ne (fun z => hb (by rw [z]; exact List.mem_cons_self))]; exact e) (fun b hb => nomatch hb) ⟨rfl, ys, upd_same, r⟩
theorem met_ty {x : V} {v : Vl} {T : String} (S : SI G L Z η H) (r : RepV G L Z H x v) (h : tyV' v η = some T) (hT : T = "list" ∨ T = "tuple" ∨ T = "str" ∨ T = "int" ∨ T = "dict") : tyM T x H := by
  cases v with
  | dat d =>
    cases h
    have q := Rp.mono S.zh _ _ r
    cases d with
    | none => exact absurd hT (by decide)
    | bool b =>
      have hT : "bool" = "list" ∨ "bool" = "tuple" ∨ "bool" = "str" ∨ "bool" = "int" ∨ "bool" = "dict" := hT
      exact absurd hT (by decide)
    | int b => cases q; exact rfl
    | str b => cases q; exact rfl
    | list ds =>
      cases q with
      | lst h1 h2 => exact .inl ⟨rfl, _, h1⟩
    | tuple ds =>
      cases q with
      | tup h1 hd h2 => exact .inr (.inl ⟨rfl, _, _, h1, hd⟩)
    | dict ds => cases q
  | ptr n =>
    obtain ⟨a, ks, h1, rfl⟩ := r
    obtain ⟨_, o, h2, h3⟩ := S.ow n _ h1
    unfold tyV' at h
    simp only [h2] at h
    cases o with
    | lst ds => cases h; obtain ⟨_, xs, q, _⟩ := h3; exact .inl ⟨rfl, _, .inl q⟩
    | dK ds => cases h; obtain ⟨_, xs, q, _⟩ := h3; exact .inr (.inr ⟨rfl, .inl ⟨_, q⟩⟩)
    | dT ds => cases h; obtain ⟨_, xs, q, _⟩ := h3; exact .inr (.inr ⟨rfl, .inr ⟨_, q⟩⟩)
  | fr o => cases h
def rExtendR : V → List V → Hp → VK → Prop := fun x vs H Q => ∃ l b xs zs, x = .ref l ∧ vs = [.ref b] ∧ H l = some (.lst xs) ∧ Rd H b (.lst zs) ∧ xs.length + zs.length ≤ sizeLine ∧ Q .non (upd H l (.lst (xs ++ zs)))
theorem mt_extendR : MtR X "list.extend" rExtendR := by
  rintro pins s σ H x vs v us Q I rx rv ⟨l, b, xs, zs, rfl, rfl, hH, hB, hz, q⟩
  cases rx
  obtain ⟨u, rfl, ru⟩ := vals1 rv
  cases ru
  obtain ⟨_, ws, n, r, e⟩ := rd_lst I (.inl hH)
  obtain ⟨_, ws2, n2, r2, e2⟩ := rd_lst I hB
  have h1 := r.length
  have h2 := r2.length
  have fits : ¬ (!ws.toArray.isEmpty && Builtin.List.listTooLong (ws.toArray.size + ws2.toArray.size)) = true := by
    rw [notLongL (by simp; omega)]
    simp
  refine call_meets F.slot_list_extend ⟨_, e, rfl⟩ F.entry_list_extend (F.args_list_extend_2 _ _)
    (AutoSeq1.list_extend_list_list_0 l ws.toArray n b ws2.toArray n2 fits (by simp; omega) (by simp; omega)) ⟨e, e2, ?_⟩
  exact ⟨.non, _, I.lset (its' := ws ++ ws2) hH e (by simp) (r.append r2) (by rw [List.length_append]; exact hz), rfl, q⟩
def rMt : Mt → String → V → List V → Hp → VK → Prop
  | .append, _ => rAppend
  | .pop, _ => rPop
  | .popAt, _ => rPopAt
  | .extend, _ => rExtendR
  | .index, T => rIdxP T
  | .split, _ => fun x xs H Q => ∃ a b, x = .str a ∧ xs = [.str b] ∧ (b.length == 0) = false ∧ a.length + 2 ≤ sizeLine ∧ rNewStrs (Txt.split a b) H Q
  | .bitlen, _ => fun x xs H Q => ∃ i, x = .int i ∧ xs = [] ∧ Q (.int (Builtin.Int.intBits i : Nat)) H
theorem mt_bits : MtR X "int.bit_length" (fun x xs H Q => ∃ i, x = .int i ∧ xs = [] ∧ Q (.int (Builtin.Int.intBits i : Nat)) H) := by
  rintro pins s σ H x xs v us Q I rx rv ⟨i, rfl, rfl, q⟩
  obtain ⟨t, rfl⟩ := rx
  cases rv
  exact call_int_bit_length ⟨.int _, H, I.tok _, ⟨_, rfl⟩, q⟩
theorem mtk (hu : X.A.units + 64 < cLine) {m : Mt} {T : String} (h : mtTy m (some T) = true) : MtK X (mtName m) T (rMt m T) ∧ (T = "list" ∨ T = "tuple" ∨ T = "str" ∨ T = "int" ∨ T = "dict") := by
  unfold mtTy at h
  split at h <;> first | cases h | skip
  · rename_i e; cases e; exact ⟨⟨PySem.F.plainAttrs_list, _, PySem.F.slot_list_append, PySem.F.type_list_append, mt_append⟩, by decide⟩
  · rename_i e; cases e; exact ⟨⟨PySem.F.plainAttrs_list, _, PySem.F.slot_list_pop, PySem.F.type_list_pop, mt_pop⟩, by decide⟩
  · rename_i e; cases e; exact ⟨⟨PySem.F.plainAttrs_list, _, PySem.F.slot_list_pop, PySem.F.type_list_pop, mt_popAt⟩, by decide⟩
  · rename_i e; cases e; exact ⟨⟨PySem.F.plainAttrs_list, _, PySem.F.slot_list_extend, PySem.F.type_list_extend, mt_extendR⟩, by decide⟩
  · rename_i e; cases e; exact ⟨⟨PySem.F.plainAttrs_list, _, PySem.F.slot_list_index, PySem.F.type_list_index, mt_listIdx hu⟩, by decide⟩
  · rename_i e; cases e; exact ⟨⟨PySem.F.plainAttrs_tuple, _, PySem.F.slot_tuple_index, PySem.F.type_tuple_index, mt_tupIdx hu⟩, by decide⟩
  · rename_i e; cases e; exact ⟨⟨PySem.F.plainAttrs_str, _, PySem.F.slot_str_split, PySem.F.type_str_split, mt_split⟩, by decide⟩
  · rename_i e; cases e; exact ⟨⟨PySem.F.plainAttrs_int, _, PyProof.Rows.slot_int_bit_length, PyProof.Rows.type_int_bit_length, mt_bits⟩, by decide⟩
theorem mtTy_some {m : Mt} {o : Option String} (h : mtTy m o = true) : ∃ T, o = some T := by
  cases o with
  | none => cases m <;> cases h
  | some T => exact ⟨T, rfl⟩
theorem onTy {m : Mt} {T : String} (h : mtTy m (some T) = true) : (m = .index → T = "list" ∨ T = "tuple") := by
  intro e
  subst e
  unfold mtTy at h
  split at h <;> first | cases h | skip
  all_goals first | (rename_i e; cases e; decide) | skip
  all_goals (rename_i e1 e2; cases e1)
theorem tyPtr {n : Nat} {η : Reg} {T : String} (h : tyV' (.ptr n) η = some T) : T ≠ "tuple" := by
  intro e
  subst e
  simp only [tyV'] at h
  split at h
  · exact absurd (Option.some.inj h) (by decide)
  · exact absurd (Option.some.inj h) (by decide)
  · cases h
theorem viewPtr {n : Nat} {η : Reg} {c : D} (h : (Vl.ptr n).view η = some c) : ∃ ds, c = .list ds := by
  simp only [Vl.view] at h
  split at h
  · exact ⟨_, (Option.some.inj h).symm⟩
  · cases h
theorem strs_rp : ∀ (ys : List Str), RpAll Z (ys.map V.str) (ys.map PyData.str)
  | [] => .nil
  | y :: ys => .cons (.str y) (strs_rp ys)
/-- a method's effect, as the layer below has it; at the receiver's evaluation v was of the type T -/
theorem met_ok {m : Mt} {T : String} {x : V} {v : Vl} {xs : List V} {vs : List Vl} {η0 : Reg} {Qp : Vl → Reg → Prop} (S : SI G L Z η H) (hT : mtTy m (some T) = true) (h0 : tyV' v η0 = some T) (r : RepV G L Z H x v) (rs : RepVs G L Z H xs vs)
    (h : metW m v vs η Qp) (k : Cont G L Z Qp Q) : rMt m T x xs H Q := by
  cases m with
  | append =>
    rcases v with d | n | o <;> first | exact False.elim h | skip
    rcases vs with _ | ⟨w, _ | ⟨u, rest⟩⟩ <;> first | exact False.elim h | skip
    obtain ⟨y, rfl, ry⟩ := RepVs.one rs
    cases e : η[n]? with
    | none => simp only [metW, e] at h
    | some o =>
      rcases o with _ | (ds | kvs | kvs) <;> simp only [metW, e] at h
      obtain ⟨hz, h⟩ := h
      obtain ⟨d, rfl, h⟩ := onD_some h
      obtain ⟨a, ys, rfl, h1, h2, h3⟩ := S.list e r
      refine ⟨a, ys, y, rfl, rfl, h2, by rw [h3.length]; exact hz, ?_⟩
      exact k _ (.dat .none) _ Z _ _ (S.putList h1 (h3.append (.cons ry .nil))) (Ext.set h1) .non h
  | pop =>
    rcases v with d | n | o <;> first | exact False.elim h | skip
    rcases vs with _ | ⟨w, rest⟩ <;> first | exact False.elim h | skip
    cases rs
    cases e : η[n]? with
    | none => simp only [metW, e] at h
    | some o =>
      rcases o with _ | (ds | kvs | kvs) <;> simp only [metW, e] at h
      obtain ⟨d, hd, h⟩ := h
      obtain ⟨a, ys, rfl, h1, h2, h3⟩ := S.list e r
      rw [← h3.length] at hd
      obtain ⟨y, hy, ry⟩ := h3.get hd
      refine ⟨a, ys, y, rfl, rfl, h2, hy, ?_⟩
      have e1 : ys.dropLast = ys.take (ys.length - 1) := List.dropLast_eq_take
      have e2 : ds.dropLast = ds.take (ys.length - 1) := by rw [List.dropLast_eq_take, h3.length]
      rw [e1]
      rw [e2] at h
      exact k _ (.dat d) _ Z _ _ (S.putList h1 (h3.take _)) (Ext.set h1) ry h
  | popAt =>
    rcases v with d | n | o <;> first | exact False.elim h | skip
    rcases vs with _ | ⟨w, _ | ⟨u, rest⟩⟩
    · exact False.elim h
    · obtain ⟨y, rfl, ry⟩ := RepVs.one rs
      rcases w with d | n' | o' <;> first | exact False.elim h | skip
      cases d <;> first | exact False.elim h | skip
      cases Rp.int_inv ry
      cases e : η[n]? with
      | none => simp only [metW, e] at h
      | some o =>
        rcases o with _ | (ds | kvs | kvs) <;> simp only [metW, e] at h
        obtain ⟨d, ⟨i0, i1⟩, hd, h⟩ := h
        obtain ⟨a, ys, rfl, h1, h2, h3⟩ := S.list e r
        obtain ⟨y, hy, ry⟩ := h3.get hd
        have hl := (List.getElem?_eq_some_iff.mp hy).1
        refine ⟨a, ys, _, _, y, rfl, rfl, h2, by omega, i1, ?_, hy, ?_⟩
        · unfold seqIndex?
          simp only
          first
            | (rw [if_pos (by omega)]; simp; omega)
            | (simp; omega)
        · exact k _ (.dat d) _ Z _ _ (S.putList h1 (h3.erase _)) (Ext.set h1) ry h
    · rcases w with d | n' | o' <;> first | exact False.elim h | (cases d <;> exact False.elim h)
  | extend =>
    rcases v with d | n | o <;> first | exact False.elim h | skip
    rcases vs with _ | ⟨w, _ | ⟨u, rest⟩⟩ <;> first | exact False.elim h | skip
    obtain ⟨y, rfl, ry⟩ := RepVs.one rs
    cases e : η[n]? with
    | none => simp only [metW, e] at h
    | some o =>
      rcases o with _ | (ds | kvs | kvs) <;> simp only [metW, e] at h
      obtain ⟨d, ed, h⟩ := onView_some h
      have w := ry.view S ed
      cases d <;> first | exact False.elim h | skip
      obtain ⟨hz, h⟩ := h
      obtain ⟨b, zs, rfl, hb, h4⟩ := w
      obtain ⟨a, ys, rfl, h1, h2, h3⟩ := S.list e r
      refine ⟨a, b, ys, zs, rfl, rfl, h2, hb, by rw [h3.length, h4.length]; exact hz, ?_⟩
      exact k _ (.dat .none) _ Z _ _ (S.putList h1 (h3.append h4)) (Ext.set h1) .non h
  | index =>
    rcases vs with _ | ⟨w, _ | ⟨u, rest⟩⟩
    · rcases v with d | n | o <;> exact False.elim h
    · rcases w with d | n' | o'
      · have h : onView v η fun
            | .list ds => firstAt ds d fun j => Qp (.dat (.int (j : Nat))) η
            | .tuple ds => firstAt ds d fun j => Qp (.dat (.int (j : Nat))) η
            | _ => False := by rcases v with _ | _ | _ <;> exact h
        obtain ⟨y, rfl, ry⟩ := RepVs.one rs
        obtain ⟨c, ec, h⟩ := onView_some h
        have w := r.view S ec
        have fin : ∀ ds, firstAt ds d (fun j => Qp (.dat (.int (j : Nat))) η) → firstAt ds d fun j => Q (.int (j : Nat)) H := fun ds ⟨a, j, z, b, c, e, q⟩ => ⟨a, j, z, b, c, e, Cont.dat k S (.int _) q⟩
        have tt : T = "list" ∧ (∃ ds, c = .list ds) ∨ T = "tuple" ∧ (∃ ds, c = .tuple ds) := by
          rcases v with d | n | o
          · cases ec
            cases h0
            cases c <;> first | exact False.elim h | skip
            · exact .inl ⟨rfl, _, rfl⟩
            · exact .inr ⟨rfl, _, rfl⟩
          · have e1 : T = "list" := by
              rcases onTy hT rfl with z | z
              · exact z
              · exact absurd z (tyPtr h0)
            exact .inl ⟨e1, viewPtr ec⟩
          · cases ec
        rcases tt with ⟨rfl, ds, rfl⟩ | ⟨rfl, ds, rfl⟩
        · exact ⟨y, ds, d, rfl, Rp.mono S.zh _ _ ry, .inl ⟨rfl, w.rp S.zh⟩, fin _ h⟩
        · exact ⟨y, ds, d, rfl, Rp.mono S.zh _ _ ry, .inr ⟨rfl, w.rp S.zh⟩, fin _ h⟩
      · rcases v with _ | _ | _ <;> exact False.elim h
      · rcases v with _ | _ | _ <;> exact False.elim h
    · rcases w with d | n' | o' <;> rcases v with _ | _ | _ <;> exact False.elim h
  | split =>
    rcases v with d | n | o <;> first | exact False.elim h | skip
    cases d <;> first | exact False.elim h | skip
    rcases vs with _ | ⟨w, _ | ⟨u, rest⟩⟩
    · exact False.elim h
    · rcases w with d | n' | o' <;> first | exact False.elim h | skip
      cases d <;> first | exact False.elim h | skip
      obtain ⟨y, rfl, ry⟩ := RepVs.one rs
      cases Rp.str_inv ry
      cases Rp.str_inv r
      obtain ⟨h1, h2, h⟩ := h
      exact ⟨_, _, rfl, rfl, h1, h2, Cont.lst k S (strs_rp _) h⟩
    · rcases w with d | n' | o' <;> first | exact False.elim h | (cases d <;> exact False.elim h)
  | bitlen =>
    rcases v with d | n | o <;> first | exact False.elim h | skip
    cases d <;> first | exact False.elim h | skip
    rcases vs with _ | ⟨w, rest⟩ <;> first | exact False.elim h | skip
    cases rs
    cases Rp.int_inv r
    exact ⟨_, rfl, rfl, Cont.dat k S (.int _) h⟩
section
variable {o e : Expr} {apos cpos : Pos} {ta te : LTE} {t : LTA}
theorem met_low {name : Str} (hu : X.A.units + 64 < cLine) (m : Mt) (hn : mtName m = name) : ∀ σ H Q, liftE G (fun ρ η Q => ta ρ η fun v η1 => mtTy m (tyV' v.fz η1) = true ∧ t ρ η1 fun vs η2 => metW m v.fz vs η2 Q) σ H Q → tMet X name (liftE G ta) (liftA G t) σ H Q := by
  subst hn
  rintro σ H Q ⟨ρ, L, Z, η, Qp, S, s, tt, k⟩
  refine step (P := fun v η1 => mtTy m (tyV' v η1) = true ∧ t ρ η1 fun vs η2 => metW m v vs η2 Qp) S s tt fun x v L1 Z1 η1 H1 S1 s1 E1 r1 q => ?_
  obtain ⟨hT, q⟩ := q
  obtain ⟨T, h0⟩ := mtTy_some hT
  rw [h0] at hT
  obtain ⟨mk, mt⟩ := mtk (X := X) hu hT
  refine ⟨T, rMt m T, mk, met_ty S1 r1 h0 mt, ?_⟩
  refine stepA (P := fun vs η2 => metW m v vs η2 Qp) S1 s1 q fun xs vs L2 Z2 η2 H2 S2 s2 E2 r2 q => ?_
  have nf : ∀ o, v ≠ .fr o := fun o e => by subst e; cases h0
  exact met_ok S2 hT h0 (r1.ext E2 nf) r2 q (Cont.shift k (E1.trans E2))
theorem le_met1 {name : Str} (hu : X.A.units + 64 < cLine) (m : Mt) (hn : mtName m = name) (ho : LE X G o ta) (ha : LA X G [e] t) (hbase : attributeBase o name X.env (eval o X.env) = eval o X.env) (hline : (apos.endLine == cpos.line) = true)
    (hs : starEach [e] X.env = (false, eval e X.env) :: starEach [] X.env) :
    LE X G (.Call (.Attribute o name apos) [e] [] cpos) (fun ρ η Q => ta ρ η fun v η1 => mtTy m (tyV' v.fz η1) = true ∧ t ρ η1 fun vs η2 => metW m v.fz vs η2 Q) :=
  (pe_met1 ho ha hbase hline hs).weak (met_low hu m hn)
theorem le_met0 {name : Str} (hu : X.A.units + 64 < cLine) (m : Mt) (hn : mtName m = name) (ho : LE X G o ta) (hbase : attributeBase o name X.env (eval o X.env) = eval o X.env) (hline : (apos.endLine == cpos.line) = true) :
    LE X G (.Call (.Attribute o name apos) [] [] cpos) (fun ρ η Q => ta ρ η fun v η1 => mtTy m (tyV' v.fz η1) = true ∧ metW m v.fz [] η1 Q) := by
  refine (pe_met0 ho hbase hline).weak fun σ H Q q => ?_
  obtain ⟨ρ, L, Z, η, Qp, S, s, tt, k⟩ := met_low (t := fun _ η Q => Q [] η) hu m hn σ H Q q
  refine ⟨ρ, L, Z, η, Qp, S, s, tt, fun x v L' Z' η' H' S' E' r' q => ?_⟩
  obtain ⟨T, r, h1, h2, h3⟩ := k x v L' Z' η' H' S' E' r' q
  refine ⟨T, r, h1, h2, ?_⟩
  obtain ⟨ρ, L, Z, η, Qp, S, s, tt, k⟩ := h3
  exact k [] [] L Z η _ S Ext.refl .nil tt
end
end
end Pl

namespace Pl
open PySem PySem.Spec PyProof.Rows L2

/-! ## what is walked -/
/-- an item, as it is yielded -/
def Iv (Z H : Hp) (x : V) (d : D) : Prop := Rp Z x d ∨ ∃ T xs ds, x = .ref T ∧ d = .tuple ds ∧ Rd H T (.tup xs) ∧ RpAll Z xs ds
/-- the registers gs keep their places -/
def Keep (gs : List Nat) (L : Loc) (Z : Hp) (L' : Loc) (Z' : Hp) : Prop := Sub Z Z' ∧ ∀ n ∈ gs, ∀ (a : Addr) (ks : List Addr), L[n]? = some (some (a, ks)) → ∃ ks', L'[n]? = some (some (a, ks'))
theorem Ext.keep {L L' : Loc} {Z Z' : Hp} (E : Ext L Z L' Z') (gs : List Nat) : Keep gs L Z L' Z' := ⟨E.1, fun n _ => E.2 n⟩
theorem Keep.sub {L L' : Loc} {Z Z' : Hp} {gs hs : List Nat} (E : Keep gs L Z L' Z') (h : ∀ n ∈ hs, n ∈ gs) : Keep hs L Z L' Z' := ⟨E.1, fun n hn => E.2 n (h n hn)⟩
/-- an iterator that yields the data ds, as long as ok holds -/
structure ItOk (J : It) (L : Loc) (Z : Hp) (ds : List D) (ok : Reg → Prop) (pl : Bool) (gs : List Nat) : Prop where
  sz : ds.length ≤ sizeLine
  go : ∀ (G' : Gh) L2 Z2 η2 H2, SI G' L2 Z2 η2 H2 → Keep gs L Z L2 Z2 → ok η2 → ∀ (i : Nat) d, ds[i]? = some d →
    J.go i H2 ∧ ∀ x H3, J.yld i H2 x H3 → SI G' L2 Z2 η2 H3 ∧ Sub H2 H3 ∧ Iv Z2 H3 x d ∧ (pl = true → Rp Z2 x d)
  stop : ∀ (G' : Gh) L2 Z2 η2 H2, SI G' L2 Z2 η2 H2 → Keep gs L Z L2 Z2 → ok η2 → ∀ (i : Nat), ds.length ≤ i → J.stop i H2
abbrev LTI := Sl → Reg → (List D → (Reg → Prop) → List Nat → Reg → Prop) → Prop
def liftI (G : Gh) (pl : Bool) (w : LTI) : TI := fun σ H R => ∃ ρ L Z η Rp, SI G L Z η H ∧ SS L Z σ ρ ∧ w ρ η Rp ∧
  ∀ J ds ok gs L' Z' η' H', SI G L' Z' η' H' → Ext L Z L' Z' → ItOk J L' Z' ds ok pl gs → ok η' → Rp ds ok gs η' → R J H'
section
variable {X : Cx} {G : Gh} {L : Loc} {Z : Hp} {η : Reg} {H : Hp}
/-! ### kinds of iterators -/
theorem it_list {K : PySem.W.Frag} {a : Addr} {xs : List V} {ds : List D} (h : Rd Z a (.lst xs)) (r : RpAll Z xs ds) (sz : ds.length ≤ sizeLine) : ItOk (Itl K a) L Z ds (fun _ => True) true [] := by
  refine ⟨sz, fun G' L2 Z2 η2 H2 S E _ i d hd => ?_, fun G' L2 Z2 η2 H2 S E _ i hi => ⟨xs, .inl (S.zh.rd (E.1.rd h)), by rw [r.length]; exact hi⟩⟩
  obtain ⟨v, hv, rv⟩ := r.get hd
  refine ⟨⟨xs, v, .inl (S.zh.rd (E.1.rd h)), hv⟩, fun x H3 hy => ?_⟩
  obtain ⟨rfl, f⟩ := hy
  have e : v = x := Option.some.inj (hv.symm.trans (f xs (.inl (S.zh.rd (E.1.rd h)))))
  subst e
  exact ⟨S, Sub.refl _, .inl (Rp.mono E.1 _ _ rv), fun _ => Rp.mono E.1 _ _ rv⟩
theorem it_reg {K : PySem.W.Frag} {a : Addr} {n : Nat} {ds : List D} (h : L[n]? = some (some (a, []))) (sz : ds.length ≤ sizeLine) : ItOk (Itl K a) L Z ds (fun η => η[n]? = some (some (.lst ds))) true [n] := by
  have look : ∀ (G' : Gh) L2 Z2 η2 H2, SI G' L2 Z2 η2 H2 → Keep [n] L Z L2 Z2 → η2[n]? = some (some (.lst ds)) → ∃ xs, H2 a = some (.lst xs) ∧ RpAll Z2 xs ds := fun G' L2 Z2 η2 H2 S E ok => by
    obtain ⟨ks, h2⟩ := E.2 n (by first | exact List.mem_cons_self | exact List.mem_singleton.mpr rfl) a [] h
    obtain ⟨b, xs, e, _, h4, h5⟩ := S.list ok ⟨a, ks, h2, rfl⟩
    cases e
    exact ⟨xs, h4, h5⟩
  refine ⟨sz, fun G' L2 Z2 η2 H2 S E ok i d hd => ?_, fun G' L2 Z2 η2 H2 S E ok i hi => ?_⟩
  · obtain ⟨xs, h1, r⟩ := look G' L2 Z2 η2 H2 S E ok
    obtain ⟨v, hv, rv⟩ := r.get hd
    refine ⟨⟨xs, v, .of h1, hv⟩, fun x H3 hy => ?_⟩
    obtain ⟨rfl, f⟩ := hy
    have e : v = x := Option.some.inj (hv.symm.trans (f xs (.of h1)))
    subst e
    exact ⟨S, Sub.refl _, .inl rv, fun _ => rv⟩
  · obtain ⟨xs, h1, r⟩ := look G' L2 Z2 η2 H2 S E ok
    exact ⟨xs, .of h1, by rw [r.length]; exact hi⟩
theorem it_tup {K : PySem.W.Frag} {a : Addr} {xs : List V} {ds : List D} (h : Rd Z a (.tup xs)) (r : RpAll Z xs ds) (sz : ds.length ≤ sizeLine) : ItOk (Itt K a) L Z ds (fun _ => True) true [] := by
  refine ⟨sz, fun G' L2 Z2 η2 H2 S E _ i d hd => ?_, fun G' L2 Z2 η2 H2 S E _ i hi => ⟨xs, .inl (S.zh.rd (E.1.rd h)), by rw [r.length]; exact hi⟩⟩
  obtain ⟨v, hv, rv⟩ := r.get hd
  refine ⟨⟨xs, v, .inl (S.zh.rd (E.1.rd h)), hv⟩, fun x H3 hy => ?_⟩
  obtain ⟨rfl, f⟩ := hy
  have e : v = x := Option.some.inj (hv.symm.trans (f xs (.inl (S.zh.rd (E.1.rd h)))))
  subst e
  exact ⟨S, Sub.refl _, .inl (Rp.mono E.1 _ _ rv), fun _ => Rp.mono E.1 _ _ rv⟩
theorem it_str {s : Str} (sz : s.length ≤ sizeLine) : ItOk (Its s) L Z (chars s) (fun _ => True) true [] := by
  have hl : (chars s).length = s.cps.size := by unfold chars; rw [List.length_map, Array.length_toList]
  refine ⟨by rw [hl]; exact sz, fun G' L2 Z2 η2 H2 S E _ i d hd => ?_, fun G' L2 Z2 η2 H2 S E _ i hi => by rw [hl] at hi; exact hi⟩
  have hlt : i < s.cps.size := by rw [← hl]; exact (List.getElem?_eq_some_iff.mp hd).1
  refine ⟨hlt, fun x H3 hy => ?_⟩
  obtain ⟨rfl, c, hc, rfl⟩ := hy
  have e : d = .str ⟨#[c]⟩ := by
    unfold chars at hd
    rw [List.getElem?_map, Array.getElem?_toList, hc] at hd
    exact (Option.some.inj hd).symm
  subst e
  exact ⟨S, Sub.refl _, .inl (.str _), fun _ => .str _⟩
theorem it_rng {lo : Int} {n : Nat} (sz : n ≤ sizeLine) : ItOk (Itr lo n) L Z (rangeD lo n) (fun _ => True) true [] := by
  have hl : (rangeD lo n).length = n := by unfold rangeD; rw [List.length_map, List.length_range]
  refine ⟨by rw [hl]; exact sz, fun G' L2 Z2 η2 H2 S E _ i d hd => ?_, fun G' L2 Z2 η2 H2 S E _ i hi => by rw [hl] at hi; exact hi⟩
  have hlt : i < n := by rw [← hl]; exact (List.getElem?_eq_some_iff.mp hd).1
  refine ⟨hlt, fun x H3 hy => ?_⟩
  obtain ⟨rfl, rfl⟩ := hy
  have e : d = .int (lo + (i : Nat)) := by
    unfold rangeD at hd
    rw [List.getElem?_map, List.getElem?_range hlt] at hd
    exact (Option.some.inj hd).symm
  subst e
  exact ⟨S, Sub.refl _, .inl (.int _), fun _ => .int _⟩
/-- two lists (tuples) at once: each turn makes a new pair -/
theorem pair_it {J : It} {G' : Gh} {L2 : Loc} {Z2 : Hp} {η2 : Reg} {H2 H3 : Hp} {x y : V} {dx dy : D} {T : Addr} (S : SI G' L2 Z2 η2 H2) (hT : H2 T = none) (rx : Rp Z2 x dx) (ry : Rp Z2 y dy) :
    SI G' L2 Z2 η2 (upd H2 T (.tup [x, y])) ∧ Sub H2 (upd H2 T (.tup [x, y])) ∧ Iv Z2 (upd H2 T (.tup [x, y])) (.ref T) (.tuple [dx, dy]) := by
  obtain ⟨a, b, c⟩ := S.fresh hT
  exact ⟨S.other a b c, Sub.upd hT, .inr ⟨T, _, _, rfl, rfl, .inl upd_same, .cons rx (.cons ry .nil)⟩⟩
theorem zip_get {xs ys : List D} {i : Nat} {d : D} (h : (List.zipWith (fun x y => PyData.tuple [x, y]) xs ys)[i]? = some d) : ∃ x y, xs[i]? = some x ∧ ys[i]? = some y ∧ d = .tuple [x, y] := by
  rw [List.getElem?_zipWith] at h
  cases e1 : xs[i]? with
  | none => rw [e1] at h; cases h
  | some x =>
    cases e2 : ys[i]? with
    | none => rw [e1, e2] at h; cases h
    | some y => rw [e1, e2] at h; exact ⟨x, y, rfl, rfl, (Option.some.inj h).symm⟩
theorem reg_app (v w : Vl) : regsOf [v, w] = regsOf [v] ++ regsOf [w] := by
  cases v <;> rfl
theorem reg_l {v w : Vl} {n : Nat} (h : n ∈ regsOf [v]) : n ∈ regsOf [v, w] := by rw [reg_app]; exact List.mem_append_left _ h
theorem reg_r {v w : Vl} {n : Nat} (h : n ∈ regsOf [w]) : n ∈ regsOf [v, w] := by rw [reg_app]; exact List.mem_append_right _ h
/-- how a list (register or frozen) is read later -/
def Later (gs : List Nat) (L : Loc) (Z : Hp) (a : Addr) (ds : List D) (ok : Reg → Prop) : Prop := ∀ (G' : Gh) L2 Z2 η2 H2, SI G' L2 Z2 η2 H2 → Keep gs L Z L2 Z2 → ok η2 → ∃ xs, Rd H2 a (.lst xs) ∧ RpAll Z2 xs ds
theorem Later.sub {gs hs : List Nat} {a : Addr} {ds : List D} {ok : Reg → Prop} (l : Later hs L Z a ds ok) (h : ∀ n ∈ hs, n ∈ gs) : Later gs L Z a ds ok := fun G' L2 Z2 η2 H2 S E o => l G' L2 Z2 η2 H2 S (E.sub h) o
theorem it_zip {gs : List Nat} {K : PySem.W.Frag} {a b : Addr} {xs ys : List D} {p q : Reg → Prop} (ha : Later gs L Z a xs p) (hb : Later gs L Z b ys q) (sz : xs.length ≤ sizeLine) :
    ItOk (Itz K a b) L Z (List.zipWith (fun x y => PyData.tuple [x, y]) xs ys) (fun η => p η ∧ q η) false gs := by
  refine ⟨by rw [List.length_zipWith]; omega, fun G' L2 Z2 η2 H2 S E ok i d hd => ?_, fun G' L2 Z2 η2 H2 S E ok i hi => ?_⟩
  · obtain ⟨us, h1, r1⟩ := ha G' L2 Z2 η2 H2 S E ok.1
    obtain ⟨ws, h2, r2⟩ := hb G' L2 Z2 η2 H2 S E ok.2
    obtain ⟨dx, dy, e1, e2, rfl⟩ := zip_get hd
    obtain ⟨u, hu, ru⟩ := r1.get e1
    obtain ⟨w, hw, rw'⟩ := r2.get e2
    refine ⟨⟨us, ws, u, w, .inl h1, .inl h2, hu, hw⟩, fun x H3 hy => ?_⟩
    obtain ⟨T, x', y', rfl, hT, rfl, f1, f2⟩ := hy
    have ex : u = x' := Option.some.inj (hu.symm.trans (f1 us (.inl h1)))
    have ey : w = y' := Option.some.inj (hw.symm.trans (f2 ws (.inl h2)))
    subst ex
    subst ey
    obtain ⟨a1, a2, a3⟩ := pair_it (J := Itz K a b) (H3 := H2) S hT ru rw'
    exact ⟨a1, a2, a3, fun z => nomatch z⟩
  · obtain ⟨us, h1, r1⟩ := ha G' L2 Z2 η2 H2 S E ok.1
    obtain ⟨ws, h2, r2⟩ := hb G' L2 Z2 η2 H2 S E ok.2
    refine ⟨us, ws, .inl h1, .inl h2, ?_⟩
    rw [r1.length, r2.length]
    rw [List.length_zipWith] at hi
    omega
theorem it_zipT {K : PySem.W.Frag} {a b : Addr} {us ws : List V} {xs ys : List D} (h1 : Rd Z a (.tup us)) (r1 : RpAll Z us xs) (h2 : Rd Z b (.tup ws)) (r2 : RpAll Z ws ys) (sz : xs.length ≤ sizeLine) :
    ItOk (RZ.ItzT K a b) L Z (List.zipWith (fun x y => PyData.tuple [x, y]) xs ys) (fun _ => True) false [] := by
  refine ⟨by rw [List.length_zipWith]; omega, fun G' L2 Z2 η2 H2 S E ok i d hd => ?_, fun G' L2 Z2 η2 H2 S E ok i hi => ?_⟩
  · have h1' := S.zh.rd (E.1.rd h1)
    have h2' := S.zh.rd (E.1.rd h2)
    obtain ⟨dx, dy, e1, e2, rfl⟩ := zip_get hd
    obtain ⟨u, hu, ru⟩ := r1.get e1
    obtain ⟨w, hw, rw'⟩ := r2.get e2
    refine ⟨⟨us, ws, u, w, .inl h1', .inl h2', hu, hw⟩, fun x H3 hy => ?_⟩
    obtain ⟨T, x', y', rfl, hT, rfl, f1, f2⟩ := hy
    have ex : u = x' := Option.some.inj (hu.symm.trans (f1 us (.inl h1')))
    have ey : w = y' := Option.some.inj (hw.symm.trans (f2 ws (.inl h2')))
    subst ex
    subst ey
    obtain ⟨a1, a2, a3⟩ := pair_it (J := RZ.ItzT K a b) (H3 := H2) S hT (Rp.mono E.1 _ _ ru) (Rp.mono E.1 _ _ rw')
    exact ⟨a1, a2, a3, fun z => nomatch z⟩
  · refine ⟨us, ws, .inl (S.zh.rd (E.1.rd h1)), .inl (S.zh.rd (E.1.rd h2)), ?_⟩
    rw [r1.length, r2.length]
    rw [List.length_zipWith] at hi
    omega
theorem it_enum {gs : List Nat} {K : PySem.W.Frag} {a : Addr} {xs : List D} {p : Reg → Prop} (ha : Later gs L Z a xs p) (sz : xs.length ≤ sizeLine) : ItOk (Ite K a) L Z (xs.zipIdx.map fun p => PyData.tuple [.int p.2, p.1]) p false gs := by
  refine ⟨by rw [List.length_map, List.length_zipIdx]; exact sz, fun G' L2 Z2 η2 H2 S E ok i d hd => ?_, fun G' L2 Z2 η2 H2 S E ok i hi => ?_⟩
  · obtain ⟨us, h1, r1⟩ := ha G' L2 Z2 η2 H2 S E ok
    rw [List.getElem?_map, List.getElem?_zipIdx] at hd
    cases e : xs[i]? with
    | none => rw [e] at hd; cases hd
    | some dx =>
      rw [e] at hd
      have ed : d = .tuple [.int (i : Nat), dx] := by
        have := Option.some.inj hd
        rw [← this]
        simp
      subst ed
      obtain ⟨u, hu, ru⟩ := r1.get e
      refine ⟨⟨us, u, .inl h1, hu⟩, fun x H3 hy => ?_⟩
      obtain ⟨T, x', rfl, hT, rfl, f1⟩ := hy
      have ex : u = x' := Option.some.inj (hu.symm.trans (f1 us (.inl h1)))
      subst ex
      obtain ⟨a1, a2, a3⟩ := pair_it (J := Ite K a) (H3 := H2) (x := .int (i : Nat)) (dx := .int (i : Nat)) S hT (.int _) ru
      exact ⟨a1, a2, a3, fun z => nomatch z⟩
  · obtain ⟨us, h1, r1⟩ := ha G' L2 Z2 η2 H2 S E ok
    refine ⟨us, .inl h1, ?_⟩
    rw [r1.length]
    rw [List.length_map, List.length_zipIdx] at hi
    exact hi
end

/-! ### the rules -/
section
variable {X : Cx} {G : Gh} {L : Loc} {Z : Hp} {η : Reg} {H : Hp} {tg e e2 : Expr} {te tb : LTE} {p pos : Pos}
def iSeq (K : PySem.W.Frag) (te : TE) : TI := fun σ H R => te σ H fun x H1 => (∃ a xs, x = .ref a ∧ Rd H1 a (.lst xs) ∧ R (Itl K a) H1) ∨ (∃ a xs, x = .ref a ∧ Rd H1 a (.tup xs) ∧ R (Itt K a) H1) ∨ ∃ s, x = .str s ∧ R (Its s) H1
theorem pi_seq {t : TE} (he : PE X e t) : PI X tg e (iSeq X.K t) := by
  refine ⟨fun pins s σ H R I h => thn (he.run pins s σ H _ I h) ?_⟩
  rintro v s1 ⟨x, H1, I1, r1, ⟨a, xs, rfl, hq, q⟩ | ⟨a, xs, rfl, hq, q⟩ | ⟨z, rfl, q⟩⟩
  · cases r1
    obtain ⟨_, vs, n, _, e⟩ := rd_lst I1 hq
    exact wpAny_pyIter_list ⟨_, e, rfl, _, rfl⟩ (pi_one (tk := s1.toks) I1 _ (turn_list a _) ⟨_, Heap.get?_push_size _ rfl, rfl, rfl⟩ q)
  · cases r1
    obtain ⟨_, vs, _, pt⟩ := rd_tup I1 hq
    exact wpAny_pyIter_tuple (show s1.heap.IsTuple a vs.toArray from pt) (pi_one (tk := s1.toks) I1 _ (turn_tuple a _) ⟨_, Heap.get?_push_size _ rfl, rfl, rfl⟩ q)
  · obtain ⟨t, rfl⟩ := r1
    cases ha : z.cps.all (· < 128)
    · exact wpAny_pyIter_wide ha (pi_one (tk := s1.toks) I1 _ (turn_str _ z t "str_iterator" (.inr rfl)) ⟨_, Heap.get?_push_size _ rfl, rfl, rfl⟩ q)
    · exact wpAny_pyIter_ascii ha (pi_one (tk := s1.toks) I1 _ (turn_str _ z t "str_ascii_iterator" (.inl rfl)) ⟨_, Heap.get?_push_size _ rfl, rfl, rfl⟩ q)
theorem later_of {x : V} {v : Vl} {ds : List D} (S : SI G L Z η H) (r : RepV G L Z H x v) (h : v.view η = some (.list ds)) : ∃ a, x = .ref a ∧ Later (regsOf [v]) L Z a ds (stab v ds) ∧ stab v ds η := by
  cases v with
  | dat d =>
    cases h
    cases r with
    | lst h1 h2 =>
      exact ⟨_, rfl, fun G' L2 Z2 η2 H2 S E _ => ⟨_, S.zh.rd (E.1.rd h1), RpAll.mono E.1 _ _ h2⟩, trivial⟩
  | ptr n =>
    have hn : η[n]? = some (some (.lst ds)) := by
      simp only [Vl.view] at h
      split at h
      · rename_i es e2
        cases h
        exact e2
      · cases h
    obtain ⟨a, xs, rfl, h1, h2, h3⟩ := S.list hn r
    refine ⟨a, rfl, fun G' L2 Z2 η2 H2 S E ok => ?_, hn⟩
    obtain ⟨ks, h4⟩ := E.2 n List.mem_cons_self a [] h1
    obtain ⟨b, xs, e, _, h5, h6⟩ := S.list ok ⟨a, ks, h4, rfl⟩
    cases e
    exact ⟨xs, .inl h5, h6⟩
  | fr o => cases h
/-- what the heap holds is not too large -/
def sizes (H : Hp) : Prop := (∀ a xs, Rd H a (.lst xs) → xs.length ≤ sizeLine) ∧ ∀ a xs, Rd H a (.tup xs) → xs.length ≤ sizeLine
theorem _root_.L2.PI.sized {wi : TI} (h : PI X tg e wi) : PI X tg e fun σ H R => wi σ H fun J H' => sizes H' → R J H' := by
  refine ⟨fun pins s σ H R I q => thn (h.run pins s σ H _ I q) fun v s1 h1 => thn h1 ?_⟩
  rintro u s2 ⟨it, fp, tn, J, H', e1, I', T, t0, hf, hR⟩
  exact ⟨it, fp, tn, J, H', e1, I', T, t0, hf, hR ⟨fun a xs h => (rd_lst I' h).1, fun a xs h => (rd_tup I' h).1⟩⟩
theorem _root_.L2.PI.weak {t t' : TI} (h : PI X tg e t) (w : ∀ σ H Q, t' σ H Q → t σ H Q) : PI X tg e t' := ⟨fun pins s σ H Q I q => h.run pins s σ H Q I (w σ H Q q)⟩
def seqW (te : LTE) : LTI := fun ρ η R => te ρ η fun v η1 => onView v.fz η1 fun
    | .list ds => R ds (stab v.fz ds) (regsOf [v.fz]) η1
    | .tuple ds => R ds (fun _ => True) [] η1
    | .str s => s.length ≤ sizeLine ∧ R (chars s) (fun _ => True) [] η1
    | _ => False
theorem li_seq (he : LE X G e te) : PI X tg e (liftI G true (seqW te)) := by
  refine (pi_seq he).sized.weak ?_
  rintro σ H R ⟨ρ, L, Z, η, Rp', S, s, t, k⟩
  refine step (P := fun v η1 => onView v η1 fun
    | .list ds => Rp' ds (stab v ds) (regsOf [v]) η1
    | .tuple ds => Rp' ds (fun _ => True) [] η1
    | .str s => s.length ≤ sizeLine ∧ Rp' (chars s) (fun _ => True) [] η1
    | _ => False) S s t fun x v L1 Z1 η1 H1 S1 s1 E1 r1 q => ?_
  obtain ⟨d, ed, q⟩ := onView_some q
  have w := r1.view S1 ed
  cases d <;> first | exact False.elim q | skip
  · cases w.str
    exact .inr (.inr ⟨_, rfl, fun _ => k _ _ _ _ L1 Z1 η1 H1 S1 E1 (it_str q.1) trivial q.2⟩)
  · rename_i ds
    obtain ⟨a, xs, rfl, h1, h2⟩ := w
    refine .inl ⟨a, xs, rfl, h1, fun sz => ?_⟩
    have hz : ds.length ≤ sizeLine := by rw [← h2.length]; exact sz.1 a xs h1
    cases v with
    | dat d =>
      cases ed
      cases r1 with
      | lst h1 h2 => exact k _ _ _ _ L1 Z1 η1 H1 S1 E1 (it_list h1 h2 hz) trivial q
    | ptr n =>
      have hn : η1[n]? = some (some (.lst ds)) := by
        simp only [Vl.view] at ed
        split at ed
        · rename_i es e2
          cases ed
          exact e2
        · cases ed
      obtain ⟨b, ys, e3, h3, _, _⟩ := S1.list hn r1
      cases e3
      exact k _ _ _ _ L1 Z1 η1 H1 S1 E1 (it_reg h3 hz) hn q
    | fr o => cases ed
  · obtain ⟨a, o, xs, rfl, h1, hd, h2⟩ := w.tup
    exact .inr (.inl ⟨a, xs, rfl, .inr ⟨_, S1.zh _ _ h1⟩, fun sz => k _ _ _ _ L1 Z1 η1 H1 S1 E1 (it_tup (.inr ⟨_, h1⟩) h2 (by rw [← h2.length]; exact sz.2 a xs (.inr ⟨_, S1.zh _ _ h1⟩))) trivial q⟩)
def rng1S (ta : LTE) : LTI := fun ρ η R => ta ρ η fun v η1 => match v with
    | .dat (.int j) => j ≤ sizeLine ∧ -(2 ^ 62) ≤ j ∧ R (rangeD 0 j.toNat) (fun _ => True) [] η1
    | _ => False
theorem stepI' {ta : LTE} {σ : SV} {ρ : Sl} {R : V → Hp → Prop} {P : Int → Reg → Prop} (S : SI G L Z η H) (s : SS L Z σ ρ) (t : ta ρ η fun v η1 => match v with
    | .dat (.int i) => P i η1
    | _ => False)
    (k : ∀ i L1 Z1 η1 H1, SI G L1 Z1 η1 H1 → SS L1 Z1 σ ρ → Ext L Z L1 Z1 → P i η1 → R (.int i) H1) : liftE G ta σ H R := by
  refine step' S s t fun x v L1 Z1 η1 H1 S1 s1 E1 r1 q => ?_
  cases v with
  | dat d =>
    cases d <;> first | exact False.elim q | skip
    cases Rp.int_inv r1
    exact k _ L1 Z1 η1 H1 S1 s1 E1 q
  | ptr n => exact False.elim q
  | fr o => exact False.elim q
theorem line_int : ((sizeLine : Nat) : Int) < 2 ^ 62 := by decide
theorem li_rng1 (hg : Gl X "range") (hm : X.mg "range" = none) (he : LE X G e te) (hs : starEach [e] X.env = (false, eval e X.env) :: starEach [] X.env) :
    PI X tg (.Call (.Name "range" p) [e] [] pos) (liftI G true (rng1S te)) := by
  refine (pi_range1 hg hm (pa_cons he pa_nil hs) hs).weak ?_
  rintro σ H R ⟨ρ, L, Z, η, Rp', S, s, t, k⟩
  refine stepI' (P := fun j η1 => j ≤ sizeLine ∧ -(2 ^ 62) ≤ j ∧ Rp' (rangeD 0 j.toNat) (fun _ => True) [] η1) S s t fun j L1 Z1 η1 H1 S1 s1 E1 q => ?_
  obtain ⟨h1, h2, q⟩ := q
  have hl := line_int
  exact ⟨j, rfl, h2, by omega, k _ _ _ _ L1 Z1 η1 H1 S1 E1 (it_rng (by omega)) trivial q⟩
def rng2S (ta tb : LTE) : LTI := fun ρ η R => ta ρ η fun v η1 => tb ρ η1 fun w η2 => match v, w with
    | .dat (.int i), .dat (.int j) => (j - i ≤ sizeLine ∧ (-(2 ^ 62) ≤ i ∧ i < 2 ^ 62 ∧ -(2 ^ 62) ≤ j ∧ j < 2 ^ 62)) ∧ R (rangeD i (j - i).toNat) (fun _ => True) [] η2
    | _, _ => False
theorem li_rng2 (hg : Gl X "range") (hm : X.mg "range" = none) (he : LE X G e te) (hb : LE X G e2 tb) (hs : starEach [e, e2] X.env = (false, eval e X.env) :: starEach [e2] X.env) (hs2 : starEach [e2] X.env = (false, eval e2 X.env) :: starEach [] X.env) :
    PI X tg (.Call (.Name "range" p) [e, e2] [] pos) (liftI G true (rng2S te tb)) := by
  refine (pi_range2 hg hm (pa_cons he (pa_cons hb pa_nil hs2) hs) (by rw [hs, hs2]; rfl) hs2).weak ?_
  rintro σ H R ⟨ρ, L, Z, η, Rp', S, s, t, k⟩
  refine step' S s t fun x v L1 Z1 η1 H1 S1 s1 E1 r1 q => ?_
  refine step' S1 s1 q fun y w L2 Z2 η2 H2 S2 s2 E2 r2 q => ?_
  rcases v with d | n | o <;> rcases w with d' | n' | o' <;> first | exact False.elim q | skip
  · cases d <;> cases d' <;> first | exact False.elim q | skip
    cases Rp.int_inv r1
    cases Rp.int_inv r2
    obtain ⟨⟨h1, h2⟩, q⟩ := q
    exact ⟨_, _, rfl, h2, k _ _ _ _ L2 Z2 η2 H2 S2 (E1.trans E2) (it_rng (by omega)) trivial q⟩
  · cases d <;> exact False.elim q
  · cases d <;> exact False.elim q
def zipW (ta tb : LTE) : LTI := fun ρ η R => ta ρ η fun v η1 => tb ρ η1 fun w η2 => onView v.fz η2 fun
    | .list xs => onView w.fz η2 fun
      | .list ys => R (List.zipWith (fun x y => PyData.tuple [x, y]) xs ys) (fun η => stab v.fz xs η ∧ stab w.fz ys η) (regsOf [v.fz, w.fz]) η2
      | _ => False
    | .tuple xs => onView w.fz η2 fun
      | .tuple ys => R (List.zipWith (fun x y => PyData.tuple [x, y]) xs ys) (fun _ => True) [] η2
      | _ => False
    | _ => False
theorem li_zip {elts : List Expr} {kk : Nat} {tpos : Pos} (hg : Gl X "zip") (hm : X.mg "zip" = none) (he : LE X G e te) (hb : LE X G e2 tb) (hs : starEach [e, e2] X.env = (false, eval e X.env) :: starEach [e2] X.env) (hs2 : starEach [e2] X.env = (false, eval e2 X.env) :: starEach [] X.env) :
    PI X (.Tuple elts kk tpos) (.Call (.Name "zip" p) [e, e2] [] pos) (liftI G false (zipW te tb)) := by
  refine (RZ.pi_zipA hg hm (pa_cons he (pa_cons hb pa_nil hs2) hs) hs (by rw [hs2]; rfl)).sized.weak ?_
  rintro σ H R ⟨ρ, L, Z, η, Rp', S, s, t, k⟩
  refine step (P := fun v η1 => tb ρ η1 fun w η2 => onView v η2 fun
    | .list xs => onView w.fz η2 fun
      | .list ys => Rp' (List.zipWith (fun x y => PyData.tuple [x, y]) xs ys) (fun η => stab v xs η ∧ stab w.fz ys η) (regsOf [v, w.fz]) η2
      | _ => False
    | .tuple xs => onView w.fz η2 fun
      | .tuple ys => Rp' (List.zipWith (fun x y => PyData.tuple [x, y]) xs ys) (fun _ => True) [] η2
      | _ => False
    | _ => False) S s t fun x v L1 Z1 η1 H1 S1 s1 E1 r1 q => ?_
  refine step (P := fun w η2 => onView v η2 fun
    | .list xs => onView w η2 fun
      | .list ys => Rp' (List.zipWith (fun x y => PyData.tuple [x, y]) xs ys) (fun η => stab v xs η ∧ stab w ys η) (regsOf [v, w]) η2
      | _ => False
    | .tuple xs => onView w η2 fun
      | .tuple ys => Rp' (List.zipWith (fun x y => PyData.tuple [x, y]) xs ys) (fun _ => True) [] η2
      | _ => False
    | _ => False) S1 s1 q fun y w L2 Z2 η2 H2 S2 s2 E2 r2 q => ?_
  obtain ⟨d, ed, q⟩ := onView_some q
  have r1' := r1.ext (H' := H2) E2 (view_nofr ed)
  cases d <;> first | exact False.elim q | skip
  · obtain ⟨d, ed2, q⟩ := onView_some q
    cases d <;> first | exact False.elim q | skip
    obtain ⟨a, rfl, la, sa⟩ := later_of S2 r1' ed
    obtain ⟨b, rfl, lb, sb⟩ := later_of S2 r2 ed2
    obtain ⟨us, h1, q1⟩ := la G L2 Z2 η2 H2 S2 (Ext.refl.keep _) sa
    obtain ⟨ws, h2, q2⟩ := lb G L2 Z2 η2 H2 S2 (Ext.refl.keep _) sb
    exact ⟨a, b, us, ws, rfl, .inl ⟨.inl h1, .inl h2, fun sz => k _ _ _ _ L2 Z2 η2 H2 S2 (E1.trans E2) (it_zip (la.sub fun n h => reg_l h) (lb.sub fun n h => reg_r h) (by rw [← q1.length]; exact sz.1 _ _ h1)) ⟨sa, sb⟩ q⟩⟩
  · obtain ⟨d, ed2, q⟩ := onView_some q
    cases d <;> first | exact False.elim q | skip
    obtain ⟨a, o, us, rfl, h1, _, q1⟩ := (r1'.view S2 ed).tup
    obtain ⟨b, o', ws, rfl, h2, _, q2⟩ := (r2.view S2 ed2).tup
    exact ⟨a, b, us, ws, rfl, .inr ⟨.inl (.inr ⟨_, S2.zh _ _ h1⟩), .inl (.inr ⟨_, S2.zh _ _ h2⟩), fun sz => k _ _ _ _ L2 Z2 η2 H2 S2 (E1.trans E2) (it_zipT (.inr ⟨_, h1⟩) q1 (.inr ⟨_, h2⟩) q2 (by rw [← q1.length]; exact sz.2 _ _ (.inr ⟨_, S2.zh _ _ h1⟩))) trivial q⟩⟩
def enumW (ta : LTE) : LTI := fun ρ η R => ta ρ η fun v η1 => onView v.fz η1 fun
    | .list xs => R (xs.zipIdx.map fun p => PyData.tuple [.int p.2, p.1]) (stab v.fz xs) (regsOf [v.fz]) η1
    | _ => False
theorem li_enum {elts : List Expr} {kk : Nat} {tpos : Pos} (hg : Gl X "enumerate") (hm : X.mg "enumerate" = none) (he : LE X G e te) (hs : starEach [e] X.env = (false, eval e X.env) :: starEach [] X.env) :
    PI X (.Tuple elts kk tpos) (.Call (.Name "enumerate" p) [e] [] pos) (liftI G false (enumW te)) := by
  refine (pi_enum hg hm (pa_cons he pa_nil hs) hs).sized.weak ?_
  rintro σ H R ⟨ρ, L, Z, η, Rp', S, s, t, k⟩
  refine step (P := fun v η1 => onView v η1 fun
    | .list xs => Rp' (xs.zipIdx.map fun p => PyData.tuple [.int p.2, p.1]) (stab v xs) (regsOf [v]) η1
    | _ => False) S s t fun x v L1 Z1 η1 H1 S1 s1 E1 r1 q => ?_
  obtain ⟨d, ed, q⟩ := onView_some q
  cases d <;> first | exact False.elim q | skip
  obtain ⟨a, rfl, la, sa⟩ := later_of S1 r1 ed
  obtain ⟨us, h1, q1⟩ := la G L1 Z1 η1 H1 S1 (Ext.refl.keep _) sa
  exact ⟨a, us, rfl, .inl h1, fun sz => k _ _ _ _ L1 Z1 η1 H1 S1 E1 (it_enum la (by rw [← q1.length]; exact sz.1 _ _ h1)) sa q⟩
end
end Pl

namespace Pl
open PySem PySem.Spec PyProof.Rows L2

/-! ## targets -/
def gMany : List Nat → TGs
  | [] => gNil
  | i :: is => gCons (gName i) (gMany is)
def tgR (K : PySem.W.Frag) : Tg → TG
  | .one i => gName i
  | .many is => gTup K is.length (gMany is)
def Tg.ixs : Tg → List Nat
  | .one i => [i]
  | .many is => is
def Tg.isMany : Tg → Bool
  | .one _ => false
  | .many _ => true
section
variable {G : Gh} {L : Loc} {Z : Hp} {η : Reg} {H : Hp} {σ : SV} {ρ : Sl}
theorem wipe_get (σ : SV) (j : Nat) : ∀ vs : List Nat, (wipe σ vs)[j]? = if j ∈ vs then σ[j]?.map (fun _ => none) else σ[j]?
  | [] => by simp [wipe]
  | v :: vs => by
    unfold wipe
    rw [List.getElem?_set]
    by_cases h : v = j
    · subst h
      rw [if_pos rfl, if_pos List.mem_cons_self]
      rw [wipe_length]
      by_cases q : v < σ.length
      · rw [if_pos q, List.getElem?_eq_getElem q]; rfl
      · rw [if_neg q, List.getElem?_eq_none (by omega)]; rfl
    · rw [if_neg h, wipe_get σ j vs]
      by_cases q : j ∈ vs
      · rw [if_pos q, if_pos (List.mem_cons_of_mem _ q)]
      · rw [if_neg q, if_neg (fun z => by rcases List.mem_cons.mp z with e | e; exact h e.symm; exact q e)]
theorem wipe_wipe (σ : SV) (vs : List Nat) : wipe (wipe σ vs) vs = wipe σ vs := by
  apply List.ext_getElem?
  intro j
  rw [wipe_get, wipe_get]
  by_cases q : j ∈ vs
  · rw [if_pos q, if_pos q]; cases σ[j]? <;> rfl
  · rw [if_neg q, if_neg q]
theorem wipe_set (σ : SV) {vs : List Nat} {i : Nat} (x : Option V) (h : i ∈ vs) : wipe (σ.set i x) vs = wipe σ vs := by
  apply List.ext_getElem?
  intro j
  rw [wipe_get, wipe_get]
  by_cases q : j ∈ vs
  · rw [if_pos q, if_pos q, List.getElem?_set]
    by_cases e : i = j
    · subst e
      rw [if_pos rfl]
      by_cases z : i < σ.length
      · rw [if_pos z, List.getElem?_eq_getElem z]; rfl
      · rw [if_neg z, List.getElem?_eq_none (by omega)]
    · rw [if_neg e]
  · rw [if_neg q, if_neg q, List.getElem?_set_ne (fun e => q (by rw [← e]; exact h))]
theorem SS.wipe (s : SS L Z σ ρ) : ∀ vs : List Nat, SS L Z (wipe σ vs) (wipeL ρ vs)
  | [] => s
  | v :: vs => SS.set (v := none) (x := none) trivial v (SS.wipe s vs)
theorem many_low {own : List Nat} : ∀ (is : List Nat) {xs : List V} {ds : List D} {σ : SV} {ρ : Sl} {R : SV → Hp → Prop}, SS L Z σ ρ → RpAll Z xs ds → is.length = ds.length →
    (∀ σ', SS L Z σ' (setMany ρ is ds) → ((∀ i ∈ is, i ∈ own) → L2.wipe σ' own = L2.wipe σ own) → R σ' H) → gMany is xs σ H R
  | [], xs, ds, σ, ρ, R, s, r, hl, k => by
    cases ds with
    | cons d ds => cases hl
    | nil =>
      cases r
      exact ⟨rfl, k σ s fun _ => rfl⟩
  | i :: is, xs, ds, σ, ρ, R, s, r, hl, k => by
    cases ds with
    | nil => cases hl
    | cons d ds =>
      cases r with
      | cons r1 r2 =>
        refine ⟨_, _, rfl, ?_⟩
        refine many_low (own := own) is (SS.set (x := some _) (v := some (.dat d)) ⟨_, rfl, r1⟩ i s) r2 (by simpa using hl) fun σ' s' h => k σ' s' fun hi => ?_
        rw [h fun j hj => hi j (List.mem_cons_of_mem _ hj), wipe_set σ _ (hi i List.mem_cons_self)]
theorem tg_low {K : PySem.W.Frag} {vs : List Nat} {Q : Sl → Prop} {R : SV → Hp → Prop} {x : V} : ∀ (tg : Tg) {d : D}, SI G L Z η H → SS L Z σ ρ → Iv Z H x d → (tg.isMany = false → Rp Z x d) → wTg tg d ρ Q →
    (∀ σ' ρ', SS L Z σ' ρ' → ((∀ i ∈ tg.ixs, i ∈ vs) → L2.wipe σ' vs = L2.wipe σ vs) → Q ρ' → R σ' H) → tgR K tg x σ H R
  | .one i, d, S, s, iv, pl, h, k => k _ _ (SS.set (x := some x) (v := some (.dat d)) ⟨x, rfl, pl rfl⟩ i s) (fun hi => wipe_set σ _ (hi i List.mem_cons_self)) h
  | .many is, d, S, s, iv, pl, h, k => by
    cases d <;> first | exact False.elim h | skip
    rename_i ds
    obtain ⟨hl, h⟩ := h
    have : ∃ a xs, x = .ref a ∧ Rd H a (.tup xs) ∧ RpAll Z xs ds := by
      rcases iv with r | ⟨T, xs, ds', e1, e2, h1, h2⟩
      · cases r with
        | tup h1 hd h2 => exact ⟨_, _, rfl, .inr ⟨_, S.zh _ _ h1⟩, h2⟩
      · cases e2
        exact ⟨T, xs, e1, h1, h2⟩
    obtain ⟨a, xs, rfl, h1, h2⟩ := this
    exact ⟨a, xs, rfl, .inl h1, by rw [h2.length]; exact hl.symm, many_low is s h2 hl fun σ' s' q => k σ' _ s' q h⟩
theorem SI.guard {D : Addr} {u : HO} (S : SI G L Z η H) (h : H D = some u) (z : Z D = none) (n : D ∉ L.all) : SI { G with F0 := upd G.F0 D u } L Z η H := by
  refine ⟨S.a0, S.z0, S.zh, fun a o e => ?_, fun a o e => ?_, S.nd, S.ln, fun m p e => ?_, S.lv⟩
  · by_cases q : a = D
    · subst q
      have e : upd G.F0 a u a = some o := e
      rw [upd_same] at e; cases e; exact h
    · have e : upd G.F0 D u a = some o := e
      rw [upd_ne q] at e; exact S.fh a o e
  · have q : a ≠ D := fun q => by rw [q, z] at e; cases e
    show upd G.F0 D u a = none
    rw [upd_ne q]; exact S.zn a o e
  · obtain ⟨a, o, b, c⟩ := S.ow m p e
    refine ⟨fun x hx => ⟨(a x hx).1, ?_⟩, o, b, c⟩
    have q : x ≠ D := fun q => n (by rw [← q]; exact mem_all.mpr ⟨m, p, e, hx⟩)
    show upd G.F0 D u x = none
    rw [upd_ne q]; exact (a x hx).2
theorem SI.unguard {D : Addr} {u : HO} (S : SI { G with F0 := upd G.F0 D u } L Z η H) (f : G.F0 D = none) : SI G L Z η H ∧ H D = some u ∧ Z D = none ∧ D ∉ L.all := by
  have sub : ∀ {a : Addr}, upd G.F0 D u a = none → G.F0 a = none := fun {a} e => by
    by_cases q : a = D
    · subst q; rw [upd_same] at e; cases e
    · rw [upd_ne q] at e; exact e
  have hd : H D = some u := S.fh D u (show upd G.F0 D u D = some u from upd_same)
  refine ⟨⟨S.a0, S.z0, S.zh, fun a o e => S.fh a o ?_, fun a o e => sub (S.zn a o e), S.nd, S.ln, fun m p e => ?_, S.lv⟩, hd, ?_, fun q => ?_⟩
  · show upd G.F0 D u a = some o
    rw [upd_ne (ne_of_none e f)]; exact e
  · obtain ⟨a, o, b, c⟩ := S.ow m p e
    exact ⟨fun x hx => ⟨(a x hx).1, sub (a x hx).2⟩, o, b, c⟩
  · cases e : Z D with
    | none => rfl
    | some w =>
      have := S.zn D w e
      have : upd G.F0 D u D = none := this
      rw [upd_same] at this; cases this
  · have := (S.own q).2.1
    have : upd G.F0 D u D = none := this
    rw [upd_same] at this; cases this
end

/-! ## comprehensions -/
section
variable {X : Cx} {G : Gh} {L : Loc} {Z : Hp} {η : Reg} {H : Hp} {σ : SV} {ρ : Sl}
def anyE (t : LTE) : TE := fun σ H Q => ∃ G : Gh, liftE G t σ H Q
def anyT (t : LTT) : TT := fun σ H Q => ∃ G : Gh, liftT G t σ H Q
theorem pe_any {e : Expr} {t : LTE} (h : ∀ G : Gh, LE X G e t) : PE X e (anyE t) := ⟨fun pins s σ H Q I ⟨G, q⟩ => (h G).run pins s σ H Q I q⟩
theorem pt_any {e : Expr} {t : LTT} (h : ∀ G : Gh, LT X G e t) : PT X e (anyT t) := ⟨fun pins s σ H Q I ⟨G, q⟩ => (h G).run pins s σ H Q I q⟩
theorem pts_any0 : PTs X [] (anyT fun _ η Q => Q true η) := by
  refine ⟨fun pins s σ H Q I h => pts_nil.run pins s σ H Q I ?_⟩
  obtain ⟨G, ρ, L, Z, η, Qp, S, s, t, k⟩ := h
  exact k true L Z η H S Ext.refl t
def lcW (src : LTI) (tg : Tg) (own : List Nat) (ct : LTT) (elt : LTE) : LTE := fun ρ η Q => src ρ η fun ds ok _ η1 => wLc tg own ct elt ok ρ ds η1 fun es η2 => Q (.fr (.lst es)) η2
theorem lc_low {K : PySem.W.Frag} {src : LTI} {pl : Bool} {tg : Tg} {own : List Nat} {ct : LTT} {elt : LTE} (hp : pl = true ∨ tg.isMany = true) (hi : ∀ i ∈ tg.ixs, i ∈ own) {σ : SV} {H : Hp} {Q : VK}
    (h : liftE G (lcW src tg own ct elt) σ H Q) : tLc (liftI G pl src) (tgR K tg) (anyT ct) (anyE elt) own σ H Q := by
  obtain ⟨ρ, L, Z, η, Qp, S, s, t, k⟩ := h
  refine ⟨ρ, L, Z, η, _, S, s, t, ?_⟩
  intro J ds ok gs L1 Z1 η1 H1 S1 E1 it ok1 q D hD
  obtain ⟨d1, d2, d3⟩ := S1.fresh hD
  have s1 : SS L1 Z1 σ ρ := s.ext E1
  refine ⟨fun i m H => ∃ η2 L2 Z2 acc ad rest, m = rest.length ∧ ds.drop i = rest ∧ SI G L2 Z2 η2 H ∧ Ext L1 Z1 L2 Z2 ∧ H D = some (.lst acc) ∧ Z2 D = none ∧ D ∉ L2.all ∧ RpAll Z2 acc ad ∧ ad.length ≤ i ∧ ok η2 ∧
    wLc tg own ct elt ok ρ rest η2 fun es η3 => Qp (.fr (.lst (ad ++ es))) η3, ⟨ds.length, η1, L1, Z1, [], [], ds, rfl, rfl, S1.other d1 d2 d3, Ext.refl, upd_same, d2, d1, .nil, Nat.le_refl _, ok1, q⟩, ?_⟩
  rintro i m H ⟨η2, L2, Z2, acc, ad, rest, rfl, hr, S2, E2, hD2, z2, n2, ra, la, ok2, w⟩
  cases rest with
  | nil =>
    have hlen : ds.length ≤ i := List.drop_eq_nil_iff.mp hr
    refine .inl ⟨it.stop G L2 Z2 η2 H S2 (E2.keep gs) ok2 i hlen, ?_⟩
    have w : Qp (.fr (.lst (ad ++ []))) η2 := w
    rw [List.append_nil] at w
    refine k _ (.fr (.lst ad)) L2 Z2 η2 H S2 (E1.trans E2) ⟨D, [], rfl, ⟨rfl, acc, hD2, ra⟩, fun b hb => ?_⟩ w
    rw [List.mem_singleton] at hb
    subst hb
    exact ⟨z2, d3, n2⟩
  | cons d r =>
    have hlt : i < ds.length := by
      by_cases h : i < ds.length
      · exact h
      · rw [List.drop_eq_nil_of_le (by omega)] at hr; cases hr
    have hd : ds[i]? = some d := by
      rw [List.drop_eq_getElem_cons hlt] at hr
      injection hr with h1 h2
      rw [List.getElem?_eq_getElem hlt, h1]
    have hr' : ds.drop (i + 1) = r := by
      rw [List.drop_eq_getElem_cons hlt] at hr
      injection hr
    obtain ⟨hgo, hy⟩ := it.go G L2 Z2 η2 H S2 (E2.keep gs) ok2 i d hd
    refine .inr ⟨hgo, fun H' => ∃ η3 L3 Z3 acc' ad', SI G L3 Z3 η3 H' ∧ Ext L1 Z1 L3 Z3 ∧ H' D = some (.lst acc') ∧ Z3 D = none ∧ D ∉ L3.all ∧ RpAll Z3 acc' ad' ∧ ad'.length ≤ i + 1 ∧ ok η3 ∧
      wLc tg own ct elt ok ρ r η3 fun es η3 => Qp (.fr (.lst (ad' ++ es))) η3, ?_, ?_⟩
    · rintro H' ⟨η3, L3, Z3, acc', ad', h1, h2, h3, h4, h5, h6, h7, h8, h9⟩
      exact ⟨r.length, by rw [List.length_cons]; omega, η3, L3, Z3, acc', ad', r, rfl, hr', h1, h2, h3, h4, h5, h6, h7, h8, h9⟩
    · intro x H3 yl
      obtain ⟨S3, sub, iv, hpl⟩ := hy x H3 yl
      have hD3 := sub _ _ hD2
      have sw : SS L2 Z2 (_root_.L2.wipe σ own) (wipeL ρ own) := (s1.ext E2).wipe own
      refine tg_low (vs := own) tg S3 sw iv (fun z => hpl ?_) w fun σ' ρ' s' hw w => ?_
      · rcases hp with e | e
        · exact e
        · rw [z] at e; cases e
      refine ⟨by rw [hw hi, wipe_wipe], ?_⟩
      have SG := S3.guard hD3 z2 n2
      refine ⟨_, stepT SG s' w fun b L4 Z4 η4 H4 S4 s4 E4 w => ?_⟩
      cases b with
      | false =>
        obtain ⟨S5, hD5, z5, n5⟩ := S4.unguard d3
        obtain ⟨ok4, w⟩ : ok η4 ∧ wLc tg own ct elt ok ρ r η4 fun es η3 => Qp (.fr (.lst (ad ++ es))) η3 := w
        exact ⟨η4, L4, Z4, acc, ad, S5, E2.trans E4, hD5, z5, n5, RpAll.mono E4.1 _ _ ra, by omega, ok4, w⟩
      | true =>
        refine ⟨_, step (P := fun v η2 => v.onD fun e => ok η2 ∧ wLc tg own ct elt ok ρ r η2 fun es η3 => Qp (.fr (.lst (ad ++ (e :: es)))) η3) S4 s4 w fun y v L5 Z5 η5 H5 S5 s5 E5 rv w => ?_⟩
        obtain ⟨e, rfl, ok5, w⟩ := onD_some w
        obtain ⟨S6, hD6, z6, n6⟩ := S5.unguard d3
        have ra' : RpAll Z5 acc ad := RpAll.mono (E4.trans E5).1 _ _ ra
        refine ⟨acc, hD6, ?_, η5, L5, Z5, acc ++ [y], ad ++ [e], S6.other n6 z6 d3, E2.trans (E4.trans E5), upd_same, z6, n6, ra'.append (.cons rv .nil), by rw [List.length_append, List.length_singleton]; omega, ok5, ?_⟩
        · rw [ra'.length]
          have := it.sz
          omega
        · simpa only [List.append_assoc, List.singleton_append] using w
end
end Pl

namespace Pl
open PySem PySem.Spec PyProof.Rows L2

/-! ## statements -/
section
variable {X : Cx} {G : Gh} {L : Loc} {Z : Hp} {η : Reg} {H : Hp} {σ : SV} {ρ : Sl} {pos : Pos}
theorem ls_nil : LSs X G [] (fun P ρ η => P.nx ρ η) := by
  refine pss_nil.weak ?_
  rintro D σ H ⟨ρ, L, Z, η, P, S, s, t, e⟩
  exact e.nx σ H ρ L Z η S s t
theorem ls_cons {st : Stmt} {rest : List Stmt} {t u : LTS} (h1 : LS X G st t) (h2 : LSs X G rest u) : LSs X G (st :: rest) (fun P ρ η => t { P with nx := fun ρ η => u P ρ η } ρ η) := by
  refine (pss_cons h1 h2).weak ?_
  rintro D σ H ⟨ρ, L, Z, η, P, S, s, t, e⟩
  exact ⟨ρ, L, Z, η, _, S, s, t, fun σ H ρ L Z η S s q => ⟨ρ, L, Z, η, P, S, s, q, e⟩, e.rt, e.bk, e.ct⟩
theorem clr_low {n : Nat} {p : Option (Addr × List Addr)} (s : SS L Z σ ρ) : SS (L.set n p) Z σ (clr n ρ) := by
  induction s with
  | nil => exact .nil
  | cons r t ih =>
    refine .cons ?_ ih
    rename_i x v _ _
    cases v with
    | none => trivial
    | some v =>
      cases v with
      | dat d => exact r
      | ptr m =>
        show RepS _ _ _ (if m = n then none else some (.ptr m))
        by_cases h : m = n
        · rw [if_pos h]; trivial
        · rw [if_neg h]
          obtain ⟨a, ks, h1, h2⟩ := r
          exact ⟨a, ks, by rw [List.getElem?_set_ne (fun z => h z.symm)]; exact h1, h2⟩
      | fr o => exact r
theorem ls_asg {st : Stmt} {i : Nat} {r : Option Nat} {te : LTE} {T : TE} (hp : PS X st (tAsg T (gName i))) (hT : ∀ σ H Q, liftE G te σ H Q → T σ H Q) (hr : ∀ n, r = some n → G.A0 n = none) :
    LS X G st (fun P ρ η => te ρ η fun v η1 => asgW i r v ρ η1 P.nx) := by
  refine hp.weak ?_
  rintro D σ H ⟨ρ, L, Z, η, P, S, s, t, e⟩
  refine hT _ _ _ ⟨ρ, L, Z, η, _, S, s, t, fun x v L' Z' η' H' S' E' rv q => ?_⟩
  have s' := s.ext E'
  cases v with
  | dat d => exact e.nx _ _ _ _ _ _ S' (s'.set (x := some x) (v := some (.dat d)) ⟨x, rfl, rv⟩ i) q
  | ptr n =>
    obtain ⟨a, ks, h1, rfl⟩ := rv
    exact e.nx _ _ _ _ _ _ S' (s'.set (x := some (.ref a)) (v := some (.ptr n)) ⟨a, ks, h1, rfl⟩ i) q
  | fr o =>
    cases r with
    | some n =>
      obtain ⟨hn, q⟩ := q
      obtain ⟨a, ks, rfl, ro, hf⟩ := rv
      have hl : n < L'.length := by rw [S'.ln]; exact hn
      refine e.nx _ _ _ _ _ _ (S'.put hl (hr n rfl) ro hf) ?_ q
      exact (clr_low s').set (x := some (.ref a)) (v := some (.ptr n)) ⟨a, ks, by rw [List.getElem?_set_self hl], rfl⟩ i
    | none =>
      obtain ⟨Z2, S2, E2, r2⟩ := settle S' rv
      cases o with
      | lst ds => exact e.nx _ _ _ _ _ _ S2 ((s'.ext E2).set (x := some x) (v := some (.dat (.list ds))) ⟨x, rfl, r2⟩ i) q
      | dK kvs => exact False.elim q
      | dT kvs => exact False.elim q
theorem ls_asgT {st : Stmt} {is : List Nat} {te : LTE} (hp : PS X st (tAsg (liftE G te) (tgR X.K (.many is)))) :
    LS X G st (fun P ρ η => te ρ η fun v η1 => v.fz.onD fun d => wTg (.many is) d ρ fun ρ' => P.nx ρ' η1) := by
  refine hp.weak ?_
  rintro D σ H ⟨ρ, L, Z, η, P, S, s, t, e⟩
  refine step (P := fun v η1 => v.onD fun d => wTg (.many is) d ρ fun ρ' => P.nx ρ' η1) S s t fun x v L1 Z1 η1 H1 S1 s1 E1 rv q => ?_
  obtain ⟨d, rfl, q⟩ := onD_some q
  exact tg_low (vs := []) (.many is) S1 s1 (.inl rv) (fun z => nomatch z) q fun σ' ρ' s' _ q => e.nx _ _ _ _ _ _ S1 s' q
/-- a, b = x, y -/
theorem ls_par {st : Stmt} {i j : Nat} {ta : LTA} (hp : PS X st (tPar i j (liftA G ta))) :
    LS X G st (fun P ρ η => ta ρ η fun vs η1 => vs.length ≤ sizeLine ∧ ∃ ds, vs = ds.map Vl.dat ∧ wTg (.many [i, j]) (.tuple ds) ρ fun ρ' => P.nx ρ' η1) := by
  refine hp.weak ?_
  rintro D σ H ⟨ρ, L, Z, η, P, S, s, t, e⟩
  refine stepA (P := fun vs η1 => vs.length ≤ sizeLine ∧ ∃ ds, vs = ds.map Vl.dat ∧ wTg (.many [i, j]) (.tuple ds) ρ fun ρ' => P.nx ρ' η1) S s t fun xs vs L1 Z1 η1 H1 S1 s1 E1 rv q => ?_
  obtain ⟨_, ds, rfl, hl, q⟩ := q
  have r := rv.datas
  rcases ds with _ | ⟨d1, _ | ⟨d2, _ | ⟨d3, ds⟩⟩⟩
  · cases hl
  · cases hl
  · cases r with
    | cons r1 r =>
      cases r with
      | cons r2 r =>
        cases r
        exact ⟨_, _, rfl, e.nx _ _ _ _ _ _ S1 ((s1.set (x := some _) (v := some (.dat d1)) ⟨_, rfl, r1⟩ i).set (x := some _) (v := some (.dat d2)) ⟨_, rfl, r2⟩ j) q⟩
  · simp at hl
theorem sto_low {n : Nat} {xs : List D} {k : Int} {j : Nat} {v w : V} {d : D} {R : Hp → Prop} (S : SI G L Z η H) (hn : η[n]? = some (some (.lst xs))) (rv : RepV G L Z H v (.ptr n)) (rw' : Rp Z w d) (hj : ixN xs.length k = some j)
    (h : ∀ L' H', SI G L' Z (η.set n (some (.lst (xs.set j d)))) H' → Ext L Z L' Z → R H') : rSetL v (.int k) w H R := by
  obtain ⟨a, ys, rfl, h1, h2, h3⟩ := S.list hn rv
  refine ⟨a, ys, k, j, rfl, rfl, h2, by rw [h3.length]; exact hj, ?_⟩
  exact h _ _ (S.putList h1 (h3.set rw' j)) (Ext.set h1)
theorem ls_sto {a b e : Expr} {ta tb te : LTE} {st : Stmt} (hp : PS X st (tAsg (liftE G te) (gSub (liftE G ta) (liftE G tb) rSetL))) :
    LS X G st (fun P ρ η => te ρ η fun w η1 => ta ρ η1 fun v η2 => tb ρ η2 fun i η3 => stoW v i w.fz η3 fun η4 => P.nx ρ η4) := by
  refine hp.weak ?_
  rintro D σ H ⟨ρ, L, Z, η, P, S, s, t, e⟩
  refine step (P := fun w η1 => ta ρ η1 fun v η2 => tb ρ η2 fun i η3 => stoW v i w η3 fun η4 => P.nx ρ η4) S s t fun x w L1 Z1 η1 H1 S1 s1 E1 rw' q => ?_
  refine step' S1 s1 q fun y v L2 Z2 η2 H2 S2 s2 E2 rv q => ?_
  refine step' S2 s2 q fun z i L3 Z3 η3 H3 S3 s3 E3 ri q => ?_
  cases v with
  | ptr n =>
    unfold stoW at q
    dsimp only at q
    split at q
    · rename_i xs hn
      split at q
      · rename_i k
        obtain ⟨d, rfl, j, hj, q⟩ := onD_some q
        cases Rp.int_inv ri
        exact sto_low S3 hn (rv.ext E3 (fun o e => nomatch e)) (Rp.mono (E2.trans E3).1 _ _ rw') hj fun L' H' S' E' => e.nx _ _ _ _ _ _ S' (s3.ext E') q
      · exact False.elim q
    · exact False.elim q
  | dat d => exact False.elim q
  | fr o => exact False.elim q
def rAug : R2 := fun x y H Q => rI0 (fun i j => .int (i + j)) x y H Q ∨ ∃ i j, x = .str i ∧ y = .str j ∧ i.length + j.length ≤ sizeLine ∧ Q (.str (i ++ j)) H
theorem ip_aug : PIp X .Add rAug := OpR.or iop_add iop_add_str
theorem aug_low {x y : V} {d e : D} {Qd : D → Prop} {R : VK} (rx : Rp Z x d) (ry : Rp Z y e) (h : augD d e Qd) (k : ∀ z f, Rp Z z f → Qd f → R z H) : rAug x y H R := by
  cases d <;> cases e <;> first | exact False.elim h | skip
  · cases Rp.int_inv rx
    cases Rp.int_inv ry
    exact .inl ⟨_, _, rfl, rfl, k _ _ (.int _) h⟩
  · cases Rp.str_inv rx
    cases Rp.str_inv ry
    exact .inr ⟨_, _, rfl, rfl, h.1, k _ _ (.str _) h.2⟩
theorem ls_augN {st : Stmt} {i : Nat} {te : LTE} (hp : PS X st (tAug i (liftE G te) rAug)) :
    LS X G st (fun P ρ η => match ρ[i]? with
      | some (some (.dat x)) => te ρ η fun w η1 => w.fz.onD fun y => augD x y fun z => P.nx (ρ.set i (some (.dat z))) η1
      | _ => False) := by
  refine hp.weak ?_
  rintro D σ H ⟨ρ, L, Z, η, P, S, s, t, e⟩
  split at t
  · rename_i x hx
    obtain ⟨u, hu, v, rfl, rx⟩ := s.get hx
    refine ⟨v, hu, step (P := fun w η1 => w.onD fun y => augD x y fun z => P.nx (ρ.set i (some (.dat z))) η1) S s t fun y w L1 Z1 η1 H1 S1 s1 E1 rw' q => ?_⟩
    obtain ⟨d, rfl, q⟩ := onD_some q
    exact aug_low (Rp.mono E1.1 _ _ rx) rw' q fun z f rz q => e.nx _ _ _ _ _ _ S1 (s1.set (x := some z) (v := some (.dat f)) ⟨z, rfl, rz⟩ i) q
  · exact False.elim t
theorem get_list : PGet X (rIxL X.K) := by
  intro pins s σ H x y v u Q I rx ry h
  obtain ⟨p, xs, i, z, rfl, rfl, hq, he, q⟩ := h
  cases rx
  obtain ⟨t, rfl⟩ := ry
  obtain ⟨its, r, pl, hz⟩ := I.list hq
  obtain ⟨j, h1, h2, h3, h4, h5⟩ := atI_get he
  obtain ⟨w, ew, rw'⟩ := r.get h2
  have hl := r.length
  have hn := line63
  have fin : EP X pins σ Q w s := ⟨z, H, I, rw', q⟩
  by_cases h0 : 0 ≤ i
  · have hj : i.toNat = j := by
      rw [seqIndex_of h0 h5] at h1
      exact Option.some.inj h1
    exact wpAny_getItem_list pl.isList h0 (by omega) (by rw [hj]; simpa using ew) fin
  · have hj : (i + (its.toArray.size : Int)).toNat = j := by
      rw [seqIndex_neg (by omega) h4] at h1
      rw [List.size_toArray, ← hl]
      exact Option.some.inj h1
    exact wpAny_getItem_list_neg pl.isList (by omega) (by rw [List.size_toArray] <;> omega) (by omega) (by rw [hj]; simpa using ew) fin
theorem ls_augS {st : Stmt} {ta tb te : LTE} (hp : PS X st (tAugS (liftE G ta) (liftE G tb) (liftE G te) (rIxL X.K) rAug rSetL)) :
    LS X G st (fun P ρ η => ta ρ η fun v η1 => tb ρ η1 fun i η2 => augGet v i η2 fun x =>
      te ρ η2 fun w η3 => w.fz.onD fun u => augD x u fun z => stoW v i (.dat z) η3 fun η4 => P.nx ρ η4) := by
  refine hp.weak ?_
  rintro D σ H ⟨ρ, L, Z, η, P, S, s, t, e⟩
  refine step' S s t fun xv v L1 Z1 η1 H1 S1 s1 E1 rv q => ?_
  refine step' S1 s1 q fun yv i L2 Z2 η2 H2 S2 s2 E2 ri q => ?_
  cases v with
  | ptr n =>
    unfold augGet at q
    dsimp only at q
    split at q
    · rename_i xs hn
      split at q
      · rename_i k
        obtain ⟨d, hd, q⟩ := q
        cases Rp.int_inv ri
        have rv2 := rv.ext (H' := H2) E2 (fun o e => nomatch e)
        obtain ⟨a, ys, rfl, h1, h2, h3⟩ := S2.list hn rv2
        obtain ⟨x, hx, rx⟩ := atI_rp h3 hd
        refine ⟨a, ys, k, x, rfl, rfl, .of h2, hx, ?_⟩
        refine step (P := fun w η3 => w.onD fun u => augD d u fun z => stoW (.ptr n) (.dat (.int k)) (.dat z) η3 fun η4 => P.nx ρ η4) S2 s2 q fun zv w L3 Z3 η3 H3 S3 s3 E3 rw' q => ?_
        obtain ⟨u, rfl, q⟩ := onD_some q
        refine aug_low (Rp.mono E3.1 _ _ rx) rw' q fun z f rz q => ?_
        unfold stoW at q
        dsimp only at q
        split at q
        · rename_i xs' hn'
          obtain ⟨j, hj, q⟩ := q
          exact sto_low S3 hn' (rv2.ext (H' := H3) E3 (fun o e => nomatch e)) rz hj fun L' H' S' E' => e.nx _ _ _ _ _ _ S' (s3.ext E') q
        · exact False.elim q
      · exact False.elim q
    · exact False.elim q
  | dat d => exact False.elim q
  | fr o => exact False.elim q
theorem ls_exp {st : Stmt} {te : LTE} (hp : PS X st (tDrop (liftE G te))) : LS X G st (fun P ρ η => te ρ η fun _ η1 => P.nx ρ η1) := by
  refine hp.weak ?_
  rintro D σ H ⟨ρ, L, Z, η, P, S, s, t, e⟩
  exact step' (P := fun _ η1 => P.nx ρ η1) S s t fun x v L1 Z1 η1 H1 S1 s1 E1 r q => e.nx _ _ _ _ _ _ S1 s1 q
theorem ls_ret {st : Stmt} {te : LTE} (hp : PS X st (tRet (liftE G te))) : LS X G st (fun P ρ η => te ρ η P.rt) := by
  refine hp.weak ?_
  rintro D σ H ⟨ρ, L, Z, η, P, S, s, t, e⟩
  exact step' S s t fun x v L1 Z1 η1 H1 S1 s1 E1 r q => e.rt _ _ _ _ _ _ S1 r q
theorem ls_retN : LS X G (.Return none pos) (fun P ρ η => P.rt (.dat .none) η) := by
  refine ps_retN.weak ?_
  rintro D σ H ⟨ρ, L, Z, η, P, S, s, t, e⟩
  exact e.rt _ _ _ _ _ _ S (show RepV G L Z H .non (.dat .none) from .non) t
theorem drop_fr {n : Nat} {o : Ob} {p : Addr × List Addr} (S : SI G L Z η H) (hn : η[n]? = some (some o)) (hl : L[n]? = some (some p)) (ha : G.A0 n = none) :
    SI G (L.set n none) Z (η.set n none) H ∧ RepO Z H p.1 p.2 o ∧ ∀ b ∈ p.1 :: p.2, Z b = none ∧ G.F0 b = none ∧ b ∉ Loc.all (L.set n none) := by
  obtain ⟨ow, o', h1, h2⟩ := S.ow n p hl
  rw [hn] at h1
  cases h1
  refine ⟨S.drop ha, h2, fun b hb => ⟨(ow b hb).1, (ow b hb).2, fun hm => ?_⟩⟩
  obtain ⟨m, q, h3, h4⟩ := mem_all.mp hm
  have hmn : n ≠ m := fun z => by
    subst z
    have : n < L.length := (List.getElem?_eq_some_iff.mp hl).1
    rw [List.getElem?_set_self this] at h3; cases h3
  rw [List.getElem?_set_ne hmn] at h3
  exact S.apart (fun z => hmn z.symm) h3 hl h4 hb
theorem ls_retP {st : Stmt} {i n : Nat} {Γ : Env} (hp : PS X st (tRet (liftE G (wE Γ (.var i))))) (ha : G.A0 n = none) :
    LS X G st (fun P ρ η => ρ[i]? = some (some (.ptr n)) ∧ match η[n]? with
      | some (some o) => P.rt (.fr o) (η.set n none)
      | _ => False) := by
  refine hp.weak ?_
  rintro D σ H ⟨ρ, L, Z, η, P, S, s, ⟨hi, t⟩, e⟩
  split at t
  · rename_i o hn
    refine ⟨ρ, L, Z, η, fun v η' => v = .ptr n ∧ η' = η, S, s, ?_, fun x v L' Z' η' H' S' E' rv q => ?_⟩
    · simp only [wE, hi]
      trivial
    · obtain ⟨rfl, rfl⟩ := q
      obtain ⟨a, ks, h1, rfl⟩ := rv
      obtain ⟨S2, ro, hf⟩ := drop_fr S' hn h1 ha
      exact e.rt (.ref a) (.fr o) _ _ _ _ S2 (show RepV _ _ _ _ _ (.fr o) from ⟨a, ks, rfl, ro, hf⟩) t
  · exact False.elim t
theorem frz_low {n : Nat} {a : Addr} {ks : List Addr} {ds : List D} {Z' : Hp} (hl : L[n]? = some (some (a, ks))) (sz : Sub Z Z') (r : Rp Z' (.ref a) (.list ds)) (s : SS L Z σ ρ) : SS (L.set n none) Z' σ (ρ.map (frz1 n (.list ds))) := by
  induction s with
  | nil => exact .nil
  | cons q t ih =>
    refine .cons ?_ ih
    rename_i x v _ _
    cases v with
    | none => trivial
    | some v =>
      cases v with
      | dat d =>
        obtain ⟨v, h1, h2⟩ := q
        exact ⟨v, h1, Rp.mono sz _ _ h2⟩
      | ptr m =>
        show RepS _ _ _ (if m = n then some (.dat (.list ds)) else some (.ptr m))
        obtain ⟨b, js, h1, h2⟩ := q
        by_cases h : m = n
        · rw [if_pos h]
          subst h
          rw [hl] at h1
          cases h1
          exact ⟨_, h2, r⟩
        · rw [if_neg h]
          exact ⟨b, js, by rw [List.getElem?_set_ne (fun z => h z.symm)]; exact h1, h2⟩
      | fr o => exact q
/-- a register's list is from now on data -/
theorem ls_frz {rest : List Stmt} {u : LTS} {i n : Nat} (h : LSs X G rest u) (ha : G.A0 n = none) :
    LSs X G rest (fun P ρ η => ρ[i]? = some (some (.ptr n)) ∧ match η[n]? with
      | some (some (.lst ds)) => u P (ρ.map (frz1 n (.list ds))) (η.set n none)
      | _ => False) := by
  refine h.weak ?_
  rintro D σ H ⟨ρ, L, Z, η, P, S, s, ⟨hi, t⟩, e⟩
  split at t
  · rename_i ds hn
    obtain ⟨p, hl⟩ := S.lv n _ hn
    obtain ⟨S2, ro, hf⟩ := drop_fr S hn hl ha
    obtain ⟨a, ks⟩ := p
    obtain ⟨rfl, xs, h1, h2⟩ := ro
    obtain ⟨z1, z2, z3⟩ := hf a List.mem_cons_self
    have sz : Sub Z (upd Z a (.lst xs)) := Sub.upd z1
    have S3 := S2.freeze z3 z1 z2 h1
    exact ⟨_, _, _, _, P, S3, frz_low hl sz (.lst (.inl upd_same) (RpAll.mono sz _ _ h2)) s, t, e⟩
  · exact False.elim t
theorem ls_if {c : Expr} {a b : List Stmt} {tc : LTE} {t u : LTS} (hc : LT X G c (asT tc)) (ha : LSs X G a t) (hb : LSs X G b u) :
    LS X G (.If c a b pos) (fun P ρ η => asT tc ρ η fun b η1 => if b = true then t P ρ η1 else u P ρ η1) := by
  refine (ps_if hc ha hb).weak ?_
  rintro D σ H ⟨ρ, L, Z, η, P, S, s, t', e⟩
  refine stepT (P := fun b η1 => if b = true then t P ρ η1 else u P ρ η1) S s t' fun d L1 Z1 η1 H1 S1 s1 E1 q => ?_
  cases d with
  | true => rw [if_pos rfl]; exact ⟨ρ, L1, Z1, η1, P, S1, s1, q, e⟩
  | false => exact ⟨ρ, L1, Z1, η1, P, S1, s1, q, e⟩
theorem ls_brk : LS X G (.Break pos) (fun P ρ η => P.bk ρ η) := by
  refine ps_break.weak ?_
  rintro D σ H ⟨ρ, L, Z, η, P, S, s, t, e⟩
  exact e.bk σ H ρ L Z η S s t
theorem ls_cnt : LS X G (.Continue pos) (fun P ρ η => P.ct ρ η) := by
  refine ps_continue.weak ?_
  rintro D σ H ⟨ρ, L, Z, η, P, S, s, t, e⟩
  exact e.ct σ H ρ L Z η S s t
theorem ls_pas {st : Stmt} (h : PS X st tNext) : LS X G st (fun P ρ η => P.nx ρ η) := by
  refine h.weak ?_
  rintro D σ H ⟨ρ, L, Z, η, P, S, s, t, e⟩
  exact e.nx σ H ρ L Z η S s t
theorem ls_while {c : Expr} {body : List Stmt} {tc : LTE} {tb : LTS} (hp : PassesOwn (model X.prog X.w) X.A X.env X.xe) (hc : LT X G c (asT tc)) (hb : LSs X G body tb) :
    LS X G (.While c body [] pos) (wWhile tc tb) := by
  refine (ps_while hp hc hb).weak ?_
  rintro D σ H ⟨ρ, L, Z, η, P, S, s, ⟨I, ⟨m0, i0⟩, turn⟩, e⟩
  refine ⟨fun m σ H => ∃ ρ L Z η, SI G L Z η H ∧ SS L Z σ ρ ∧ I m ρ η, ⟨m0, ρ, L, Z, η, S, s, i0⟩, ?_⟩
  rintro m σ H ⟨ρ, L, Z, η, S, s, im⟩
  refine stepT S s (turn m ρ η im) fun d L1 Z1 η1 H1 S1 s1 E1 q => ?_
  cases d with
  | true =>
    rw [if_pos rfl]
    rw [if_pos rfl] at q
    refine ⟨fun σ H => ∃ m', m' < m ∧ ∃ ρ L Z η, SI G L Z η H ∧ SS L Z σ ρ ∧ I m' ρ η, fun _ _ h => h, ρ, L1, Z1, η1, _, S1, s1, q, ?_, e.rt, e.nx, ?_⟩
    · rintro σ H ρ L Z η S s ⟨m', hm, q⟩
      exact ⟨m', hm, ρ, L, Z, η, S, s, q⟩
    · rintro σ H ρ L Z η S s ⟨m', hm, q⟩
      exact ⟨m', hm, ρ, L, Z, η, S, s, q⟩
  | false => exact e.nx _ _ _ _ _ _ S1 s1 q
/-- the ghost of a loop's body -/
def Gh.loop (G : Gh) (gs : List Nat) (L : Loc) (Z : Hp) : Gh where
  F0 := G.F0
  Z0 := Z
  A0 := fun n => if n ∈ gs then (match L[n]? with
    | some (some p) => some p.1
    | _ => none) else G.A0 n
theorem SI.loop {gs : List Nat} (S : SI G L Z η H) : SI (G.loop gs L Z) L Z η H := by
  refine ⟨fun n a e => ?_, Sub.refl _, S.zh, S.fh, S.zn, S.nd, S.ln, S.ow, S.lv⟩
  have e : (if n ∈ gs then (match L[n]? with
    | some (some p) => some p.1
    | _ => none) else G.A0 n) = some a := e
  by_cases h : n ∈ gs
  · rw [if_pos h] at e
    split at e
    · rename_i p hp
      cases e
      exact ⟨p.2, hp⟩
    · cases e
  · rw [if_neg h] at e
    exact S.a0 n a e
theorem SI.unloop {gs : List Nat} {L' : Loc} {Z' : Hp} {η' : Reg} {H' : Hp} (S : SI G L Z η H) (S' : SI (G.loop gs L Z) L' Z' η' H') : SI G L' Z' η' H' ∧ Keep gs L Z L' Z' := by
  have look : ∀ n, n ∈ gs → ∀ a ks, L[n]? = some (some (a, ks)) → (G.loop gs L Z).A0 n = some a := fun n h a ks e => by
    show (if n ∈ gs then (match L[n]? with
    | some (some p) => some p.1
    | _ => none) else G.A0 n) = some a
    rw [if_pos h, e]
  refine ⟨⟨fun n a e => ?_, S.z0.trans S'.z0, S'.zh, S'.fh, S'.zn, S'.nd, S'.ln, S'.ow, S'.lv⟩, S'.z0, fun n h a ks e => S'.a0 n a (look n h a ks e)⟩
  obtain ⟨ks, h1⟩ := S.a0 n a e
  by_cases h : n ∈ gs
  · exact S'.a0 n a (look n h a ks h1)
  · exact S'.a0 n a (by
      show (if n ∈ gs then _ else G.A0 n) = some a
      rw [if_neg h]; exact e)
theorem Keep.trans {gs : List Nat} {L1 L2 L3 : Loc} {Z1 Z2 Z3 : Hp} (a : Keep gs L1 Z1 L2 Z2) (b : Keep gs L2 Z2 L3 Z3) : Keep gs L1 Z1 L3 Z3 := ⟨a.1.trans b.1, fun n h c ks e => by
  obtain ⟨ks', e'⟩ := a.2 n h c ks e
  exact b.2 n h c ks' e'⟩
theorem Rp.loopV {gs : List Nat} {L1 L' : Loc} {Z1 Z' H' : Hp} {x : V} {v : Vl} (h : RepV (G.loop gs L1 Z1) L' Z' H' x v) : RepV G L' Z' H' x v := by
  cases v with
  | dat d => exact h
  | ptr n => exact h
  | fr o => exact h
theorem ls_for {iter tge : Expr} {body : List Stmt} {gs : List Nat} {src : LTI} {pl : Bool} {tg : Tg} {tb : LTS} (hp : PassesOwn (model X.prog X.w) X.A X.env X.xe) (hc : X.calm = true)
    (hi : PI X tge iter (liftI G pl src)) (hg : PG X tge (tgR X.K tg)) (hpl : pl = true ∨ tg.isMany = true) (hb : ∀ L Z, LSs X (G.loop gs L Z) body tb) (hs : ∀ x, foldedSetIterable iter X.env x = pure x) :
    LS X G (.For tge iter body [] pos) (fun P ρ η => src ρ η fun ds ok rs η1 => (∀ r ∈ rs, r ∈ gs) ∧ wFor tg tb ok ds P ρ η1) := by
  have hb' : PSs X body (fun D σ H => ∃ L Z, liftS (G.loop gs L Z) tb D σ H) := ⟨fun pins s σ H D I ⟨L, Z, q⟩ => (hb L Z).run pins s σ H D I q⟩
  refine (ps_for hp hc hi hg hb' hs).weak ?_
  rintro D σ H ⟨ρ, L, Z, η, P, S, s, t, e⟩
  refine ⟨ρ, L, Z, η, _, S, s, t, ?_⟩
  intro J ds ok rs L1 Z1 η1 H1 S1 E1 it ok1 q
  obtain ⟨hrs, q⟩ := q
  refine ⟨fun i m σ H => ∃ ρ2 η2 L2 Z2 rest, m = rest.length ∧ ds.drop i = rest ∧ SI G L2 Z2 η2 H ∧ Keep gs L1 Z1 L2 Z2 ∧ SS L2 Z2 σ ρ2 ∧ ok η2 ∧ wFor tg tb ok rest P ρ2 η2,
    ⟨ds.length, ρ, η1, L1, Z1, ds, rfl, rfl, S1, Ext.refl.keep gs, s.ext E1, ok1, q⟩, ?_⟩
  rintro i m σ H ⟨ρ2, η2, L2, Z2, rest, rfl, hr, S2, E2, s2, ok2, w⟩
  cases rest with
  | nil =>
    have hlen : ds.length ≤ i := List.drop_eq_nil_iff.mp hr
    exact .inl ⟨it.stop G L2 Z2 η2 H S2 (E2.sub hrs) ok2 i hlen, e.nx _ _ _ _ _ _ S2 s2 w⟩
  | cons d r =>
    have hlt : i < ds.length := by
      by_cases h : i < ds.length
      · exact h
      · rw [List.drop_eq_nil_of_le (by omega)] at hr; cases hr
    have hd : ds[i]? = some d := by
      rw [List.drop_eq_getElem_cons hlt] at hr
      injection hr with h1 h2
      rw [List.getElem?_eq_getElem hlt, h1]
    have hr' : ds.drop (i + 1) = r := by
      rw [List.drop_eq_getElem_cons hlt] at hr
      injection hr
    obtain ⟨hgo, hy⟩ := it.go G L2 Z2 η2 H S2 (E2.sub hrs) ok2 i d hd
    refine .inr ⟨hgo, fun σ' H' => ∃ ρ3 η3 L3 Z3, SI G L3 Z3 η3 H' ∧ Keep gs L1 Z1 L3 Z3 ∧ SS L3 Z3 σ' ρ3 ∧ ok η3 ∧ wFor tg tb ok r P ρ3 η3, ?_, ?_⟩
    · rintro σ' H' ⟨ρ3, η3, L3, Z3, h1, h2, h3, h4, h5⟩
      exact ⟨r.length, by rw [List.length_cons]; omega, ρ3, η3, L3, Z3, r, rfl, hr', h1, h2, h3, h4, h5⟩
    · intro x H3 yl
      obtain ⟨S3, sub, iv, hx⟩ := hy x H3 yl
      refine tg_low (vs := []) tg S3 s2 iv (fun z => hx ?_) w fun σ' ρ' s' _ w => ?_
      · rcases hpl with e | e
        · exact e
        · rw [z] at e; cases e
      have nxt : ∀ (σ : SV) (H : Hp) (ρ : Sl) (L : Loc) (Z : Hp) (η : Reg), SI (G.loop gs L2 Z2) L Z η H → SS L Z σ ρ → (ok η ∧ wFor tg tb ok r P ρ η) → ∃ ρ3 η3 L3 Z3, SI G L3 Z3 η3 H ∧ Keep gs L1 Z1 L3 Z3 ∧ SS L3 Z3 σ ρ3 ∧ ok η3 ∧ wFor tg tb ok r P ρ3 η3 := by
        rintro σ H ρ L Z η S s ⟨o, q⟩
        obtain ⟨S', K'⟩ := S3.unloop S
        exact ⟨ρ, η, L, Z, S', E2.trans K', s, o, q⟩
      refine ⟨L2, Z2, ρ', L2, Z2, η2, _, S3.loop, s', w, nxt, fun x v L Z η H S r q => ?_, fun σ H ρ L Z η S s q => ?_, nxt⟩
      · exact e.rt x v L Z η H (S3.unloop S).1 (Rp.loopV r) q
      · exact e.nx σ H ρ L Z η (S3.unloop S).1 s q
end
end Pl

namespace Pl
open PySem PySem.Spec PyProof.Rows L2

/-! ## the looks -/
def glb (sc : Scope) (x : Str) : Bool := decide (sc.names.lookup x = some .globalImplicit) && !(x == ("__debug__" : Str)) && !decide (x = "__name__")
def visC (sc : Scope) (x : Str) : Bool := match sc.names.lookup x with
  | some .local => true
  | some .cell => true
  | some .free => true
  | _ => false
def locC (sc : Scope) (x : Str) : Bool := decide (sc.names.lookup x = some .local)
/-- a name that a def's own text may set -/
def setC (sc : Scope) (x : Str) : Bool := decide (sc.names.lookup x = some .local) || decide (sc.names.lookup x = some .cell)
/-- .. that a comprehension may -/
def setL (scope sc : Scope) (x : Str) : Bool := decide ((relS scope sc).names.lookup x = some .local) || (decide ((relS scope sc).names.lookup x = some .cell) && decide (scope.names.lookup x = some .cell))
def nSt : Expr → Bool
  | .Starred .. => false
  | _ => true
def nSl : Expr → Bool
  | .Slice .. => false
  | _ => true
def nIte : Expr → Bool
  | .IfExp .. => false
  | _ => true
def nSet : Expr → Bool
  | .Set .. => false
  | _ => true
def nCall0 : Expr → Bool
  | .Call (.Name _ _) [] [] _ => false
  | _ => true
def nComp : Expr → Bool
  | .ListComp .. => false
  | .SetComp .. => false
  | .DictComp .. => false
  | _ => true
def isTup : Expr → Bool
  | .Tuple .. => true
  | _ => false
def litOk : Const → D → Bool
  | .none, .none => true
  | .bool b, .bool c => b == c
  | .int i, .int j => decide (i = j)
  | .str x, .str y => decide (x = y)
  | _, _ => false
def flatEq : D → D → Bool
  | .none, .none => true
  | .bool b, .bool c => b == c
  | .int i, .int j => decide (i = j)
  | .str x, .str y => decide (x = y)
  | _, _ => false
/-- what a def's text may name: its slots, the defs, the module's constants -/
structure Cfg where
  N : List Str
  fn : List Str
  cs : List (Str × D)
def ownP (N : List Str) (own : List Nat) : List (Str × Nat) := own.filterMap fun i => N[i]?.map fun x => (x, i)
def Cfg.at (c : Cfg) (i : Nat) (x : Str) : Bool := decide (c.N[i]? = some x)
def kNames (c : Cfg) (ok : Str → Bool) : List Nat → List Expr → Bool
  | [], [] => true
  | i :: is, .Name x _ :: r => c.at i x && ok x && kNames c ok is r
  | _, _ => false
def kTg (c : Cfg) (ok : Str → Bool) : Tg → Expr → Bool
  | .one i, .Name x _ => c.at i x && ok x
  | .many is, .Tuple xs _ _ => kNames c ok is xs
  | _, _ => false
def Src.pl : Src → Bool
  | .seq _ => true
  | .rng1 _ => true
  | .rng2 _ _ => true
  | .zip _ _ => false
  | .enum _ => false
def bltNames : List Str := ["len", "int", "abs", "sum", "min", "max", "all", "any", "list", "tuple", "sorted", "range", "isinstance", "zip", "enumerate", "str", "bool", "dict", "set"]
def isiOk : String → Str → Bool
  | "int", x => decide (x = "int")
  | "str", x => decide (x = "str")
  | "bool", x => decide (x = "bool")
  | "list", x => decide (x = "list")
  | "tuple", x => decide (x = "tuple")
  | "dict", x => decide (x = "dict")
  | _, _ => false
def plainBi : Bi → Bool
  | .sorted => false | .rlist1 => false | .rlist2 => false | .rtup1 => false | .rtup2 => false | .isi _ => false
  | _ => true
mutual
def kE (c : Cfg) : Scope → E → Expr → Bool
  | sc, .var i, x => match x with
    | .Name n _ => c.at i n && visC sc n && !(n == ("__debug__" : Str)) && !(n == ("__classdict__" : Str))
    | _ => false
  | sc, .lit d, x => match x with
    | .Constant k _ _ => litOk k d
    | _ => false
  | sc, .con y d, x => match x with
    | .Name n _ => decide (n = y) && glb sc n && c.cs.any fun p => decide (p.1 = n) && flatEq p.2 d
    | _ => false
  | sc, .bop o a b, x => match x with
    | .BinOp x op y _ => decide (op = opOf o) && kE c sc a x && kE c sc b y
    | _ => false
  | sc, .neg a, x => match x with
    | .UnaryOp .USub x _ => kE c sc a x
    | _ => false
  | sc, .cmp o a b, x => match x with
    | .Compare x [op] [y] _ => decide (op = copOf o) && !behindInMarks (copOf o) y && kE c sc a x && kE c sc b y
    | _ => false
  | sc, .chn o p a b d, x => match x with
    | .Compare x [op, oq] [y, z] _ => decide (op = copOf o) && decide (oq = copOf p) && !lastMarks [copOf o, copOf p] [y, z] && kE c sc a x && kE c sc b y && kE c sc d z
    | _ => false
  | sc, .and a es, x => match x with
    | .BoolOp .And (x :: y :: xs) _ => (x :: y :: xs).all nIte && kE c sc a x && kEs c sc es (y :: xs)
    | _ => false
  | sc, .or a es, x => match x with
    | .BoolOp .Or (x :: y :: xs) _ => (x :: y :: xs).all nIte && kE c sc a x && kEs c sc es (y :: xs)
    | _ => false
  | sc, .not a, x => match x with
    | .UnaryOp .Not x _ => nIte x && kE c sc a x
    | _ => false
  | sc, .ite t a b, x => match x with
    | .IfExp z x y _ => nIte z && kE c sc t z && kE c sc a x && kE c sc b y
    | _ => false
  | sc, .tup es, x => match x with
    | .Tuple xs _ _ => kEs c sc es xs
    | _ => false
  | sc, .lst es, x => match x with
    | .List xs _ => kEs c sc es xs
    | _ => false
  | sc, .idx a b, x => match x with
    | .Subscript x y _ => nSl y && kE c sc a x && kE c sc b y
    | _ => false
  | sc, .sli a lo hi, x => match x with
    | .Subscript x (.Slice l h none _) _ => kE c sc a x && kEo c sc lo l && kEo c sc hi h
    | _ => false
  | sc, .call f es, x => match x with
    | .Call (.Name n _) xs [] _ => decide (c.fn[f]? = some n) && glb sc n && kEs c sc es xs
    | _ => false
  | sc, .bi b es, x => match x with
    | .Call (.Name n _) xs [] _ => match b with
      | .isi T => match xs with
        | [y, .Name m _] => decide (n = "isinstance") && glb sc n && glb sc m && isiOk T m && kEs c sc es [y]
        | _ => false
      | .rlist1 => match xs with
        | [.Call (.Name m _) [y] [] _] => decide (n = "list") && decide (m = "range") && glb sc n && glb sc m && kEs c sc es [y]
        | _ => false
      | .rlist2 => match xs with
        | [.Call (.Name m _) [y, z] [] _] => decide (n = "list") && decide (m = "range") && glb sc n && glb sc m && kEs c sc es [y, z]
        | _ => false
      | .rtup1 => match xs with
        | [.Call (.Name m _) [y] [] _] => decide (n = "tuple") && decide (m = "range") && glb sc n && glb sc m && kEs c sc es [y]
        | _ => false
      | .rtup2 => match xs with
        | [.Call (.Name m _) [y, z] [] _] => decide (n = "tuple") && decide (m = "range") && glb sc n && glb sc m && kEs c sc es [y, z]
        | _ => false
      | .sorted => match xs with
        | [y] => decide (n = "sorted") && glb sc n && kEs c sc es [y]
        | _ => false
      | b => decide (n = biName b) && glb sc n && !xs.isEmpty && kEs c sc es xs
    | _ => false
  | sc, .met m a es, x => match x with
    | .Call (.Attribute o name apos) xs [] cpos => decide (mtName m = name) && nCall0 o && (apos.endLine == cpos.line) && decide (xs.length ≤ 1) && kE c sc a o && kEs c sc es xs
    | _ => false
  | sc, .lc tg own s cd e, x => match x with
    | .ListComp elt [⟨tge, iter, ifs, 0⟩] scope _ => blkC c.N sc scope (ownP c.N own) && decide ((ownP c.N own).map (·.2) = own) && kTg c (setL scope sc) tg tge && tg.ixs.all (fun i => decide (i ∈ own)) &&
      nSet iter && (s.pl || (tg.isMany && isTup tge)) && kSrc c sc s iter && kIfs c (relS scope sc) cd ifs && kE c (relS scope sc) e elt
    | _ => false
def kEs (c : Cfg) : Scope → Es → List Expr → Bool
  | sc, .nil, xs => match xs with
    | [] => true
    | _ => false
  | sc, .cons e es, xs => match xs with
    | x :: xs => nSt x && kE c sc e x && kEs c sc es xs
    | _ => false
def kEo (c : Cfg) : Scope → Eo → Option Expr → Bool
  | sc, .no, x => match x with
    | none => true
    | _ => false
  | sc, .so e, x => match x with
    | some x => kE c sc e x
    | _ => false
def kIfs (c : Cfg) : Scope → Eo → List Expr → Bool
  | sc, .no, x => match x with
    | [] => true
    | _ => false
  | sc, .so e, x => match x with
    | [x] => nIte x && kE c sc e x
    | _ => false
def kSrc (c : Cfg) : Scope → Src → Expr → Bool
  | sc, .seq a, x => kE c sc a x
  | sc, .rng1 a, x => match x with
    | .Call (.Name n _) [y] [] _ => decide (n = "range") && glb sc n && nSt y && kE c sc a y
    | _ => false
  | sc, .rng2 a b, x => match x with
    | .Call (.Name n _) [y, z] [] _ => decide (n = "range") && glb sc n && nSt y && nSt z && kE c sc a y && kE c sc b z
    | _ => false
  | sc, .zip a b, x => match x with
    | .Call (.Name n _) [y, z] [] _ => decide (n = "zip") && glb sc n && nSt y && nSt z && kE c sc a y && kE c sc b z
    | _ => false
  | sc, .enum a, x => match x with
    | .Call (.Name n _) [y] [] _ => decide (n = "enumerate") && glb sc n && nSt y && kE c sc a y
    | _ => false
end
/-- a list comprehension that is stored as it is made -/
def swC (sc : Scope) (t : Str) (tpos : Pos) : Expr → Bool
  | .ListComp _ _ scope p => decide (sc.kind = .function) && locC sc t && (tpos.line == p.line) && !(scope.names.any fun (n, k) => n == t && (k == .local || k == .cell))
  | _ => false
def kS0 (x : Expr) : Bool := match x with
  | .Tuple .. => true
  | _ => false
mutual
def kS (c : Cfg) (sc : Scope) : List Nat → S → Stmt → Bool
  | gd, .asg i r e, st => match st with
    | .Assign [.Name n tp] v _ => c.at i n && setC sc n && (match r with
      | some k => decide (k ∉ gd)
      | none => true) && (match v with
      | .ListComp .. => true
      | .SetComp .. => false
      | .DictComp .. => false
      | _ => true) && kE c sc e v
    | _ => false
  | gd, .asgT is e, st => match st with
    | .Assign [.Tuple ts _ _] v _ => kNames c (setC sc) is ts && (match v with
      | .Tuple vs _ _ => match is, ts, vs with
        | [i, j], [.Name x px, .Name y py], [a, b] => decide (i ≠ j) && decide (x ≠ y) && locC sc x && locC sc y && (px.line == py.line) && decide (sc.kind = .function) && nSt a && nSt b && !([a, b].all (foldedForSure 8)) && !([a, b].all (constantsAlone 8))
        | _, _, _ => false
      | _ => true) && kE c sc e v
    | _ => false
  | gd, .sto a b e, st => match st with
    | .Assign [.Subscript x y _] v _ => nSl y && kE c sc a x && kE c sc b y && kE c sc e v
    | _ => false
  | gd, .augN i e, st => match st with
    | .AugAssign (.Name n _) .Add v _ => c.at i n && setC sc n && kE c sc e v
    | _ => false
  | gd, .augS a b e, st => match st with
    | .AugAssign (.Subscript x y _) .Add v _ => nSl y && kE c sc a x && kE c sc b y && kE c sc e v
    | _ => false
  | gd, .exp e, st => match st with
    | .Expr v _ => nComp v && kE c sc e v
    | _ => false
  | gd, .ret e, st => match st with
    | .Return (some v) _ => kE c sc e v
    | .Return none _ => match e with
      | .lit .none => true
      | _ => false
    | _ => false
  | gd, .retP i n, st => match st with
    | .Return (some v) _ => kE c sc (.var i) v && decide (n ∉ gd)
    | _ => false
  | gd, .iff t a b, st => match st with
    | .If x p q _ => nIte x && kE c sc t x && kSs c sc gd a p && kSs c sc gd b q
    | _ => false
  | gd, .for gs tg s b, st => match st with
    | .For tge iter body [] _ => kTg c (setC sc) tg tge && nSet iter && (s.pl || (tg.isMany && isTup tge)) && kSrc c sc s iter && kSs c sc (gs ++ gd) b body
    | _ => false
  | gd, .whl t b, st => match st with
    | .While x body [] _ => nIte x && kE c sc t x && kSs c sc gd b body
    | _ => false
  | gd, .brk, st => match st with
    | .Break _ => true
    | _ => false
  | gd, .cnt, st => match st with
    | .Continue _ => true
    | _ => false
  | gd, .pas, st => match st with
    | .Pass _ => true
    | _ => false
  | gd, .frz i n, st => false
def kSs (c : Cfg) (sc : Scope) : List Nat → Ss → List Stmt → Bool
  | gd, .nil, sts => match sts with
    | [] => true
    | _ => false
  | gd, .cons s ss, sts => (match s with
    | .frz i n => decide (n ∉ gd) && kSs c sc gd ss sts
    | _ => false) || (match sts with
    | st :: rest => kS c sc gd s st && kSs c sc gd ss rest
    | [] => false)
end

/-! ## what a context must offer -/
structure XC (X : Cx) (c : Cfg) (Γ : Env) : Prop where
  hN : X.N = c.N
  nd : X.N.Nodup
  calm : X.calm = true
  un : X.A.units + 64 < cLine
  kind : X.env.scope.kind = .function
  fn : Γ.map (·.1) = c.fn
  ok : ∀ (i : Nat) (p : Str × PSpec), Γ[i]? = some p → FnIn X p.1 p.2
  mg : ∀ x ∈ bltNames, X.mg x = none
  cs : ∀ (x : Str) (d : D), (x, d) ∈ c.cs → ∃ u v, X.mg x = some u ∧ RelV v u ∧ ∀ H : Hp, Rp H v d
section
variable {X : Cx} {c : Cfg} {Γ : Env} {G : Gh}
theorem glb_by {sc : Scope} {x : Str} (h : glb sc x = true) (hs : X.env.scope = sc) : Gl X x ∧ (x == ("__debug__" : Str)) = false ∧ x ≠ "__name__" := by
  unfold glb at h
  simp only [Bool.and_eq_true, decide_eq_true_eq, Bool.not_eq_true', decide_eq_false_iff_not] at h
  exact ⟨by show X.env.scope.names.lookup x = _; rw [hs]; exact h.1.1, h.1.2, h.2⟩
theorem vis_by {sc : Scope} {x : Str} (h : visC sc x = true) (hs : X.env.scope = sc) : Vis X.env.scope x := by
  rw [hs]
  unfold visC at h
  split at h <;> first | exact .inl (by assumption) | exact .inr (.inl (by assumption)) | exact .inr (.inr (by assumption)) | cases h
theorem loc_by {sc : Scope} {x : Str} (h : locC sc x = true) (hs : X.env.scope = sc) : X.env.scope.names.lookup x = some .local := by
  rw [hs]; exact of_decide_eq_true h
theorem at_by (C : XC X c Γ) {i : Nat} {x : Str} (h : c.at i x = true) : X.N[i]? = some x := by
  rw [C.hN]; exact of_decide_eq_true h
theorem star_by {e : Expr} {es : List Expr} {env : PySem.Env} (h : nSt e = true) : starEach (e :: es) env = (false, eval e env) :: starEach es env := by
  cases e <;> first | rfl | cases h
theorem ix_by {b : Expr} (h : nSl b = true) : PlainIx b := by
  intro o i
  cases b <;> first | rfl | cases h
theorem base_by {o : Expr} {a : Str} {env : PySem.Env} (h : nCall0 o = true) : attributeBase o a env (eval o env) = eval o env := by
  unfold attributeBase
  split
  · cases h
  · rfl
theorem set_by {e : Expr} {env : PySem.Env} {x : Value} (h : nSet e = true) : foldedSetIterable e env x = pure x := by
  cases e <;> first | rfl | cases h
theorem comp_by {e : Expr} {l : Nat} {env : PySem.Env} (t : Option Expr) (h : nComp e = true) : swapsWith e t l env = pure false := by
  cases e <;> first | rfl | cases h
theorem comp_tg {e : Expr} {l : Nat} {env : PySem.Env} {t : Expr} (h : match t with
    | .Name _ _ => False
    | _ => True) : swapsWithSole [t] e l env = pure false := by
  cases e <;> first | rfl | (cases t <;> first | rfl | exact False.elim h)
theorem lit_by {k : Const} {d : D} {j : Nat} {pos : Pos} (h : litOk k d = true) : ∃ v, PE X (.Constant k j pos) (tC v) ∧ ∀ H : Hp, Rp H v d := by
  cases k <;> cases d <;> first | (cases h; done) | skip
  · exact ⟨_, pe_non, fun _ => .non⟩
  · have e := eq_of_beq (show (_ == _) = true from h)
    subst e
    exact ⟨_, pe_bl, fun _ => .bl _⟩
  · have e := of_decide_eq_true (show decide (_ = _) = true from h)
    subst e
    exact ⟨_, pe_int, fun _ => .int _⟩
  · have e := of_decide_eq_true (show decide (_ = _) = true from h)
    subst e
    exact ⟨_, pe_str, fun _ => .str _⟩
theorem flat_by {d e : D} (h : flatEq d e = true) : d = e := by
  cases d <;> cases e <;> first | (cases h; done) | skip
  · rfl
  · rw [eq_of_beq (show (_ == _) = true from h)]
  · rw [of_decide_eq_true (show decide (_ = _) = true from h)]
  · rw [of_decide_eq_true (show decide (_ = _) = true from h)]
def OkSet (X : Cx) (ok : Str → Bool) : Prop := ∀ x, ok x = true → L2.Loc X.env.scope x ∧ (X.fn x = true ∨ X.env.scope.names.lookup x = some .local)
theorem okset_def {sc : Scope} (hs : X.env.scope = sc) (hf : ∀ x, X.fn x = true) : OkSet X (setC sc) := fun x h => by
  unfold setC at h
  rw [Bool.or_eq_true, decide_eq_true_eq, decide_eq_true_eq] at h
  unfold L2.Loc
  rw [hs]
  exact ⟨h, .inl (hf x)⟩
theorem names_by (C : XC X c Γ) {ok : Str → Bool} (hs : OkSet X ok) : ∀ (is : List Nat) (xs : List Expr), kNames c ok is xs = true → PGs X xs (gMany is) ∧ (assignEach xs X.env).length = is.length ∧ (assignEach xs X.env).findIdx? (·.1) = none
  | [], [], _ => ⟨pgs_nil, rfl, rfl⟩
  | [], _ :: _, h => by cases h
  | _ :: _, [], h => by cases h
  | i :: is, x :: xs, h => by
    cases x <;> first | (cases h; done) | skip
    rename_i n p
    unfold kNames at h
    simp only [Bool.and_eq_true] at h
    obtain ⟨⟨h1, h2⟩, h3⟩ := h
    obtain ⟨g, l, f⟩ := names_by C hs is xs h3
    refine ⟨pgs_cons (pg_name C.nd (at_by C h1) (hs _ h2).1 (hs _ h2).2) g rfl, by show (assignEach xs X.env).length + 1 = is.length + 1; rw [l], ?_⟩
    show (List.findIdx? _ ((false, _) :: assignEach xs X.env)) = none
    rw [List.findIdx?_cons]
    simp only [Bool.false_eq_true, if_false]
    rw [f]; rfl
theorem tg_by (C : XC X c Γ) {ok : Str → Bool} (hs : OkSet X ok) {tg : Tg} {x : Expr} (h : kTg c ok tg x = true) : PG X x (tgR X.K tg) := by
  cases tg with
  | one i =>
    cases x <;> first | (cases h; done) | skip
    unfold kTg at h
    simp only [Bool.and_eq_true] at h
    exact pg_name C.nd (at_by C h.1) (hs _ h.2).1 (hs _ h.2).2
  | many is =>
    cases x <;> first | (cases h; done) | skip
    obtain ⟨g, l, f⟩ := names_by C hs is _ h
    exact pg_tup C.calm g l f
theorem XC.blk (C : XC X c Γ) {scope : Scope} (hk : scope.kind = .function) (s : Shared) (H : Hp) (Cc : Addr) (cl : List (Str × Addr)) (fp : List Addr) : XC (X.blk s H scope (compEnvC scope cl Cc X.env) fp) c Γ :=
  ⟨C.hN, C.nd, C.calm, C.un, hk, C.fn, fun i p e => (C.ok i p e).ex |> fun h => ⟨h⟩, C.mg, C.cs⟩
theorem blk_scope {scope : Scope} {cl : List (Str × Addr)} {Cc : Addr} {env : PySem.Env} {sc : Scope} (hs : env.scope = sc) : (compEnvC scope cl Cc env).scope = relS scope sc := by
  subst hs; rfl
theorem okset_blk {scope sc : Scope} (hs : X.env.scope = sc) (s : Shared) (H : Hp) (Cc : Addr) (cl : List (Str × Addr)) (fp : List Addr) : OkSet (X.blk s H scope (compEnvC scope cl Cc X.env) fp) (setL scope sc) := fun x h => by
  unfold setL at h
  rw [Bool.or_eq_true, Bool.and_eq_true, decide_eq_true_eq, decide_eq_true_eq, decide_eq_true_eq] at h
  unfold L2.Loc
  show ((compEnvC scope cl Cc X.env).scope.names.lookup x = _ ∨ (compEnvC scope cl Cc X.env).scope.names.lookup x = _) ∧ ((scope.names.lookup x == some .cell) = true ∨ (compEnvC scope cl Cc X.env).scope.names.lookup x = _)
  rw [blk_scope hs]
  rcases h with h | ⟨h1, h2⟩
  · exact ⟨.inl h, .inr h⟩
  · exact ⟨.inr h1, .inl (by rw [h2]; rfl)⟩
theorem pl_by {X : Cx} {s : Src} {tg : Tg} {x : Expr} (h : (s.pl || (tg.isMany && isTup x)) = true) : (s.pl = true ∨ tg.isMany = true) ∧ (s.pl = true ∨ ∃ es k p, x = .Tuple es k p) := by
  simp only [Bool.or_eq_true, Bool.and_eq_true] at h
  rcases h with h | ⟨h1, h2⟩
  · exact ⟨.inl h, .inl h⟩
  · refine ⟨.inr h1, .inr ?_⟩
    cases x <;> first | (cases h2; done) | skip
    exact ⟨_, _, _, rfl⟩
theorem blt_mg (C : XC X c Γ) {x : Str} (h : x ∈ bltNames) : X.mg x = none := C.mg x h
theorem isi_by {T : String} {x : Str} (h : isiOk T x = true) : bootBuiltins x = some (.type T) ∧ x ∈ bltNames := by
  unfold isiOk at h
  split at h <;> first | (cases h; done) | skip
  all_goals
    have e := of_decide_eq_true h
    subst e
    refine ⟨?_, by decide +kernel⟩
  · exact boot_int
  · exact boot_str
  · exact boot_bool
  · exact boot_list
  · exact boot_tuple
  · exact boot_dict
theorem bi_by {b : Bi} (h : plainBi b = true) : bootBuiltins (biName b) = some (biFn b) ∧ biName b ∈ bltNames := by
  cases b <;> first | (cases h; done) | exact ⟨by decide +kernel, by decide +kernel⟩
end
end Pl

namespace Pl
open PySem PySem.Spec PyProof.Rows L2

def SE (Γ : Env) (c : Cfg) (e : E) : Prop := ∀ (X : Cx) (sc : Scope) (x : Expr), XC X c Γ → X.env.scope = sc → kE c sc e x = true → ∀ G : Gh, LE X G x (wE Γ e) ∧ (nIte x = true → LT X G x (asT (wE Γ e)))
def SEs (Γ : Env) (c : Cfg) (es : Es) : Prop := ∀ (X : Cx) (sc : Scope) (xs : List Expr), XC X c Γ → X.env.scope = sc → kEs c sc es xs = true → ∀ G : Gh, LA X G xs (wEs Γ es) ∧ xs.all nSt = true ∧
  (xs.isEmpty = false → xs.all nIte = true → ∀ pos, (LE X G (.BoolOp .And xs pos) (wAnd Γ es) ∧ PW X (.BoolOp .And xs pos) (liftT G (asT (wAnd Γ es)))) ∧ LE X G (.BoolOp .Or xs pos) (wOr Γ es) ∧ PW X (.BoolOp .Or xs pos) (liftT G (asT (wOr Γ es))))
def SEo (Γ : Env) (c : Cfg) (o : Eo) : Prop := ∀ (X : Cx) (sc : Scope), XC X c Γ → X.env.scope = sc → (∀ x, kEo c sc o x = true → ∀ G : Gh, PO X x (liftO G (wEo Γ o))) ∧ ∀ xs, kIfs c sc o xs = true → PTs X xs (anyT (wCond Γ o))
def SSr (Γ : Env) (c : Cfg) (s : Src) : Prop := ∀ (X : Cx) (sc : Scope) (tg x : Expr), XC X c Γ → X.env.scope = sc → kSrc c sc s x = true → (s.pl = true ∨ ∃ es k p, tg = .Tuple es k p) → ∀ G : Gh, PI X tg x (liftI G s.pl (wSrc Γ s))

theorem stars_by {env : PySem.Env} : ∀ {xs : List Expr}, xs.all nSt = true → ∀ pos : Pos, (backTo pos (starEach xs env)).any (·.1) = false
  | [], _, _ => rfl
  | x :: xs, h, pos => by
    simp only [List.all_cons, Bool.and_eq_true] at h
    rw [star_by h.1]
    show (false || (backTo pos (starEach xs env)).any (·.1)) = false
    rw [stars_by h.2 pos]; rfl
section
variable {X : Cx} {c : Cfg} {Γ : Env} {G : Gh}
theorem lt_plain {x : Expr} {w : LTE} (h : LE X G x w) (hx : match x with
    | .UnaryOp .Not _ _ => False
    | .BoolOp .. => False
    | .IfExp .. => False
    | .Compare .. => False
    | _ => True) : LT X G x (asT w) := by
  refine lt_val h fun whole => ?_
  cases x <;> first | rfl | exact False.elim hx | skip
  rename_i op a p
  cases op <;> first | rfl | exact False.elim hx
theorem pts_any1 {x : Expr} {t : LTT} (h : ∀ G : Gh, LT X G x t) : PTs X [x] (anyT t) := pts_one (pt_any h)
theorem and_last {x : Expr} {w : LTE} (h : LE X G x w) (ht : LT X G x (asT w)) (pos : Pos) (op : BoolOp) {v : LTE}
    (hv : ∀ ρ η Q, v ρ η Q → w ρ η fun u η1 => match u with
      | .dat (.bool b) => Q (.dat (.bool b)) η1
      | _ => False) : LE X G (.BoolOp op [x] pos) v ∧ PW X (.BoolOp op [x] pos) (liftT G (asT v)) := by
  have low : ∀ ρ η Q, asT v ρ η Q → asT w ρ η Q := by
    intro ρ η Q q
    have h1 := hv ρ η _ q
    refine Eq.mp (congrArg (w ρ η) ?_) h1
    funext u η1
    rcases u with d | n | o
    · cases d <;> rfl
    · rfl
    · rfl
  refine ⟨boolOnly (le_one h) hv, ?_⟩
  cases op with
  | And => exact (pw_and1 ht).weak (by
      rintro σ H Q ⟨ρ, L, Z, η, Qp, S, s, t, k⟩
      exact ⟨ρ, L, Z, η, Qp, S, s, low _ _ _ t, k⟩)
  | Or => exact (pw_or1 ht).weak (by
      rintro σ H Q ⟨ρ, L, Z, η, Qp, S, s, t, k⟩
      exact ⟨ρ, L, Z, η, Qp, S, s, low _ _ _ t, k⟩)
end
theorem and_nil {w : LTE} : ∀ (ρ : Sl) (η : Reg) (Q : Vl → Reg → Prop), (w ρ η fun v η1 => match v with
    | .dat (.bool b) => if b = true then Q (.dat (.bool true)) η1 else Q (.dat (.bool false)) η1
    | _ => False) → w ρ η fun u η1 => match u with
      | .dat (.bool b) => Q (.dat (.bool b)) η1
      | _ => False := by
  intro ρ η Q h
  refine Eq.mp (congrArg (w ρ η) ?_) h
  funext u η1
  rcases u with d | n | o
  · cases d with
    | bool b => cases b <;> rfl
    | _ => rfl
  · rfl
  · rfl

mutual
theorem sE (Γ : Env) (c : Cfg) : ∀ e : E, SE Γ c e
  | .var i => by
    intro X sc x C hs h G
    unfold kE at h
    split at h <;> first | (cases h; done) | skip
    rename_i n p
    simp only [Bool.and_eq_true, Bool.not_eq_true'] at h
    obtain ⟨⟨⟨h1, h2⟩, h3⟩, h4⟩ := h
    have r := le_var (Γ := Γ) (G := G) (pos := p) (at_by C h1) (vis_by h2 hs) h3 h4
    exact ⟨r, fun _ => lt_plain r trivial⟩
  | .lit d => by
    intro X sc x C hs h G
    unfold kE at h
    split at h <;> first | (cases h; done) | skip
    obtain ⟨v, h1, h2⟩ := lit_by (X := X) h
    suffices r : LE X G _ (wE Γ (.lit d)) from ⟨r, fun _ => lt_plain r trivial⟩
    exact le_const (Γ := Γ) h1 h2 (by unfold wE; rfl)
  | .con y d => by
    intro X sc x C hs h G
    unfold kE at h
    split at h <;> first | (cases h; done) | skip
    simp only [Bool.and_eq_true, decide_eq_true_eq, List.any_eq_true] at h
    obtain ⟨⟨rfl, h2⟩, ⟨z, d'⟩, hm, h3, h4⟩ := h
    obtain ⟨g, hd, _⟩ := glb_by h2 hs
    have e := flat_by h4
    subst e
    subst h3
    obtain ⟨u, v, k1, k2, k3⟩ := C.cs _ _ hm
    suffices r : LE X G _ (wE Γ (.con z d')) from ⟨r, fun _ => lt_plain r trivial⟩
    exact le_const (Γ := Γ) (pe_glob g k1 k2 hd) k3 (by unfold wE; rfl)
  | .bop o a b => by
    intro X sc x C hs h G
    unfold kE at h
    split at h <;> first | (cases h; done) | skip
    simp only [Bool.and_eq_true, decide_eq_true_eq] at h
    obtain ⟨⟨rfl, h1⟩, h2⟩ := h
    have ra := sE Γ c a X sc _ C hs h1 G
    have rb := sE Γ c b X sc _ C hs h2 G
    suffices r : LE X G _ (wE Γ (.bop o a b)) from ⟨r, fun _ => lt_plain r trivial⟩
    unfold wE
    exact le_bop o ra.1 rb.1
  | .neg a => by
    intro X sc x C hs h G
    unfold kE at h
    split at h <;> first | (cases h; done) | skip
    have ra := sE Γ c a X sc _ C hs h G
    suffices r : LE X G _ (wE Γ (.neg a)) from ⟨r, fun _ => lt_plain r trivial⟩
    unfold wE
    exact le_neg ra.1
  | .cmp o a b => by
    intro X sc x C hs h G
    unfold kE at h
    split at h <;> first | (cases h; done) | skip
    simp only [Bool.and_eq_true, decide_eq_true_eq, Bool.not_eq_true'] at h
    obtain ⟨⟨⟨rfl, h0⟩, h1⟩, h2⟩ := h
    have ra := sE Γ c a X sc _ C hs h1 G
    have rb := sE Γ c b X sc _ C hs h2 G
    unfold wE
    exact ⟨(le_cmp C.un o ra.1 rb.1 h0).1, fun _ => (le_cmp C.un o ra.1 rb.1 h0).2⟩
  | .chn o p a b d => by
    intro X sc x C hs h G
    unfold kE at h
    split at h <;> first | (cases h; done) | skip
    simp only [Bool.and_eq_true, decide_eq_true_eq, Bool.not_eq_true'] at h
    obtain ⟨⟨⟨⟨⟨rfl, rfl⟩, h0⟩, h1⟩, h2⟩, h3⟩ := h
    have ra := sE Γ c a X sc _ C hs h1 G
    have rb := sE Γ c b X sc _ C hs h2 G
    have rd := sE Γ c d X sc _ C hs h3 G
    unfold wE
    exact ⟨(le_chn C.un o p ra.1 rb.1 rd.1 h0).1, fun _ => (le_chn C.un o p ra.1 rb.1 rd.1 h0).2⟩
  | .and a es => by
    intro X sc x C hs h G
    unfold kE at h
    split at h <;> first | (cases h; done) | skip
    rename_i x1 y1 xs1 pos1
    simp only [Bool.and_eq_true] at h
    obtain ⟨⟨h0, h1⟩, h2⟩ := h
    have h0' := h0
    rw [List.all_cons, Bool.and_eq_true] at h0'
    have ra := sE Γ c a X sc _ C hs h1 G
    have rb := ((sEs Γ c es X sc _ C hs h2 G).2.2 rfl h0'.2 pos1).1
    unfold wE
    exact ⟨le_and ra.1 rb.1, fun _ => (lw_and (ra.2 h0'.1) rb.2).pt⟩
  | .or a es => by
    intro X sc x C hs h G
    unfold kE at h
    split at h <;> first | (cases h; done) | skip
    rename_i x1 y1 xs1 pos1
    simp only [Bool.and_eq_true] at h
    obtain ⟨⟨h0, h1⟩, h2⟩ := h
    have h0' := h0
    rw [List.all_cons, Bool.and_eq_true] at h0'
    have ra := sE Γ c a X sc _ C hs h1 G
    have rb := ((sEs Γ c es X sc _ C hs h2 G).2.2 rfl h0'.2 pos1).2
    unfold wE
    exact ⟨le_or ra.1 rb.1, fun _ => (lw_or (ra.2 h0'.1) rb.2).pt⟩
  | .not a => by
    intro X sc x C hs h G
    unfold kE at h
    split at h <;> first | (cases h; done) | skip
    simp only [Bool.and_eq_true] at h
    have ra := sE Γ c a X sc _ C hs h.2 G
    unfold wE
    exact ⟨le_not ra.1, fun _ => lt_not (ra.2 h.1)⟩
  | .ite t a b => by
    intro X sc x C hs h G
    unfold kE at h
    split at h <;> first | (cases h; done) | skip
    simp only [Bool.and_eq_true] at h
    obtain ⟨⟨⟨h0, h1⟩, h2⟩, h3⟩ := h
    have rt := sE Γ c t X sc _ C hs h1 G
    have ra := sE Γ c a X sc _ C hs h2 G
    have rb := sE Γ c b X sc _ C hs h3 G
    unfold wE
    exact ⟨le_ite (rt.2 h0) ra.1 rb.1, fun z => nomatch z⟩
  | .tup es => by
    intro X sc x C hs h G
    unfold kE at h
    split at h <;> first | (cases h; done) | skip
    have ra := sEs Γ c es X sc _ C hs h G
    suffices r : LE X G _ (wE Γ (.tup es)) from ⟨r, fun _ => lt_plain r trivial⟩
    unfold wE
    exact le_tup ra.1
  | .lst es => by
    intro X sc x C hs h G
    unfold kE at h
    split at h <;> first | (cases h; done) | skip
    have ra := sEs Γ c es X sc _ C hs h G
    suffices r : LE X G _ (wE Γ (.lst es)) from ⟨r, fun _ => lt_plain r trivial⟩
    unfold wE
    exact le_lst ra.1
  | .idx a b => by
    intro X sc x C hs h G
    unfold kE at h
    split at h <;> first | (cases h; done) | skip
    simp only [Bool.and_eq_true] at h
    obtain ⟨⟨h0, h1⟩, h2⟩ := h
    have ra := sE Γ c a X sc _ C hs h1 G
    have rb := sE Γ c b X sc _ C hs h2 G
    suffices r : LE X G _ (wE Γ (.idx a b)) from ⟨r, fun _ => lt_plain r trivial⟩
    unfold wE
    exact le_idx ra.1 rb.1 (ix_by h0)
  | .sli a lo hi => by
    intro X sc x C hs h G
    unfold kE at h
    split at h <;> first | (cases h; done) | skip
    simp only [Bool.and_eq_true] at h
    obtain ⟨⟨h0, h1⟩, h2⟩ := h
    have ra := sE Γ c a X sc _ C hs h0 G
    have rl := (sEo Γ c lo X sc C hs).1 _ h1 G
    have rh := (sEo Γ c hi X sc C hs).1 _ h2 G
    suffices r : LE X G _ (wE Γ (.sli a lo hi)) from ⟨r, fun _ => lt_plain r trivial⟩
    unfold wE
    exact le_sli ra.1 rl rh
  | .call f es => by
    intro X sc x C hs h G
    unfold kE at h
    split at h <;> first | (cases h; done) | skip
    rename_i n p xs pos
    simp only [Bool.and_eq_true, decide_eq_true_eq] at h
    obtain ⟨⟨h0, h1⟩, h2⟩ := h
    obtain ⟨g, hd, _⟩ := glb_by h1 hs
    obtain ⟨ra, st, _⟩ := sEs Γ c es X sc _ C hs h2 G
    rw [← C.fn, List.getElem?_map] at h0
    have r : LE X G (.Call (.Name n p) xs [] pos) (wE Γ (.call f es)) := by
      unfold wE
      cases hf : Γ[f]? with
      | none => rw [hf] at h0; cases h0
      | some q =>
        rw [hf] at h0
        have hn : q.1 = n := Option.some.inj h0
        subst hn
        have F := C.ok f q hf
        have e : (fun (ρ : Sl) (η : Reg) (Q : Vl → Reg → Prop) => wEs Γ es ρ η fun vs η1 => callN Γ f vs η1 Q) = (fun ρ η Q => wEs Γ es ρ η fun vs η1 => callW q.2 vs η1 Q) := by
          funext ρ η Q
          simp only [callN, hf]
        rw [e]
        cases xs with
        | nil =>
          cases es with
          | nil => unfold wEs; exact le_call0 F g hd
          | cons e es => exact absurd h2 (by unfold kEs; exact Bool.false_ne_true)
        | cons y ys =>
          rw [List.all_cons, Bool.and_eq_true] at st
          exact le_call F g ra hd (star_by st.1) (stars_by st.2 pos)
    exact ⟨r, fun _ => lt_plain r trivial⟩
  | .bi b es => by
    intro X sc x C hs h G
    unfold kE at h
    split at h <;> first | (cases h; done) | skip
    rename_i n p xs pos
    have r : LE X G (.Call (.Name n p) xs [] pos) (wE Γ (.bi b es)) := by
      cases b with
      | isi T =>
        dsimp only at h
        split at h <;> first | (cases h; done) | skip
        rename_i y m pm
        simp only [Bool.and_eq_true, decide_eq_true_eq] at h
        obtain ⟨⟨⟨⟨rfl, h1⟩, h2⟩, h3⟩, h4⟩ := h
        obtain ⟨g, hd, _⟩ := glb_by h1 hs
        obtain ⟨g2, hd2, hn2⟩ := glb_by h2 hs
        obtain ⟨hb, hmm⟩ := isi_by h3
        cases es with
        | nil => exact absurd h4 (by unfold kEs; exact Bool.false_ne_true)
        | cons e es =>
          unfold kEs at h4
          simp only [Bool.and_eq_true] at h4
          obtain ⟨⟨h5, h6⟩, h7⟩ := h4
          cases es with
          | cons e2 es => exact absurd h7 (by unfold kEs; exact Bool.false_ne_true)
          | nil =>
            have ra := sE Γ c e X sc _ C hs h6 G
            simp only [wE, wEs]
            exact le_isi ra.1 g (C.mg _ (by decide +kernel)) g2 (C.mg _ hmm) hb hn2 hd2 (star_by h5)
      | sorted =>
        dsimp only at h
        split at h <;> first | (cases h; done) | skip
        simp only [Bool.and_eq_true, decide_eq_true_eq] at h
        obtain ⟨⟨rfl, h1⟩, h2⟩ := h
        obtain ⟨g, hd, _⟩ := glb_by h1 hs
        obtain ⟨ra, st, _⟩ := sEs Γ c es X sc _ C hs h2 G
        rw [List.all_cons, Bool.and_eq_true] at st
        unfold wE
        exact le_sorted C.un g (C.mg _ (by decide +kernel)) ra (star_by st.1)
      | rlist1 =>
        dsimp only at h
        split at h <;> first | (cases h; done) | skip
        simp only [Bool.and_eq_true, decide_eq_true_eq] at h
        obtain ⟨⟨⟨⟨rfl, rfl⟩, h1⟩, h2⟩, h4⟩ := h
        obtain ⟨g, hd, _⟩ := glb_by h1 hs
        obtain ⟨g2, hd2, hn2⟩ := glb_by h2 hs
        cases es with
        | nil => exact absurd h4 (by unfold kEs; exact Bool.false_ne_true)
        | cons e es =>
          unfold kEs at h4
          simp only [Bool.and_eq_true] at h4
          obtain ⟨⟨h5, h6⟩, h7⟩ := h4
          cases es with
          | cons e2 es => exact absurd h7 (by unfold kEs; exact Bool.false_ne_true)
          | nil =>
            have ra := sE Γ c e X sc _ C hs h6 G
            simp only [wE, wEs]
            exact le_rlist1 C.calm g (C.mg _ (by decide +kernel)) g2 (C.mg _ (by decide +kernel)) ra.1 (star_by h5)
      | rtup1 =>
        dsimp only at h
        split at h <;> first | (cases h; done) | skip
        simp only [Bool.and_eq_true, decide_eq_true_eq] at h
        obtain ⟨⟨⟨⟨rfl, rfl⟩, h1⟩, h2⟩, h4⟩ := h
        obtain ⟨g, hd, _⟩ := glb_by h1 hs
        obtain ⟨g2, hd2, hn2⟩ := glb_by h2 hs
        cases es with
        | nil => exact absurd h4 (by unfold kEs; exact Bool.false_ne_true)
        | cons e es =>
          unfold kEs at h4
          simp only [Bool.and_eq_true] at h4
          obtain ⟨⟨h5, h6⟩, h7⟩ := h4
          cases es with
          | cons e2 es => exact absurd h7 (by unfold kEs; exact Bool.false_ne_true)
          | nil =>
            have ra := sE Γ c e X sc _ C hs h6 G
            simp only [wE, wEs]
            exact le_rtup1 C.calm g (C.mg _ (by decide +kernel)) g2 (C.mg _ (by decide +kernel)) ra.1 (star_by h5)
      | rlist2 =>
        dsimp only at h
        split at h <;> first | (cases h; done) | skip
        simp only [Bool.and_eq_true, decide_eq_true_eq] at h
        obtain ⟨⟨⟨⟨rfl, rfl⟩, h1⟩, h2⟩, h4⟩ := h
        obtain ⟨g, hd, _⟩ := glb_by h1 hs
        obtain ⟨g2, hd2, hn2⟩ := glb_by h2 hs
        cases es with
        | nil => exact absurd h4 (by unfold kEs; exact Bool.false_ne_true)
        | cons e es =>
          unfold kEs at h4
          simp only [Bool.and_eq_true] at h4
          obtain ⟨⟨h5, h6⟩, h4⟩ := h4
          cases es with
          | nil => exact absurd h4 (by unfold kEs; exact Bool.false_ne_true)
          | cons e2 es =>
            unfold kEs at h4
            simp only [Bool.and_eq_true] at h4
            obtain ⟨⟨h8, h9⟩, h7⟩ := h4
            cases es with
            | cons e3 es => exact absurd h7 (by unfold kEs; exact Bool.false_ne_true)
            | nil =>
              have ra := sE Γ c e X sc _ C hs h6 G
              have rb := sE Γ c e2 X sc _ C hs h9 G
              simp only [wE, wEs]
              exact le_rlist2 C.calm g (C.mg _ (by decide +kernel)) g2 (C.mg _ (by decide +kernel)) ra.1 rb.1 (star_by h5) (star_by h8)
      | rtup2 =>
        dsimp only at h
        split at h <;> first | (cases h; done) | skip
        simp only [Bool.and_eq_true, decide_eq_true_eq] at h
        obtain ⟨⟨⟨⟨rfl, rfl⟩, h1⟩, h2⟩, h4⟩ := h
        obtain ⟨g, hd, _⟩ := glb_by h1 hs
        obtain ⟨g2, hd2, hn2⟩ := glb_by h2 hs
        cases es with
        | nil => exact absurd h4 (by unfold kEs; exact Bool.false_ne_true)
        | cons e es =>
          unfold kEs at h4
          simp only [Bool.and_eq_true] at h4
          obtain ⟨⟨h5, h6⟩, h4⟩ := h4
          cases es with
          | nil => exact absurd h4 (by unfold kEs; exact Bool.false_ne_true)
          | cons e2 es =>
            unfold kEs at h4
            simp only [Bool.and_eq_true] at h4
            obtain ⟨⟨h8, h9⟩, h7⟩ := h4
            cases es with
            | cons e3 es => exact absurd h7 (by unfold kEs; exact Bool.false_ne_true)
            | nil =>
              have ra := sE Γ c e X sc _ C hs h6 G
              have rb := sE Γ c e2 X sc _ C hs h9 G
              simp only [wE, wEs]
              exact le_rtup2 C.calm g (C.mg _ (by decide +kernel)) g2 (C.mg _ (by decide +kernel)) ra.1 rb.1 (star_by h5) (star_by h8)
      | _ =>
        simp only [Bool.and_eq_true, decide_eq_true_eq, Bool.not_eq_true'] at h
        obtain ⟨⟨⟨rfl, h1⟩, h2⟩, h3⟩ := h
        obtain ⟨g, hd, hn⟩ := glb_by h1 hs
        obtain ⟨ra, st, _⟩ := sEs Γ c es X sc _ C hs h3 G
        cases xs with
        | nil => cases h2
        | cons y ys =>
          rw [List.all_cons, Bool.and_eq_true] at st
          unfold wE
          first
          | exact (pe_callB (ok_bi C.calm .len) g (C.mg _ (by decide +kernel)) (bi_by (b := .len) rfl).1 ra hn hd (star_by st.1) (stars_by st.2 pos)).weak (bi_low trivial)
          | exact (pe_callTy (ok_bi C.calm .int) g (C.mg _ (by decide +kernel)) (bi_by (b := .int) rfl).1 ra hn hd (star_by st.1) (stars_by st.2 pos)).weak (bi_low trivial)
          | exact (pe_callB (ok_bi C.calm .abs) g (C.mg _ (by decide +kernel)) (bi_by (b := .abs) rfl).1 ra hn hd (star_by st.1) (stars_by st.2 pos)).weak (bi_low trivial)
          | exact (pe_callB (ok_bi C.calm .sum) g (C.mg _ (by decide +kernel)) (bi_by (b := .sum) rfl).1 ra hn hd (star_by st.1) (stars_by st.2 pos)).weak (bi_low trivial)
          | exact (pe_callB (ok_bi C.calm .min1) g (C.mg _ (by decide +kernel)) (bi_by (b := .min1) rfl).1 ra hn hd (star_by st.1) (stars_by st.2 pos)).weak (bi_low trivial)
          | exact (pe_callB (ok_bi C.calm .max1) g (C.mg _ (by decide +kernel)) (bi_by (b := .max1) rfl).1 ra hn hd (star_by st.1) (stars_by st.2 pos)).weak (bi_low trivial)
          | exact (pe_callB (ok_bi C.calm .min2) g (C.mg _ (by decide +kernel)) (bi_by (b := .min2) rfl).1 ra hn hd (star_by st.1) (stars_by st.2 pos)).weak (bi_low trivial)
          | exact (pe_callB (ok_bi C.calm .max2) g (C.mg _ (by decide +kernel)) (bi_by (b := .max2) rfl).1 ra hn hd (star_by st.1) (stars_by st.2 pos)).weak (bi_low trivial)
          | exact (pe_callB (ok_bi C.calm .all) g (C.mg _ (by decide +kernel)) (bi_by (b := .all) rfl).1 ra hn hd (star_by st.1) (stars_by st.2 pos)).weak (bi_low trivial)
          | exact (pe_callB (ok_bi C.calm .any) g (C.mg _ (by decide +kernel)) (bi_by (b := .any) rfl).1 ra hn hd (star_by st.1) (stars_by st.2 pos)).weak (bi_low trivial)
          | exact (pe_callTy (ok_bi C.calm .list) g (C.mg _ (by decide +kernel)) (bi_by (b := .list) rfl).1 ra hn hd (star_by st.1) (stars_by st.2 pos)).weak (bi_low trivial)
          | exact (pe_callTy (ok_bi C.calm .tuple) g (C.mg _ (by decide +kernel)) (bi_by (b := .tuple) rfl).1 ra hn hd (star_by st.1) (stars_by st.2 pos)).weak (bi_low trivial)
    exact ⟨r, fun _ => lt_plain r trivial⟩
  | .met m a es => by
    intro X sc x C hs h G
    unfold kE at h
    split at h <;> first | (cases h; done) | skip
    rename_i o name apos xs cpos
    simp only [Bool.and_eq_true, decide_eq_true_eq] at h
    obtain ⟨⟨⟨⟨⟨h0, h1⟩, h2⟩, h3⟩, h4⟩, h5⟩ := h
    have ra := sE Γ c a X sc _ C hs h4 G
    obtain ⟨rs, st, _⟩ := sEs Γ c es X sc _ C hs h5 G
    have r : LE X G (.Call (.Attribute o name apos) xs [] cpos) (wE Γ (.met m a es)) := by
      unfold wE
      rcases xs with _ | ⟨y, _ | ⟨z, ys⟩⟩
      · cases es with
        | nil => unfold wEs; exact le_met0 C.un m h0 ra.1 (base_by h1) h2
        | cons e es => exact absurd h5 (by unfold kEs; exact Bool.false_ne_true)
      · rw [List.all_cons, Bool.and_eq_true] at st
        exact le_met1 C.un m h0 ra.1 rs (base_by h1) h2 (star_by st.1)
      · simp at h3
    exact ⟨r, fun _ => lt_plain r trivial⟩
  | .lc tg own s cd e => by
    intro X sc x C hs h G
    unfold kE at h
    split at h <;> first | (cases h; done) | skip
    rename_i elt tge iter ifs scope pos
    simp only [Bool.and_eq_true, decide_eq_true_eq, List.all_eq_true] at h
    obtain ⟨⟨⟨⟨⟨⟨⟨⟨h1, h2⟩, h3⟩, h4⟩, h5⟩, h6⟩, h7⟩, h8⟩, h9⟩ := h
    obtain ⟨p1, p2⟩ := pl_by (X := X) h6
    have ok : BlkOk X.N X.env.scope scope (ownP c.N own) := by
      rw [C.hN, hs]; exact blkOk_by h1
    have ri := sSr Γ c s X sc tge iter C hs h7 p2 G
    have r : LE X G (.ListComp elt [⟨tge, iter, ifs, 0⟩] scope pos) (wE Γ (.lc tg own s cd e)) := by
      have base := pe_lc (pos := pos) (te := anyE (wE Γ e)) (tt := anyT (wCond Γ cd)) (g := tgR X.K tg) C.calm C.nd ri ok
        (fun s H Cc cl fp => tg_by (C.blk ok.kind s H Cc cl fp) (okset_blk hs s H Cc cl fp) h3)
        (fun s H Cc cl fp => (sEo Γ c cd _ _ (C.blk ok.kind s H Cc cl fp) (blk_scope hs)).2 _ h8)
        (fun s H Cc cl fp => pe_any fun G' => (sE Γ c e _ _ _ (C.blk ok.kind s H Cc cl fp) (blk_scope hs) h9 G').1)
        (fun x => set_by h5)
      rw [h2] at base
      refine base.weak fun σ H Q q => lc_low p1 h4 ?_
      unfold wE at q
      exact q
    exact ⟨r, fun _ => lt_plain r trivial⟩
theorem sEs (Γ : Env) (c : Cfg) : ∀ es : Es, SEs Γ c es
  | .nil => by
    intro X sc xs C hs h G
    unfold kEs at h
    split at h <;> first | (cases h; done) | skip
    unfold wEs
    exact ⟨la_nil, rfl, fun z => nomatch z⟩
  | .cons e es => by
    intro X sc xs C hs h G
    unfold kEs at h
    split at h <;> first | (cases h; done) | skip
    rename_i x xs
    simp only [Bool.and_eq_true] at h
    obtain ⟨⟨h0, h1⟩, h2⟩ := h
    have ra := sE Γ c e X sc _ C hs h1 G
    obtain ⟨rs, st, rb⟩ := sEs Γ c es X sc _ C hs h2 G
    refine ⟨?_, ?_, fun _ hi pos => ?_⟩
    · unfold wEs
      exact la_cons ra.1 rs (star_by h0)
    · rw [List.all_cons, h0, st]; rfl
    · rw [List.all_cons, Bool.and_eq_true] at hi
      cases xs with
      | nil =>
        cases es with
        | cons e2 es => exact absurd h2 (by unfold kEs; exact Bool.false_ne_true)
        | nil =>
          simp only [wAnd, wOr]
          exact ⟨and_last ra.1 (ra.2 hi.1) pos .And and_nil, and_last ra.1 (ra.2 hi.1) pos .Or and_nil⟩
      | cons y ys =>
        obtain ⟨⟨a1, a2⟩, o1, o2⟩ := rb rfl hi.2 pos
        refine ⟨?_, ?_⟩
        · unfold wAnd
          exact ⟨le_and ra.1 a1, lw_and (ra.2 hi.1) a2⟩
        · unfold wOr
          exact ⟨le_or ra.1 o1, lw_or (ra.2 hi.1) o2⟩
theorem sEo (Γ : Env) (c : Cfg) : ∀ o : Eo, SEo Γ c o
  | .no => by
    intro X sc C hs
    refine ⟨fun x h G => ?_, fun xs h => ?_⟩
    · unfold kEo at h
      split at h <;> first | (cases h; done) | skip
      unfold wEo
      exact lo_none
    · unfold kIfs at h
      split at h <;> first | (cases h; done) | skip
      unfold wCond
      exact pts_any0
  | .so e => by
    intro X sc C hs
    refine ⟨fun x h G => ?_, fun xs h => ?_⟩
    · unfold kEo at h
      split at h <;> first | (cases h; done) | skip
      have ra := sE Γ c e X sc _ C hs h G
      unfold wEo
      exact lo_some ra.1
    · unfold kIfs at h
      split at h <;> first | (cases h; done) | skip
      rw [Bool.and_eq_true] at h
      unfold wCond
      exact pts_any1 fun G => (sE Γ c e X sc _ C hs h.2 G).2 h.1
theorem sSr (Γ : Env) (c : Cfg) : ∀ s : Src, SSr Γ c s
  | .seq a => by
    intro X sc tg x C hs h p G
    unfold kSrc at h
    have ra := sE Γ c a X sc _ C hs h G
    unfold wSrc
    exact li_seq ra.1
  | .rng1 a => by
    intro X sc tg x C hs h p G
    unfold kSrc at h
    split at h <;> first | (cases h; done) | skip
    simp only [Bool.and_eq_true, decide_eq_true_eq] at h
    obtain ⟨⟨⟨rfl, h1⟩, h2⟩, h3⟩ := h
    obtain ⟨g, hd, _⟩ := glb_by h1 hs
    have ra := sE Γ c a X sc _ C hs h3 G
    unfold wSrc
    exact li_rng1 g (C.mg _ (by decide +kernel)) ra.1 (star_by h2)
  | .rng2 a b => by
    intro X sc tg x C hs h p G
    unfold kSrc at h
    split at h <;> first | (cases h; done) | skip
    simp only [Bool.and_eq_true, decide_eq_true_eq] at h
    obtain ⟨⟨⟨⟨⟨rfl, h1⟩, h2⟩, h3⟩, h4⟩, h5⟩ := h
    obtain ⟨g, hd, _⟩ := glb_by h1 hs
    have ra := sE Γ c a X sc _ C hs h4 G
    have rb := sE Γ c b X sc _ C hs h5 G
    unfold wSrc
    exact li_rng2 g (C.mg _ (by decide +kernel)) ra.1 rb.1 (star_by h2) (star_by h3)
  | .zip a b => by
    intro X sc tg x C hs h p G
    unfold kSrc at h
    split at h <;> first | (cases h; done) | skip
    simp only [Bool.and_eq_true, decide_eq_true_eq] at h
    obtain ⟨⟨⟨⟨⟨rfl, h1⟩, h2⟩, h3⟩, h4⟩, h5⟩ := h
    obtain ⟨g, hd, _⟩ := glb_by h1 hs
    have ra := sE Γ c a X sc _ C hs h4 G
    have rb := sE Γ c b X sc _ C hs h5 G
    rcases p with p | ⟨es, k, tp, rfl⟩
    · cases p
    unfold wSrc
    exact li_zip g (C.mg _ (by decide +kernel)) ra.1 rb.1 (star_by h2) (star_by h3)
  | .enum a => by
    intro X sc tg x C hs h p G
    unfold kSrc at h
    split at h <;> first | (cases h; done) | skip
    simp only [Bool.and_eq_true, decide_eq_true_eq] at h
    obtain ⟨⟨⟨rfl, h1⟩, h2⟩, h3⟩ := h
    obtain ⟨g, hd, _⟩ := glb_by h1 hs
    have ra := sE Γ c a X sc _ C hs h3 G
    rcases p with p | ⟨es, k, tp, rfl⟩
    · cases p
    unfold wSrc
    exact li_enum g (C.mg _ (by decide +kernel)) ra.1 (star_by h2)
end
end Pl

namespace Pl
open PySem PySem.Spec PyProof.Rows L2

def Gd (G : Gh) (gd : List Nat) : Prop := ∀ n, n ∉ gd → G.A0 n = none
theorem Gd.loop {G : Gh} {gd gs : List Nat} {L : Loc} {Z : Hp} (h : Gd G gd) : Gd (G.loop gs L Z) (gs ++ gd) := fun n hn => by
  rw [List.mem_append, not_or] at hn
  show (if n ∈ gs then _ else G.A0 n) = none
  rw [if_neg hn.1]
  exact h n hn.2
def SS1 (Γ : Env) (c : Cfg) (st : S) : Prop := ∀ (X : Cx) (sc : Scope) (gd : List Nat) (x : Stmt), XC X c Γ → (PassesOwn (model X.prog X.w) X.A X.env X.xe ∧ ∀ x, X.fn x = true) → X.env.scope = sc → kS c sc gd st x = true → ∀ G : Gh, Gd G gd → LS X G x (wS Γ st)
def SSs (Γ : Env) (c : Cfg) (ss : Ss) : Prop := ∀ (X : Cx) (sc : Scope) (gd : List Nat) (xs : List Stmt), XC X c Γ → (PassesOwn (model X.prog X.w) X.A X.env X.xe ∧ ∀ x, X.fn x = true) → X.env.scope = sc → kSs c sc gd ss xs = true → ∀ G : Gh, Gd G gd → LSs X G xs (wSs Γ ss)

section
variable {X : Cx} {c : Cfg} {Γ : Env} {G : Gh}
theorem sw_by {sc : Scope} {v : Expr} {n : Str} {tp : Pos} {l : Nat} (hs : X.env.scope = sc) (hv : match v with
    | .SetComp .. => False
    | .DictComp .. => False
    | _ => True) : swapsWith v (some (.Name n tp)) l X.env = pure (match v with
      | .ListComp _ _ scope p => X.env.blockKind == .function && X.env.kindOf n == some .local && tp.line == v.pos.line && !(scope.names.any fun (m, k) => m == n && (k == .local || k == .cell))
      | _ => false) := by
  cases v <;> first | rfl | exact False.elim hv
/-- name = value -/
theorem asg_by (C : XC X c Γ) {sc : Scope} (hs : X.env.scope = sc) {i : Nat} {n : Str} {tp pos : Pos} {v : Expr} {e : E} (hf : ∀ x, X.fn x = true) (h1 : c.at i n = true) (h2 : setC sc n = true) (hv : (match v with
      | .ListComp .. => true
      | .SetComp .. => false
      | .DictComp .. => false
      | _ => true) = true) (h3 : kE c sc e v = true) : ∃ T : TE, PS X (.Assign [.Name n tp] v pos) (tAsg T (gName i)) ∧ ∀ σ H Q, liftE G (wE Γ e) σ H Q → T σ H Q := by
  have hl := okset_def hs hf n h2
  have ra := (sE Γ c e X sc v C hs h3 G).1
  by_cases hc : nComp v = true
  · exact ⟨_, ps_set C.nd (at_by C h1) hl.1 ra (comp_by _ hc) hl.2, fun _ _ _ q => q⟩
  · have : ∃ elt gs scope p, v = .ListComp elt gs scope p := by
      cases v <;> first | exact absurd rfl hc | (cases hv; done) | exact ⟨_, _, _, _, rfl⟩
    obtain ⟨elt, gs, scope, p, rfl⟩ := this
    have sw := sw_by (X := X) (v := .ListComp elt gs scope p) (n := n) (tp := tp) (l := pos.line) hs trivial
    dsimp only at sw
    cases hb : (X.env.blockKind == .function && X.env.kindOf n == some .local && tp.line == (Expr.ListComp elt gs scope p).pos.line && !(scope.names.any fun (m, k) => m == n && (k == .local || k == .cell))) with
    | false =>
      rw [hb] at sw
      exact ⟨_, ps_set C.nd (at_by C h1) hl.1 ra sw hl.2, fun _ _ _ q => q⟩
    | true =>
      rw [hb] at sw
      simp only [Bool.and_eq_true] at hb
      have hloc : X.env.scope.names.lookup n = some .local := eq_of_beq hb.1.1.2
      cases e <;> (try (exact absurd h3 (by unfold kE; exact Bool.false_ne_true)))
      rename_i tg own s cd e
      unfold kE at h3
      split at h3 <;> first | (cases h3; done) | skip
      rename_i elt' tge iter ifs scope' pos' heq
      cases heq
      simp only [Bool.and_eq_true, decide_eq_true_eq, List.all_eq_true] at h3
      obtain ⟨⟨⟨⟨⟨⟨⟨⟨k1, k2⟩, k3⟩, k4⟩, k5⟩, k6⟩, k7⟩, k8⟩, k9⟩ := h3
      obtain ⟨p1, p2⟩ := pl_by (X := X) k6
      have ok : BlkOk X.N X.env.scope scope (ownP c.N own) := by
        rw [C.hN, hs]; exact blkOk_by k1
      have ri := sSr Γ c s X sc tge iter C hs k7 p2 G
      refine ⟨_, ps_setLc (te := anyE (wE Γ e)) (tt := anyT (wCond Γ cd)) (g := tgR X.K tg) C.calm C.nd (at_by C h1) hloc sw ri ok
        (fun s H Cc cl fp => tg_by (C.blk ok.kind s H Cc cl fp) (okset_blk hs s H Cc cl fp) k3)
        (fun s H Cc cl fp => (sEo Γ c cd _ _ (C.blk ok.kind s H Cc cl fp) (blk_scope hs)).2 _ k8)
        (fun s H Cc cl fp => pe_any fun G' => (sE Γ c e _ _ _ (C.blk ok.kind s H Cc cl fp) (blk_scope hs) k9 G').1)
        (fun x => set_by k5), fun σ H Q q => ?_⟩
      rw [k2]
      refine lc_low p1 k4 ?_
      unfold wE at q
      exact q
theorem par_by {x y : Str} {px py pt p2 : Pos} {kt k2 : Nat} {a b : Expr} {env : PySem.Env} (hx : env.scope.names.lookup x = some .local) (hy : env.scope.names.lookup y = some .local) (hxy : x ≠ y) (hl : (px.line == py.line) = true)
    (hk : env.scope.kind = .function) (ha : nSt a = true) (hb : nSt b = true) (h1 : ([a, b].all (foldedForSure 8)) = false) (h2 : ([a, b].all (constantsAlone 8)) = false) :
    swappedStores [.Tuple [.Name x px, .Name y py] kt pt] (.Tuple [a, b] k2 p2) env = pure (some [x, y]) := by
  have hbk : env.blockKind = .function := by unfold Env.blockKind; rw [hk]; rfl
  have kx : env.kindOf x = some .local := hx
  have ky : env.kindOf y = some .local := hy
  have hl' : px.line = py.line := eq_of_beq hl
  have star : ∀ f : Expr → Bool, (∀ e, nSt e = true → f e = false) → ([a, b].any f) = false := fun f hf => by
    simp only [List.any_cons, List.any_nil, hf a ha, hf b hb]; rfl
  have names : ∀ f : Expr → Option Str, f (.Name x px) = some x → f (.Name y py) = some y → List.filterMap f [Expr.Name x px, Expr.Name y py] = [x, y] := fun f e1 e2 => by
    simp only [List.filterMap_cons, e1, e2, List.filterMap_nil]
  have hxb : (x == y) = false := by simpa using hxy
  have hyx : (y == x) = false := by
    simpa using fun e : y = x => hxy e.symm
  have e2 : ([x, y] : List Str).eraseDups.length = 2 := by
    simp [List.eraseDups, List.eraseDupsBy, List.eraseDupsBy.loop, hxb, hyx]
  unfold swappedStores
  dsimp only
  rw [star _ (by intro e he; cases e <;> first | rfl | cases he)]
  rw [names _ (by simp [kx, Expr.pos]) (by simp [ky, Expr.pos, hl'])]
  simp only [e2, hbk, h1, h2]
  rfl
end

mutual
theorem sS (Γ : Env) (c : Cfg) : ∀ st : S, SS1 Γ c st
  | .asg i r e => by
    intro X sc gd x C hp hs h G hG
    unfold kS at h
    split at h <;> first | (cases h; done) | skip
    simp only [Bool.and_eq_true] at h
    obtain ⟨⟨⟨⟨h1, h2⟩, h3⟩, h4⟩, h5⟩ := h
    obtain ⟨T, k1, k2⟩ := asg_by (G := G) C hs hp.2 h1 h2 h4 h5
    unfold wS
    refine ls_asg k1 k2 fun n e => ?_
    subst e
    exact hG n (of_decide_eq_true h3)
  | .asgT is e => by
    intro X sc gd x C hp hs h G hG
    unfold kS at h
    split at h <;> first | (cases h; done) | skip
    rename_i ts kt tp v pos
    simp only [Bool.and_eq_true] at h
    obtain ⟨⟨h1, h2⟩, h3⟩ := h
    by_cases hv : isTup v = true
    · have : ∃ vs k p, v = .Tuple vs k p := by
        cases v <;> first | (cases hv; done) | exact ⟨_, _, _, rfl⟩
      obtain ⟨vs, k, p, rfl⟩ := this
      dsimp only at h2
      split at h2 <;> first | (cases h2; done) | skip
      rename_i i j x px y py a b
      simp only [Bool.and_eq_true, decide_eq_true_eq, Bool.not_eq_true'] at h2
      obtain ⟨⟨⟨⟨⟨⟨⟨⟨⟨a1, a2⟩, b2⟩, b4⟩, a3⟩, a4⟩, a5⟩, a6⟩, a7⟩, a8⟩ := h2
      unfold kNames kNames at h1
      simp only [Bool.and_eq_true] at h1
      obtain ⟨⟨b1, _⟩, ⟨b3, _⟩, _⟩ := h1
      cases e <;> (try (exact absurd h3 (by unfold kE; exact Bool.false_ne_true)))
      rename_i es
      unfold kE at h3
      have ra := (sEs Γ c es X sc _ C hs h3 G).1
      have hx := loc_by b2 hs
      have hy := loc_by b4 hs
      have base := ps_par (pos := pos) (pt := tp) (kt := kt) (k2 := k) (pt2 := p) (px := px) (py := py) C.calm C.nd (at_by C b1) (at_by C b3) a1 hx hy ra (par_by hx hy a2 a3 (by rw [hs]; exact a4) a5 a6 a7 a8) (comp_tg trivial)
      refine (ls_par base).weak ?_
      rintro D σ H ⟨ρ, L, Z, η, P, S, s, t, e⟩
      refine ⟨ρ, L, Z, η, P, S, s, ?_, e⟩
      simp only [wS, wE] at t
      exact t
    · have nt : swappedStores [.Tuple ts kt tp] v X.env = pure none := by
        cases v <;> first | rfl | exact absurd rfl hv
      obtain ⟨g, l, f⟩ := names_by C (okset_def hs hp.2) is ts h1
      unfold wS
      exact ls_asgT (ps_asg (sE Γ c e X sc _ C hs h3 G).1 (pg_tup C.calm g l f) (comp_tg trivial) nt rfl)
  | .sto a b e => by
    intro X sc gd x C hp hs h G hG
    unfold kS at h
    split at h <;> first | (cases h; done) | skip
    rename_i x y tp v pos
    simp only [Bool.and_eq_true] at h
    obtain ⟨⟨⟨h1, h2⟩, h3⟩, h4⟩ := h
    have ra := (sE Γ c a X sc _ C hs h2 G).1
    have rb := (sE Γ c b X sc _ C hs h3 G).1
    have re := (sE Γ c e X sc _ C hs h4 G).1
    unfold wS
    exact ls_sto (a := x) (b := y) (e := v) (ps_asg re (pg_sub ra rb set_list (by intro v; cases y <;> first | rfl | cases h1)) (comp_tg trivial) (by cases v <;> rfl) rfl)
  | .augN i e => by
    intro X sc gd x C hp hs h G hG
    unfold kS at h
    split at h <;> first | (cases h; done) | skip
    simp only [Bool.and_eq_true] at h
    obtain ⟨⟨h1, h2⟩, h3⟩ := h
    have hl := okset_def hs hp.2 _ h2
    have re := (sE Γ c e X sc _ C hs h3 G).1
    unfold wS
    exact ls_augN (ps_aug C.nd (at_by C h1) hl.1 re ip_aug hl.2)
  | .augS a b e => by
    intro X sc gd x C hp hs h G hG
    unfold kS at h
    split at h <;> first | (cases h; done) | skip
    rename_i x y tp v pos
    simp only [Bool.and_eq_true] at h
    obtain ⟨⟨⟨h1, h2⟩, h3⟩, h4⟩ := h
    have ra := (sE Γ c a X sc _ C hs h2 G).1
    have rb := (sE Γ c b X sc _ C hs h3 G).1
    have re := (sE Γ c e X sc _ C hs h4 G).1
    unfold wS
    exact ls_augS (ps_augS ra rb get_list re ip_aug set_list (by intro ov iv new; cases y <;> first | rfl | cases h1))
  | .exp e => by
    intro X sc gd x C hp hs h G hG
    unfold kS at h
    split at h <;> first | (cases h; done) | skip
    simp only [Bool.and_eq_true] at h
    unfold wS
    exact ls_exp (ps_expr (sE Γ c e X sc _ C hs h.2 G).1 (comp_by none h.1))
  | .ret e => by
    intro X sc gd x C hp hs h G hG
    unfold kS at h
    split at h <;> first | (cases h; done) | skip
    · unfold wS
      exact ls_ret (ps_ret (sE Γ c e X sc _ C hs h G).1)
    · split at h <;> first | (cases h; done) | skip
      simp only [wS, wE]
      exact ls_retN
  | .retP i n => by
    intro X sc gd x C hp hs h G hG
    unfold kS at h
    split at h <;> first | (cases h; done) | skip
    simp only [Bool.and_eq_true, decide_eq_true_eq] at h
    unfold wS
    exact ls_retP (ps_ret (sE Γ c (.var i) X sc _ C hs h.1 G).1) (hG n h.2)
  | .iff t a b => by
    intro X sc gd x C hp hs h G hG
    unfold kS at h
    split at h <;> first | (cases h; done) | skip
    simp only [Bool.and_eq_true] at h
    obtain ⟨⟨⟨h1, h2⟩, h3⟩, h4⟩ := h
    unfold wS
    exact ls_if ((sE Γ c t X sc _ C hs h2 G).2 h1) (sSs Γ c a X sc gd _ C hp hs h3 G hG) (sSs Γ c b X sc gd _ C hp hs h4 G hG)
  | .for gs tg s b => by
    intro X sc gd x C hp hs h G hG
    unfold kS at h
    split at h <;> first | (cases h; done) | skip
    simp only [Bool.and_eq_true] at h
    obtain ⟨⟨⟨⟨h1, h2⟩, h3⟩, h4⟩, h5⟩ := h
    obtain ⟨p1, p2⟩ := pl_by (X := X) h3
    unfold wS
    exact ls_for hp.1 C.calm (sSr Γ c s X sc _ _ C hs h4 p2 G) (tg_by C (okset_def hs hp.2) h1) p1 (fun L Z => sSs Γ c b X sc (gs ++ gd) _ C hp hs h5 _ hG.loop) (fun x => set_by h2)
  | .whl t b => by
    intro X sc gd x C hp hs h G hG
    unfold kS at h
    split at h <;> first | (cases h; done) | skip
    simp only [Bool.and_eq_true] at h
    obtain ⟨⟨h1, h2⟩, h3⟩ := h
    unfold wS
    exact ls_while hp.1 ((sE Γ c t X sc _ C hs h2 G).2 h1) (sSs Γ c b X sc gd _ C hp hs h3 G hG)
  | .brk => by
    intro X sc gd x C hp hs h G hG
    unfold kS at h
    split at h <;> first | (cases h; done) | skip
    unfold wS
    exact ls_brk
  | .cnt => by
    intro X sc gd x C hp hs h G hG
    unfold kS at h
    split at h <;> first | (cases h; done) | skip
    unfold wS
    exact ls_cnt
  | .pas => by
    intro X sc gd x C hp hs h G hG
    unfold kS at h
    split at h <;> first | (cases h; done) | skip
    unfold wS
    exact ls_pas ps_pass
  | .frz i n => by
    intro X sc gd x C hp hs h G hG
    unfold kS at h
    cases h
theorem sSs (Γ : Env) (c : Cfg) : ∀ ss : Ss, SSs Γ c ss
  | .nil => by
    intro X sc gd xs C hp hs h G hG
    unfold kSs at h
    split at h <;> first | (cases h; done) | skip
    unfold wSs
    exact ls_nil
  | .cons s ss => by
    intro X sc gd xs C hp hs h G hG
    unfold kSs at h
    rw [Bool.or_eq_true] at h
    rcases h with h | h
    · split at h <;> first | (cases h; done) | skip
      rename_i i n
      rw [Bool.and_eq_true, decide_eq_true_eq] at h
      simp only [wSs, wS]
      exact ls_frz (sSs Γ c ss X sc gd xs C hp hs h.2 G hG) (hG n h.1)
    · split at h <;> first | (cases h; done) | skip
      rw [Bool.and_eq_true] at h
      unfold wSs
      exact ls_cons (sS Γ c s X sc gd _ C hp hs h.1 G hG) (sSs Γ c ss X sc gd _ C hp hs h.2 G hG)
end
end Pl

namespace Pl
open PySem PySem.Spec PyProof.Rows L2

section
variable {G : Gh} {L : Loc} {Z : Hp} {η : Reg} {H : Hp}
theorem all_none (L : Loc) (n : Nat) : Loc.all (L ++ List.replicate n none) = L.all := by
  unfold Loc.all
  rw [List.flatMap_append]
  have : (List.replicate n (none : Option (Addr × List Addr))).flatMap cellsOf = [] := by
    induction n with
    | zero => rfl
    | succ n ih => rw [List.replicate_succ, List.flatMap_cons, ih]; rfl
  rw [this, List.append_nil]
theorem get_none {α : Type} {l : List (Option α)} {n m : Nat} {x : α} : (l ++ List.replicate n none)[m]? = some (some x) ↔ l[m]? = some (some x) := by
  by_cases h : m < l.length
  · rw [List.getElem?_append_left h]
  · rw [List.getElem?_append_right (by omega), List.getElem?_replicate, List.getElem?_eq_none (by omega)]
    split <;> simp
theorem SI.grow (S : SI G L Z η H) (n : Nat) : SI G (L ++ List.replicate n none) Z (η ++ List.replicate n none) H := by
  refine ⟨fun m a e => ?_, S.z0, S.zh, S.fh, S.zn, by rw [all_none]; exact S.nd, by rw [List.length_append, List.length_append, S.ln, List.length_replicate, List.length_replicate], fun m p e => ?_, fun m o e => ?_⟩
  · obtain ⟨ks, h⟩ := S.a0 m a e
    exact ⟨ks, get_none.mpr h⟩
  · obtain ⟨a, o, b, c⟩ := S.ow m p (get_none.mp e)
    exact ⟨a, o, get_none.mpr b, c⟩
  · obtain ⟨p, h⟩ := S.lv m o (get_none.mp e)
    exact ⟨p, get_none.mpr h⟩
theorem SI.shrink (S : SI G L Z η H) {n : Nat} (ha : ∀ m, n ≤ m → G.A0 m = none) : SI G (L.take n) Z (η.take n) H := by
  have gt : ∀ {α : Type} {l : List (Option α)} {m : Nat} {x : α}, (l.take n)[m]? = some (some x) → m < n ∧ l[m]? = some (some x) := fun {α l m x} e => by
    rw [List.getElem?_take] at e
    split at e
    · exact ⟨by assumption, e⟩
    · cases e
  refine ⟨fun m a e => ?_, S.z0, S.zh, S.fh, S.zn, ?_, by rw [List.length_take, List.length_take, S.ln], fun m p e => ?_, fun m o e => ?_⟩
  · obtain ⟨ks, h⟩ := S.a0 m a e
    have hm : m < n := by
      by_cases q : m < n
      · exact q
      · rw [ha m (by omega)] at e; cases e
    exact ⟨ks, by rw [List.getElem?_take, if_pos hm]; exact h⟩
  · have nd := all_nodup.mp S.nd
    exact all_nodup.mpr ⟨fun x hx => nd.1 x (List.mem_of_mem_take hx), List.Pairwise.sublist (List.take_sublist n L) nd.2⟩
  · obtain ⟨hm, e⟩ := gt e
    obtain ⟨a, o, b, c⟩ := S.ow m p e
    exact ⟨a, o, by rw [List.getElem?_take, if_pos hm]; exact b, c⟩
  · obtain ⟨hm, e⟩ := gt e
    obtain ⟨p, h⟩ := S.lv m o e
    exact ⟨p, by rw [List.getElem?_take, if_pos hm]; exact h⟩
theorem outs_take : ∀ {n : Nat} {η : Reg} {os : List Ob}, outs n η = some os → η.take n = os.map some ∧ os.length = n
  | 0, _, _, h => by
    cases h
    exact ⟨rfl, rfl⟩
  | n + 1, [], _, h => by cases h
  | n + 1, none :: r, _, h => by cases h
  | n + 1, some o :: r, _, h => by
    unfold outs at h
    cases e : outs n r with
    | none => rw [e] at h; cases h
    | some os =>
      rw [e] at h
      cases h
      obtain ⟨a, b⟩ := outs_take e
      exact ⟨by rw [List.take_succ_cons, a]; rfl, by rw [List.length_cons, b]⟩
theorem take_all {L : Loc} {n : Nat} {b : Addr} (h : b ∈ Loc.all (L.take n)) : b ∈ L.all := by
  unfold Loc.all at h ⊢
  obtain ⟨x, hx, hb⟩ := List.mem_flatMap.mp h
  exact List.mem_flatMap.mpr ⟨x, List.mem_of_mem_take hx, hb⟩
theorem start_ss {N : List Str} : ∀ {xs : List V} {vs : List Vl} (n k : Nat), RepVs G L Z H xs vs → SS (L ++ List.replicate n none) Z (xs.map some ++ List.replicate k none) (vs.map some ++ List.replicate k none)
  | _, _, n, k, .nil => by
    induction k with
    | zero => exact .nil
    | succ k ih => exact .cons trivial ih
  | _, _, n, k, .cons r t => by
    refine .cons ?_ (start_ss (N := N) n k t)
    rename_i x v _ _
    cases v with
    | dat d => exact ⟨x, rfl, r.1⟩
    | ptr m =>
      obtain ⟨a, ks, h1, rfl⟩ := r.1
      exact ⟨a, ks, get_none.mpr h1, rfl⟩
    | fr o => exact absurd rfl (r.2 o)
end

/-! ## defs -/
/-- the slots of a def: its parameters first -/
def scK (N ps : List Str) (sc : Scope) : Bool := decide (sc.kind = .function) && decide (sc.isCoroutine = false) && decide (sc.isGenerator = false) && decide N.Nodup && decide (N.take ps.length = ps) && ps.all (setC sc) && sc.names.all fun y => decide (y.2 ≠ .free)
theorem scK_by {N ps : List Str} {sc : Scope} (h : scK N ps sc = true) : FnScope N ps sc := by
  unfold scK at h
  simp only [Bool.and_eq_true, decide_eq_true_eq, List.all_eq_true] at h
  obtain ⟨⟨⟨⟨⟨⟨a, b⟩, c⟩, d⟩, e⟩, f⟩, g⟩ := h
  exact ⟨a, b, c, d, e, fun x hx => by
    have := f x hx
    unfold setC at this
    rwa [Bool.or_eq_true, decide_eq_true_eq, decide_eq_true_eq] at this, g⟩
/-- a def's promise, known -/
structure Kn (P : Program) (w : World) (K : PySem.W.Frag) (mg : Str → Option Value) (base : Heap) (k : Nat) (x : Str) (sp : PSpec) : Prop where
  ex : ∃ (f : Addr) (fd : FuncData) (ps : List Str), mg x = some (.ref f) ∧ PySem.W.keepIn K (.ref f) = true ∧ FnOk P w K mg base CX0 k f fd ps (liftSp sp) ∧ Binds K fd ps []
theorem Kn.mono {P : Program} {w : World} {K : PySem.W.Frag} {mg : Str → Option Value} {base : Heap} {j k : Nat} {x : Str} {sp : PSpec} (h : Kn P w K mg base j x sp) (hk : j ≤ k) : Kn P w K mg base k x sp := by
  obtain ⟨f, fd, ps, a, b, c, d⟩ := h.ex
  exact ⟨f, fd, ps, a, b, c.mono hk, d⟩
structure Mg (mg : Str → Option Value) (cs : List (Str × D)) : Prop where
  blt : ∀ x ∈ bltNames, mg x = none
  cs : ∀ (x : Str) (d : D), (x, d) ∈ cs → ∃ u v, mg x = some u ∧ RelV v u ∧ ∀ H : Hp, Rp H v d
theorem start_eq (N : List Str) (xs : List V) : start N xs = xs.map some ++ List.replicate (N.length - xs.length) none := rfl
section
variable {P : Program} {w : World} {K : PySem.W.Frag} {mg : Str → Option Value} {base : Heap}
theorem def_ok {x : Str} {st : Stmt} {f : Addr} {fd : FuncData} {N ps : List Str} {cs : List (Str × D)} {Γ : Env} {body : Ss} {k np n : Nat} {sp : PSpec} (F : Fun K x x st f fd) (mgf : mg x = some (.ref f)) (b : Binds K fd ps []) (M : Mg mg cs)
    (S : scK N ps (defScope st) = true) (hb : kSs ⟨N, Γ.map (·.1), cs⟩ (defScope st) (List.range np) body (defBody st) = true)
    (hΓ : ∀ p ∈ Γ, Kn P w K mg base k p.1 p.2) (hsp : ∀ vs obs Q, sp vs obs Q → vs.length = ps.length ∧ obs.length = np ∧ wFn Γ body N.length n vs obs Q) : Kn P w K mg base (k + 1) x sp := by
  have Sc := scK_by S
  refine ⟨f, fd, ps, mgf, F.kp, F.ok (N := N) Sc ?_ ?_, b⟩
  · rintro xs H Q _ ⟨G, L, Z, obs, vs, Qp, h1, h2, S, r, hs, k⟩
    rw [← (hsp _ _ _ hs).1]
    exact r.length
  · rintro cdv A outer s H xs Q E hr ⟨G, L, Z, obs, vs, Qp, h1, h2, SIn, r, hs, hk⟩
    obtain ⟨hl, hn, hw⟩ := hsp _ _ _ hs
    have C : XC (cxOf CX0 P w K mg base N x (defScope st) f cdv A outer s H E).nox ⟨N, Γ.map (·.1), cs⟩ Γ :=
      ⟨rfl, Sc.nd, rfl, by
        have := hr.un
        show (A.deeper (envOfC x (defScope st) s.heap.objs.size f cdv)).units + 64 < cLine
        omega, Sc.kind, rfl, fun i p e => by
          obtain ⟨f', fd', ps', a, b, c, d⟩ := (hΓ p (List.mem_of_getElem? e)).ex
          exact ⟨f', k, fd', ps', a, b, c, d, hr⟩, M.blt, M.cs⟩
    have hG : Gd G (List.range np) := fun m hm => h1 m (by rw [List.mem_range] at hm; omega)
    refine ⟨_, sSs Γ ⟨N, Γ.map (·.1), cs⟩ body _ (defScope st) (List.range np) _ C ⟨PassesOwn.never, fun _ => rfl⟩ rfl hb G hG, ?_⟩
    rw [start_eq]
    have hxl : xs.length = vs.length := r.length
    rw [hxl]
    refine ⟨_, _, _, _, _, SIn.grow n, start_ss (N := N) n _ r, hw, ?_⟩
    have back : ∀ {L' : Loc} {Z' : Hp} {η' : Reg} {H' : Hp} {x : V} {v : Vl} {os : List Ob}, SI G L' Z' η' H' → RepV G L' Z' H' x v → v.noPtr → outs obs.length η' = some os → Qp v os → Q x H' := by
      intro L' Z' η' H' x v os S' rv hv ho q
      obtain ⟨e1, e2⟩ := outs_take ho
      have S2 := S'.shrink (n := obs.length) h1
      rw [e1] at S2
      refine hk x v _ _ os H' S2 e2 ?_ hv q
      cases v with
      | dat d => exact rv
      | ptr n => exact False.elim hv
      | fr o =>
        obtain ⟨a, ks, rfl, ro, hf⟩ := rv
        exact ⟨a, ks, rfl, ro, fun b hb => ⟨(hf b hb).1, (hf b hb).2.1, fun hm => (hf b hb).2.2 (take_all hm)⟩⟩
    refine ⟨fun σ' H' ρ' L' Z' η' S' s' q => ?_, fun x v L' Z' η' H' S' rv q => ?_, fun _ _ _ _ _ _ _ _ q => False.elim q, fun _ _ _ _ _ _ _ _ q => False.elim q⟩
    · have q : (match outs obs.length η' with
        | some os => Qp (.dat .none) os
        | none => False) := q
      cases ho : outs obs.length η' with
      | none => rw [ho] at q; exact False.elim q
      | some os =>
        rw [ho] at q
        exact back S' (x := .non) (v := .dat .none) (show Rp Z' .non .none from .non) trivial ho q
    · have q : (match outs obs.length η' with
        | some os => v.noPtr ∧ Qp v os
        | none => False) := q
      cases ho : outs obs.length η' with
      | none => rw [ho] at q; exact False.elim q
      | some os =>
        rw [ho] at q
        exact back S' rv q.1 ho q.2
end
end Pl

namespace Pl
open PySem PySem.Spec PyProof.Rows L2

/-! ## how every law begins -/
def bScope (st : Stmt) : Bool := match defBody st with
  | [.Return (some (.List [.ListComp (.Call (.Name f _) [.Name x _] [] _) [⟨.Name y _, .Name z _, [], 0⟩] scope _, .Constant (.int i1) _ _, .Constant (.int i2) _ _, .Constant (.int i3) _ _, .Constant (.int i4) _ _] _)) _] =>
    decide (f = "int") && decide (x = "cell") && decide (y = "cell") && decide (z = "script") && decide (i1 = 0) && decide (i2 = 0) && decide (i3 = 7) && decide (i4 = 3) &&
      blkC ["script", "cell"] (defScope st) scope (ownP ["script", "cell"] [1]) && locC (relS scope (defScope st)) "cell" && glb (relS scope (defScope st)) "int" && locC (defScope st) "script"
  | _ => false
theorem int_at {ns : List Int} {i : Nat} {v : V} (h : (ns.map V.int)[i]? = some v) : ∃ n, ns[i]? = some n ∧ v = .int n := by
  rw [List.getElem?_map] at h
  cases e : ns[i]? with
  | none => rw [e] at h; cases h
  | some n => rw [e] at h; exact ⟨n, rfl, (Option.some.inj h).symm⟩
/-- what it makes: the cells, and the stand of the draw -/
def spBeg (K : PySem.W.Frag) : Sp := fun vs H Q _ => ∃ (a : Addr) (ns : List Int), vs = [.ref a] ∧ SqL K H a (ns.map V.int) ∧ ns.length ≤ 63 ∧
  ∀ c p H', H' c = some (.lst (ns.map V.int)) → H' p = some (.lst [.ref c, .int 0, .int 0, .int 7, .int 3]) → c ≠ p → Q (.ref p) H'
section
variable {P : Program} {w : World} {K : PySem.W.Frag} {mg : Str → Option Value} {base : Heap}
theorem SqL.upd {H : Hp} {a p : Addr} {o : HO} {xs : List V} (h : SqL K H a xs) (hp : H p = none) : SqL K (L2.upd H p o) a xs := by
  rcases h with h | h
  · exact .inl ((Sub.upd hp).rd h)
  · exact .inr h
theorem beg_ok {f : Addr} {fd : FuncData} {st : Stmt} {k : Nat} (F : Fun K "_law_begin" "_law_begin" st f fd) (S : scK ["script", "cell"] ["script"] (defScope st) = true) (hb : bScope st = true) (M : mg "int" = none) :
    FnOk P w K mg base CX0 (k + 1) f fd ["script"] (spBeg K) := by
  have Sc := scK_by S
  refine F.ok (N := ["script", "cell"]) Sc (fun vs H Q E h => ?_) (fun cdv A outer s H vs Q E hr h => ?_)
  · obtain ⟨a, ns, rfl, _⟩ := h
    rfl
  · obtain ⟨a, ns, rfl, hS, hl, q⟩ := h
    unfold bScope at hb
    split at hb <;> first | (cases hb; done) | skip
    rename_i f0 p1 x p2 p3 y p4 z p5 scope p6 i1 k1 q1 i2 k2 q2 i3 k3 q3 i4 k4 q4 p7 p8 hbody
    simp only [Bool.and_eq_true, decide_eq_true_eq] at hb
    obtain ⟨⟨⟨⟨⟨⟨⟨⟨⟨⟨⟨rfl, rfl⟩, rfl⟩, rfl⟩, rfl⟩, rfl⟩, rfl⟩, rfl⟩, b1⟩, b2⟩, b3⟩, b4⟩ := hb
    rw [hbody]
    generalize hX : (cxOf CX0 P w K mg base ["script", "cell"] "_law_begin" (defScope st) f cdv A outer s H E).nox = X
    have XN : X.N = (["script", "cell"] : List Str) := by rw [← hX]; rfl
    have Xc : X.calm = true := by rw [← hX]; rfl
    have Xs : X.env.scope = defScope st := by rw [← hX]; rfl
    have Xm : X.mg = mg := by rw [← hX]; rfl
    have XK : X.K = K := by rw [← hX]; rfl
    have nd : X.N.Nodup := by rw [XN]; decide +kernel
    have ok : BlkOk X.N X.env.scope scope (ownP (["script", "cell"] : List Str) [1]) := by rw [XN, Xs]; exact blkOk_by b1
    have vS : Vis X.env.scope "script" := by rw [Xs]; exact .inl (of_decide_eq_true b4)
    have inner : ∀ (s : Shared) (H : Hp) (C : Addr) (cl : List (Str × Addr)) (fp : List Addr), ((X.blk s H scope (compEnvC scope cl C X.env) fp).env.scope) = relS scope (defScope st) := fun s H C cl fp => blk_scope Xs
    have hN1 : X.N[1]? = some ("cell" : Str) := by rw [XN]; rfl
    have hN0 : X.N[0]? = some ("script" : Str) := by rw [XN]; rfl
    refine ⟨_, pss_one (ps_ret (pe_lst (pa_cons (pe_lc (g := gName 1) (tt := tYes) (te := tCB (fun xs H Q => (∃ i, xs = [.int i] ∧ Q (.int i) H) ∨ ∃ k, xs = [.bl k] ∧ Q (.int (if k then 1 else 0)) H) (tCons (tVar 1) tNil)) Xc nd (pi_list (pe_var hN0 vS (by decide +kernel) (by decide +kernel))) ok
      (fun s H C cl fp => ?g) (fun s H C cl fp => pts_nil) (fun s H C cl fp => ?e)) (pa_cons pe_int (pa_cons pe_int (pa_cons pe_int (pa_cons pe_int pa_nil)))) rfl))), ?w⟩
    case g =>
      have hl : (X.blk s H scope (compEnvC scope cl C X.env) fp).env.scope.names.lookup ("cell" : Str) = some .local := by rw [inner]; exact of_decide_eq_true b2
      exact pg_name (X := X.blk s H scope (compEnvC scope cl C X.env) fp) nd hN1 (.inl hl) (.inr hl)
    case e =>
      have hl : (X.blk s H scope (compEnvC scope cl C X.env) fp).env.scope.names.lookup ("cell" : Str) = some .local := by rw [inner]; exact of_decide_eq_true b2
      obtain ⟨g, hd, hn⟩ := glb_by (X := X.blk s H scope (compEnvC scope cl C X.env) fp) b3 (inner s H C cl fp)
      exact pe_callTy (X := X.blk s H scope (compEnvC scope cl C X.env) fp) call_int1 g (by show X.mg "int" = none; rw [Xm]; exact M) boot_int (pa_cons (pe_var (X := X.blk s H scope (compEnvC scope cl C X.env) fp) hN1 (.inl hl) (by decide +kernel) (by decide +kernel)) pa_nil rfl) hn hd rfl rfl
    case w =>
      rw [XK]
      refine ⟨.ref a, rfl, a, rfl, ⟨_, hS⟩, fun c hc => ?_⟩
      refine lc_list (xs := ns.map V.int) (fun i H2 => H2 = upd H c (.lst ((ns.take i).map V.int))) (by rw [List.take_zero]; rfl) (fun i H2 _ e => by subst e; exact SqL.upd hS hc) ?_ ?_
      · intro i v H2 hv e
        subst H2
        obtain ⟨n, hn, rfl⟩ := int_at hv
        refine ⟨rfl, ?_⟩
        unfold tYes
        dsimp only
        rw [if_pos rfl]
        refine ⟨.int n, rfl, .inl ⟨n, rfl, ?_⟩⟩
        have hlt := (List.getElem?_eq_some_iff.mp hn).1
        refine ⟨_, upd_same, ?_, ?_⟩
        · rw [List.length_map, List.length_take]
          exact Nat.lt_of_le_of_lt (Nat.min_le_right _ _) (small1000 (by omega))
        · rw [upd_upd, List.take_add_one, hn, List.map_append]
          rfl
      · intro H2 e
        subst H2
        rw [List.length_map, List.take_length]
        show (5 : Nat) ≤ sizeLine ∧ _
        refine ⟨by decide, fun p hp => ?_⟩
        have hcp : c ≠ p := fun z => by rw [z, upd_same] at hp; cases hp
        exact q c p _ (by rw [upd_ne hcp, upd_same]) upd_same hcp
/-- a law's promise -/
def spLaw (K : PySem.W.Frag) : Sp := fun vs H Q _ => ∃ (a : Addr) (ns : List Int), vs = [.ref a] ∧ SqL K H a (ns.map V.int) ∧ ns.length ≤ 63 ∧ ∀ H', Q (.bl true) H'
/-- the first line of a law, and the others -/
def kLaw (c : Cfg) (sc : Scope) (body : Ss) : List Stmt → Bool
  | .Assign [.Name x _] (.Call (.Name b _) [.Name z _] [] _) _ :: rest => decide (x = "d") && decide (b = "_law_begin") && decide (z = "script") && c.at 0 "script" && c.at 1 "d" && locC sc "script" && setC sc "d" && glb sc "_law_begin" && kSs c sc [] body rest
  | _ => false
def cellsD (cells : List Int) : D := .list (cells.map .int)
def stand (cells : List Int) : Ob := .lst [cellsD cells, .int 0, .int 0, .int 7, .int 3]
def lawW (Γ : Env) (body : Ss) (m n : Nat) : Prop := ∀ cells : List Int, cells.length ≤ 63 →
  wSs Γ body ⟨fun _ _ => False, fun v _ => v = .dat (.bool true), fun _ _ => False, fun _ _ => False⟩ (none :: some (.ptr 0) :: List.replicate m none) (some (stand cells) :: List.replicate n none)
theorem ints_rp {Z : Hp} : ∀ ns : List Int, RpAll Z (ns.map V.int) (ns.map PyData.int)
  | [] => .nil
  | n :: ns => .cons (.int n) (ints_rp ns)
theorem law_ok {f fB : Addr} {fd fdB : FuncData} {st : Stmt} {N : List Str} {cs : List (Str × D)} {Γ : Env} {body : Ss} {k n m : Nat} (F : Fun K "law" "law" st f fd) (B : FnOk P w K mg base CX0 k fB fdB ["script"] (spBeg K)) (mgB : mg "_law_begin" = some (.ref fB))
    (kB : PySem.W.keepIn K (.ref fB) = true) (bB : Binds K fdB ["script"] []) (M : Mg mg cs) (S : scK N ["script"] (defScope st) = true) (hm : N.length = m + 2) (hb : kLaw ⟨N, Γ.map (·.1), cs⟩ (defScope st) body (defBody st) = true)
    (hΓ : ∀ p ∈ Γ, Kn P w K mg base k p.1 p.2) (hw : lawW Γ body m n) : FnOk P w K mg base CX0 (k + 1) f fd ["script"] (spLaw K) := by
  have Sc := scK_by S
  refine F.ok (N := N) Sc (fun vs H Q E h => ?_) (fun cdv A outer s H vs Q E hr h => ?_)
  · obtain ⟨a, ns, rfl, _⟩ := h
    rfl
  · obtain ⟨a, ns, rfl, hS, hl, q⟩ := h
    unfold kLaw at hb
    split at hb <;> first | (cases hb; done) | skip
    rename_i x p1 b p2 z p3 p4 p5 rest hbody
    simp only [Bool.and_eq_true, decide_eq_true_eq] at hb
    obtain ⟨⟨⟨⟨⟨⟨⟨⟨rfl, rfl⟩, rfl⟩, b0⟩, b1⟩, b2⟩, b3⟩, b4⟩, b5⟩ := hb
    rw [hbody]
    have C : XC (cxOf CX0 P w K mg base N "law" (defScope st) f cdv A outer s H E).nox ⟨N, Γ.map (·.1), cs⟩ Γ :=
      ⟨rfl, Sc.nd, rfl, by
        have := hr.un
        show (A.deeper (envOfC "law" (defScope st) s.heap.objs.size f cdv)).units + 64 < cLine
        omega, Sc.kind, rfl, fun i p e => by
          obtain ⟨f', fd', ps', a, b, c, d⟩ := (hΓ p (List.mem_of_getElem? e)).ex
          exact ⟨f', k, fd', ps', a, b, c, d, hr⟩, M.blt, M.cs⟩
    have hlS := loc_by (X := (cxOf CX0 P w K mg base N "law" (defScope st) f cdv A outer s H E).nox) b2 rfl
    have hlD := okset_def (X := (cxOf CX0 P w K mg base N "law" (defScope st) f cdv A outer s H E).nox) rfl (fun _ => rfl) _ b3
    obtain ⟨g, hd, _⟩ := glb_by (X := (cxOf CX0 P w K mg base N "law" (defScope st) f cdv A outer s H E).nox) b4 rfl
    let G : Gh := ⟨fun _ => none, fun _ => none, fun _ => none⟩
    have hG : Gd G [] := fun _ _ => rfl
    refine ⟨_, pss_cons (ps_set (i := 1) C.nd (at_by C b1) hlD.1 (pe_call B hr g mgB kB bB .nil pass0 (pa_cons (pe_var (at_by C b0) (.inl hlS) (by decide +kernel) (by decide +kernel)) pa_nil rfl) hd rfl rfl) rfl hlD.2)
      (sSs Γ ⟨N, Γ.map (·.1), cs⟩ body _ (defScope st) [] _ C ⟨PassesOwn.never, fun _ => rfl⟩ rfl b5 G hG), ?_⟩
    refine ⟨.ref a, rfl, a, ns, rfl, hS, hl, fun c p H' hc hp hcp => ?_⟩
    rw [start_eq, hm]
    refine ⟨none :: some (.ptr 0) :: List.replicate m none, some (p, []) :: List.replicate n none, fun x => if x = c then some (.lst (ns.map V.int)) else none, some (stand ns) :: List.replicate n none, _, ?_, ?_, hw ns hl, ?_⟩
    · have zc : (fun x => if x = c then some (HO.lst (ns.map V.int)) else none) c = some (HO.lst (ns.map V.int)) := if_pos rfl
      have alone : SI G [some (p, [])] (fun x => if x = c then some (.lst (ns.map V.int)) else none) [some (stand ns)] H' := by
        refine ⟨fun n a e => (nomatch e), fun a o e => (nomatch e), fun x o e => ?_, fun a o e => (nomatch e), fun _ _ _ => rfl, by simp [Loc.all, cellsOf], rfl, fun i q e => ?_, fun i o e => ?_⟩
        · by_cases hx : x = c
          · subst hx
            rw [if_pos rfl] at e
            cases e
            exact hc
          · rw [if_neg hx] at e; cases e
        · cases i with
          | succ i => simp at e
          | zero =>
            simp at e
            subst e
            refine ⟨fun b hb => ⟨?_, rfl⟩, _, rfl, rfl, _, hp, ?_⟩
            · rw [List.mem_singleton] at hb
              subst hb
              exact if_neg (fun z => hcp z.symm)
            · exact .cons (.lst (.inl zc) (ints_rp ns)) (.cons (.int 0) (.cons (.int 0) (.cons (.int 7) (.cons (.int 3) .nil))))
        · cases i with
          | succ i => simp at e
          | zero => exact ⟨_, rfl⟩
      exact alone.grow n
    · have e : ([.ref a] : List V).map some ++ List.replicate (m + 2 - ([.ref a] : List V).length) none = some (.ref a) :: none :: List.replicate m none := by
        show some (V.ref a) :: List.replicate (m + 2 - 1) none = _
        rw [show m + 2 - 1 = m + 1 from rfl, List.replicate_succ]
      rw [e]
      refine .cons trivial (.cons ⟨p, [], rfl, rfl⟩ ?_)
      have : ∀ j : Nat, SS (some (p, []) :: List.replicate n none) (fun x => if x = c then some (HO.lst (ns.map V.int)) else none) (List.replicate j none) (List.replicate j none) := fun j => by
        induction j with
        | zero => exact .nil
        | succ j ih => exact .cons trivial ih
      exact this m
    · refine ⟨fun _ _ _ _ _ _ _ _ q => False.elim q, fun x v L' Z' η' H' S' rv e => ?_, fun _ _ _ _ _ _ _ _ q => False.elim q, fun _ _ _ _ _ _ _ _ q => False.elim q⟩
      have e : v = .dat (.bool true) := e
      subst e
      have rv : Rp Z' x (.bool true) := rv
      rw [rv.bl_inv]
      exact q H'
end
end Pl

namespace Pl
open PySem PySem.Spec PyProof.Rows L2

/-! ## reading a def -/
theorem fz_dat (d : D) : Vl.fz (.dat d) = .dat d := rfl
theorem fz_ptr (n : Nat) : Vl.fz (.ptr n) = .ptr n := rfl
theorem fz_fr (ds : List D) : Vl.fz (.fr (.lst ds)) = .dat (.list ds) := rfl
theorem onD_dat (d : D) (Q : D → Prop) : Vl.onD (.dat d) Q = Q d := rfl
theorem onView_dat (d : D) (η : Reg) (Q : D → Prop) : onView (.dat d) η Q = Q d := rfl
theorem onView_ptr {n : Nat} {η : Reg} {ds : List D} (h : η[n]? = some (some (.lst ds))) (Q : D → Prop) : onView (.ptr n) η Q = Q (.list ds) := by
  unfold onView Vl.view
  dsimp only
  rw [h]
theorem settled_dat (d : D) : Vl.settled (.dat d) = True := rfl
theorem settled_ptr (n : Nat) : Vl.settled (.ptr n) = True := rfl
/-- a test's result, decided by cases -/
theorem ite_of {p : Bool} {A B : Prop} (h1 : p = true → A) (h2 : p = false → B) : if p = true then A else B := by
  cases p with
  | true => rw [if_pos rfl]; exact h1 rfl
  | false => rw [if_neg Bool.false_ne_true]; exact h2 rfl
theorem ite_dec {p : Prop} [Decidable p] {A B : Prop} (h1 : p → A) (h2 : ¬ p → B) : if decide p = true then A else B := ite_of (fun e => h1 (of_decide_eq_true e)) (fun e => h2 (of_decide_eq_false e))
theorem atI_nat {α : Type} {xs : List α} {j : Nat} {d : α} (h : xs[j]? = some d) : atI xs (j : Nat) = some d := by
  have hl := (List.getElem?_eq_some_iff.mp h).1
  unfold atI ixN
  rw [if_pos (by omega), if_pos (by omega)]
  exact h
theorem atI_pos {α : Type} {xs : List α} {i : Int} (h0 : 0 ≤ i) (h1 : i < xs.length) : ∃ d, xs[i.toNat]? = some d ∧ atI xs i = some d := by
  obtain ⟨j, rfl⟩ := Int.eq_ofNat_of_zero_le h0
  have hl : j < xs.length := by omega
  exact ⟨xs[j], List.getElem?_eq_getElem hl, atI_nat (List.getElem?_eq_getElem hl)⟩
/-! calls -/
theorem callN_at {Γ : Env} {f : Nat} {n : Str} {sp : PSpec} (h : Γ[f]? = some (n, sp)) (vs : List Vl) (η : Reg) (Q : Vl → Reg → Prop) : callN Γ f vs η Q = callW sp vs η Q := by
  unfold callN
  rw [h]
/-- a call that hands on no register -/
theorem call_pure {sp : PSpec} {vs : List Vl} {η : Reg} {Q : Vl → Reg → Prop} (hv : regsOf vs = []) (hr : renum 0 vs = vs) (h : sp vs [] fun v os => os.length = 0 ∧ v.noPtr ∧ Q v η) : callW sp vs η Q := by
  refine ⟨by rw [hv]; exact List.nodup_nil, ?_⟩
  rw [hv, hr]
  exact h
/-- .. one register -/
theorem call_one {sp : PSpec} {vs : List Vl} {η : Reg} {Q : Vl → Reg → Prop} {n : Nat} {o : Ob} (hv : regsOf vs = [n]) (ho : η[n]? = some (some o)) (h : sp (renum 0 vs) [o] fun v os => ∃ o', os = [o'] ∧ v.noPtr ∧ Q v (η.set n (some o'))) (hm : ∀ (vs : List Vl) (os : List Ob) (A B : Vl → List Ob → Prop), (∀ v os, A v os → B v os) → sp vs os A → sp vs os B) : callW sp vs η Q := by
  refine ⟨by rw [hv]; exact List.nodup_cons.mpr ⟨by simp, List.nodup_nil⟩, ?_⟩
  rw [hv]
  simp only [obsAt, ho]
  refine hm _ _ _ _ ?_ h
  rintro v os ⟨o', rfl, hv, q⟩
  exact ⟨rfl, hv, q⟩
/-! rows for simp -/
theorem r_add (i j : Int) (Q : Vl → Prop) : bopD .add (.int i) (.int j) Q = Q (.dat (.int (i + j))) := rfl
theorem r_adds (x y : Str) (Q : Vl → Prop) : bopD .add (.str x) (.str y) Q = (x.length + y.length ≤ sizeLine ∧ Q (.dat (.str (x ++ y)))) := rfl
theorem r_addt (xs ys : List D) (Q : Vl → Prop) : bopD .add (.tuple xs) (.tuple ys) Q = (xs.length + ys.length ≤ sizeLine ∧ Q (.dat (.tuple (xs ++ ys)))) := rfl
theorem r_addl (xs ys : List D) (Q : Vl → Prop) : bopD .add (.list xs) (.list ys) Q = (xs.length + ys.length ≤ sizeLine ∧ Q (.fr (.lst (xs ++ ys)))) := rfl
theorem r_sub (i j : Int) (Q : Vl → Prop) : bopD .sub (.int i) (.int j) Q = Q (.dat (.int (i - j))) := rfl
theorem r_mul (i j : Int) (Q : Vl → Prop) : bopD .mul (.int i) (.int j) Q = (MulOk i j ∧ Q (.dat (.int (i * j)))) := rfl
theorem r_mull (xs : List D) (k : Int) (Q : Vl → Prop) : bopD .mul (.list xs) (.int k) Q = ((-(2 ^ 63) ≤ k ∧ k < 2 ^ 63 ∧ xs.length * k.toNat ≤ sizeLine) ∧ Q (.fr (.lst (List.replicate k.toNat xs).flatten))) := rfl
theorem r_fdiv (i j : Int) (Q : Vl → Prop) : bopD .fdiv (.int i) (.int j) Q = ((0 < j ∧ DivOk i j) ∧ Q (.dat (.int (i / j)))) := rfl
theorem r_mod (i j : Int) (Q : Vl → Prop) : bopD .mod (.int i) (.int j) Q = (0 < j ∧ Q (.dat (.int (i % j)))) := rfl
theorem r_pow (i j : Int) (Q : Vl → Prop) : bopD .pow (.int i) (.int j) Q = ((0 ≤ j ∧ j ≤ 1000000 ∧ i.natAbs < 2 ^ 64) ∧ Q (.dat (.int (i ^ j.toNat)))) := rfl
theorem r_band (i j : Int) (Q : Vl → Prop) : bopD .band (.int i) (.int j) Q = Q (.dat (.int (Builtin.bitAnd i j))) := rfl
theorem r_bor (i j : Int) (Q : Vl → Prop) : bopD .bor (.int i) (.int j) Q = Q (.dat (.int (Builtin.bitOr i j))) := rfl
theorem r_bxor (i j : Int) (Q : Vl → Prop) : bopD .bxor (.int i) (.int j) Q = Q (.dat (.int (Builtin.bitXor i j))) := rfl
theorem r_shl (i j : Int) (Q : Vl → Prop) : bopD .shl (.int i) (.int j) Q = (ShOk i j ∧ Q (.dat (.int (i * 2 ^ j.toNat)))) := rfl
theorem r_shr (i j : Int) (Q : Vl → Prop) : bopD .shr (.int i) (.int j) Q = (0 ≤ j ∧ Q (.dat (.int (i / 2 ^ j.toNat)))) := rfl
theorem r_lt (i j : Int) (Q : Bool → Prop) : cmpD .lt (.int i) (.int j) Q = Q (decide (i < j)) := rfl
theorem r_le (i j : Int) (Q : Bool → Prop) : cmpD .le (.int i) (.int j) Q = Q (decide (i ≤ j)) := rfl
theorem r_gt (i j : Int) (Q : Bool → Prop) : cmpD .gt (.int i) (.int j) Q = Q (decide (j < i)) := rfl
theorem r_ge (i j : Int) (Q : Bool → Prop) : cmpD .ge (.int i) (.int j) Q = Q (decide (j ≤ i)) := rfl
theorem r_lts (x y : Str) (Q : Bool → Prop) : cmpD .lt (.str x) (.str y) Q = Q (decide (x.cps.toList < y.cps.toList)) := rfl
theorem r_eq (x y : D) (Q : Bool → Prop) : cmpD .eq x y Q = ((x.depth ≤ 60 ∨ y.depth ≤ 60) ∧ Q (PyData.eqv x y)) := rfl
theorem r_ne (x y : D) (Q : Bool → Prop) : cmpD .ne x y Q = ((x.depth ≤ 60 ∨ y.depth ≤ 60) ∧ Q (!PyData.eqv x y)) := rfl
theorem r_isin (x z : Str) (Q : Bool → Prop) : cmpD .isin (.str x) (.str z) Q = (∃ c : Nat, x = ⟨#[c]⟩ ∧ Q (decide (c ∈ z.cps.toList))) := rfl
theorem r_notin (x z : Str) (Q : Bool → Prop) : cmpD .notin (.str x) (.str z) Q = (∃ c : Nat, x = ⟨#[c]⟩ ∧ Q (!decide (c ∈ z.cps.toList))) := rfl
theorem r_isin_list (x : D) (ys : List D) (Q : Bool → Prop) : cmpD .isin x (.list ys) Q = ((PyData.depthAll ys ≤ 60 ∨ x.depth ≤ 60) ∧ Q (ys.any fun y => PyData.eqv y x)) := by cases x <;> rfl
theorem r_isin_tuple (x : D) (ys : List D) (Q : Bool → Prop) : cmpD .isin x (.tuple ys) Q = ((PyData.depthAll ys ≤ 60 ∨ x.depth ≤ 60) ∧ Q (ys.any fun y => PyData.eqv y x)) := by cases x <;> rfl
theorem r_notin_list (x : D) (ys : List D) (Q : Bool → Prop) : cmpD .notin x (.list ys) Q = ((PyData.depthAll ys ≤ 60 ∨ x.depth ≤ 60) ∧ Q (!ys.any fun y => PyData.eqv y x)) := by cases x <;> rfl
theorem r_notin_tuple (x : D) (ys : List D) (Q : Bool → Prop) : cmpD .notin x (.tuple ys) Q = ((PyData.depthAll ys ≤ 60 ∨ x.depth ≤ 60) ∧ Q (!ys.any fun y => PyData.eqv y x)) := by cases x <;> rfl
theorem r_isnone (x : D) (Q : Bool → Prop) : cmpD .isnone x .none Q = Q (isNone x) := rfl
theorem r_notnone (x : D) (Q : Bool → Prop) : cmpD .notnone x .none Q = Q (!isNone x) := rfl
theorem r_ixl (xs : List D) (i : Int) (Q : D → Prop) : idxD (.list xs) (.int i) Q = (∃ d, atI xs i = some d ∧ Q d) := rfl
theorem r_ixt (xs : List D) (i : Int) (Q : D → Prop) : idxD (.tuple xs) (.int i) Q = (∃ d, atI xs i = some d ∧ Q d) := rfl
theorem r_ixs (z : Str) (i : Int) (Q : D → Prop) : idxD (.str z) (.int i) Q = (z.length ≤ sizeLine ∧ ∃ c, atI z.cps.toList i = some c ∧ Q (.str ⟨#[c]⟩)) := rfl
theorem r_sll (xs : List D) (lo hi : Option Int) (Q : Vl → Prop) : sliD (.list xs) lo hi Q = Q (.fr (.lst (cutL xs lo hi))) := rfl
theorem r_slt (xs : List D) (lo hi : Option Int) (Q : Vl → Prop) : sliD (.tuple xs) lo hi Q = Q (.dat (.tuple (cutL xs lo hi))) := rfl
theorem r_sls (z : Str) (lo hi : Option Int) (Q : Vl → Prop) : sliD (.str z) lo hi Q = (z.length ≤ sizeLine ∧ Q (.dat (.str (cutS z lo hi)))) := rfl
theorem r_len (v : Vl) (η : Reg) (Q : Vl → Prop) : biW .len [v] η Q = lenOf v η fun n => Q (.dat (.int n)) := rfl
theorem r_int (i : Int) (η : Reg) (Q : Vl → Prop) : biW .int [.dat (.int i)] η Q = Q (.dat (.int i)) := rfl
theorem r_intb (b : Bool) (η : Reg) (Q : Vl → Prop) : biW .int [.dat (.bool b)] η Q = Q (.dat (.int (if b then 1 else 0))) := rfl
theorem r_abs (i : Int) (η : Reg) (Q : Vl → Prop) : biW .abs [.dat (.int i)] η Q = Q (.dat (.int (if i < 0 then -i else i))) := rfl
theorem r_min2 (i j : Int) (η : Reg) (Q : Vl → Prop) : biW .min2 [.dat (.int i), .dat (.int j)] η Q = Q (.dat (.int (if j < i then j else i))) := rfl
theorem r_max2 (i j : Int) (η : Reg) (Q : Vl → Prop) : biW .max2 [.dat (.int i), .dat (.int j)] η Q = Q (.dat (.int (if j > i then j else i))) := rfl
theorem r_sum (xs : List D) (η : Reg) (Q : Vl → Prop) : biW .sum [.dat (.list xs)] η Q = intsOf xs fun ns => Q (.dat (.int ns.sum)) := rfl
theorem r_min1 (xs : List D) (η : Reg) (Q : Vl → Prop) : biW .min1 [.dat (.list xs)] η Q = intsOf xs fun ns => 0 < ns.length ∧ ∀ m ∈ ns, (∀ y ∈ ns, m ≤ y) → Q (.dat (.int m)) := rfl
theorem r_max1 (xs : List D) (η : Reg) (Q : Vl → Prop) : biW .max1 [.dat (.list xs)] η Q = intsOf xs fun ns => 0 < ns.length ∧ ∀ m ∈ ns, (∀ y ∈ ns, y ≤ m) → Q (.dat (.int m)) := rfl
theorem r_all (xs : List D) (η : Reg) (Q : Vl → Prop) : biW .all [.dat (.list xs)] η Q = (∃ bs : List Bool, xs = bs.map PyData.bool ∧ Q (.dat (.bool (bs.all id)))) := rfl
theorem r_any (xs : List D) (η : Reg) (Q : Vl → Prop) : biW .any [.dat (.list xs)] η Q = (∃ bs : List Bool, xs = bs.map PyData.bool ∧ Q (.dat (.bool (bs.any id)))) := rfl
theorem r_list (xs : List D) (η : Reg) (Q : Vl → Prop) : biW .list [.dat (.list xs)] η Q = Q (.fr (.lst xs)) := rfl
theorem r_listt (xs : List D) (η : Reg) (Q : Vl → Prop) : biW .list [.dat (.tuple xs)] η Q = Q (.fr (.lst xs)) := rfl
theorem r_tup (xs : List D) (η : Reg) (Q : Vl → Prop) : biW .tuple [.dat (.list xs)] η Q = Q (.dat (.tuple xs)) := rfl
theorem r_tupt (xs : List D) (η : Reg) (Q : Vl → Prop) : biW .tuple [.dat (.tuple xs)] η Q = Q (.dat (.tuple xs)) := rfl
theorem r_tupv (v : Vl) (η : Reg) (Q : Vl → Prop) : biW .tuple [v] η Q = (onView v η fun | .list xs => Q (.dat (.tuple xs)) | .tuple xs => Q (.dat (.tuple xs)) | _ => False) := rfl
theorem r_rl1 (j : Int) (η : Reg) (Q : Vl → Prop) : biW .rlist1 [.dat (.int j)] η Q = (RgOk 0 j ∧ Q (.fr (.lst (rangeD 0 j.toNat)))) := rfl
theorem r_rl2 (i j : Int) (η : Reg) (Q : Vl → Prop) : biW .rlist2 [.dat (.int i), .dat (.int j)] η Q = (RgOk i j ∧ Q (.fr (.lst (rangeD i (j - i).toNat)))) := rfl
theorem r_rt1 (j : Int) (η : Reg) (Q : Vl → Prop) : biW .rtup1 [.dat (.int j)] η Q = (RgOk 0 j ∧ Q (.dat (.tuple (rangeD 0 j.toNat)))) := rfl
theorem r_rt2 (i j : Int) (η : Reg) (Q : Vl → Prop) : biW .rtup2 [.dat (.int i), .dat (.int j)] η Q = (RgOk i j ∧ Q (.dat (.tuple (rangeD i (j - i).toNat)))) := rfl
theorem r_sort (xs : List D) (η : Reg) (Q : Vl → Prop) : biW .sorted [.dat (.list xs)] η Q = ((PySem.W.AllAlike xs ∧ PySem.W.Sortable xs ∧ ∀ d ∈ xs, d.depth ≤ 50) ∧ Q (.fr (.lst (xs.mergeSort (PySem.W.dataLe false id))))) := rfl
theorem r_isi (T : String) (d : D) (η : Reg) (Q : Vl → Prop) : biW (.isi T) [.dat d] η Q = (∃ t b, some (tyD d) = some t ∧ kitB t T = some b ∧ Q (.dat (.bool b))) := rfl
theorem r_lenl (xs : List D) (η : Reg) (Q : Nat → Prop) : lenOf (.dat (.list xs)) η Q = Q xs.length := rfl
theorem r_lent (xs : List D) (η : Reg) (Q : Nat → Prop) : lenOf (.dat (.tuple xs)) η Q = Q xs.length := rfl
theorem r_lens (s : Str) (η : Reg) (Q : Nat → Prop) : lenOf (.dat (.str s)) η Q = (s.length ≤ sizeLine ∧ Q s.length) := rfl
theorem r_augi (i j : Int) (Q : D → Prop) : augD (.int i) (.int j) Q = Q (.int (i + j)) := rfl
theorem r_augs (x y : Str) (Q : D → Prop) : augD (.str x) (.str y) Q = (x.length + y.length ≤ sizeLine ∧ Q (.str (x ++ y))) := rfl
theorem r_bitl (i : Int) (η : Reg) (Q : Vl → Reg → Prop) : metW .bitlen (.dat (.int i)) [] η Q = Q (.dat (.int (Builtin.Int.intBits i : Nat))) η := rfl
theorem r_split (a b : Str) (η : Reg) (Q : Vl → Reg → Prop) : metW .split (.dat (.str a)) [.dat (.str b)] η Q = ((b.length == 0) = false ∧ a.length + 2 ≤ sizeLine ∧ Q (.fr (.lst ((Txt.split a b).map PyData.str))) η) := rfl
theorem r_wtg (i : Nat) (d : D) (ρ : Sl) (Q : Sl → Prop) : wTg (.one i) d ρ Q = Q (ρ.set i (some (.dat d))) := rfl
theorem r_wtgm (is : List Nat) (ds : List D) (ρ : Sl) (Q : Sl → Prop) : wTg (.many is) (.tuple ds) ρ Q = (is.length = ds.length ∧ Q (setMany ρ is ds)) := rfl
theorem r_at0 {α : Type} (a0 : α) (l : List α) : atI (a0 :: l) 0 = some a0 := by
  have : ((0 : Nat) : Int) = 0 := rfl
  rw [← this]
  exact atI_nat rfl
theorem r_at1 {α : Type} (a0 a1 : α) (l : List α) : atI (a0 :: a1 :: l) 1 = some a1 := by
  have : ((1 : Nat) : Int) = 1 := rfl
  rw [← this]
  exact atI_nat rfl
theorem r_at2 {α : Type} (a0 a1 a2 : α) (l : List α) : atI (a0 :: a1 :: a2 :: l) 2 = some a2 := by
  have : ((2 : Nat) : Int) = 2 := rfl
  rw [← this]
  exact atI_nat rfl
theorem r_at3 {α : Type} (a0 a1 a2 a3 : α) (l : List α) : atI (a0 :: a1 :: a2 :: a3 :: l) 3 = some a3 := by
  have : ((3 : Nat) : Int) = 3 := rfl
  rw [← this]
  exact atI_nat rfl
theorem r_at4 {α : Type} (a0 a1 a2 a3 a4 : α) (l : List α) : atI (a0 :: a1 :: a2 :: a3 :: a4 :: l) 4 = some a4 := by
  have : ((4 : Nat) : Int) = 4 := rfl
  rw [← this]
  exact atI_nat rfl
theorem r_at5 {α : Type} (a0 a1 a2 a3 a4 a5 : α) (l : List α) : atI (a0 :: a1 :: a2 :: a3 :: a4 :: a5 :: l) 5 = some a5 := by
  have : ((5 : Nat) : Int) = 5 := rfl
  rw [← this]
  exact atI_nat rfl
theorem r_ix1_0 : ixN 1 0 = some 0 := by decide
theorem r_ix2_0 : ixN 2 0 = some 0 := by decide
theorem r_ix2_1 : ixN 2 1 = some 1 := by decide
theorem r_ix3_0 : ixN 3 0 = some 0 := by decide
theorem r_ix3_1 : ixN 3 1 = some 1 := by decide
theorem r_ix3_2 : ixN 3 2 = some 2 := by decide
theorem r_ix4_0 : ixN 4 0 = some 0 := by decide
theorem r_ix4_1 : ixN 4 1 = some 1 := by decide
theorem r_ix4_2 : ixN 4 2 = some 2 := by decide
theorem r_ix4_3 : ixN 4 3 = some 3 := by decide
theorem r_ix5_0 : ixN 5 0 = some 0 := by decide
theorem r_ix5_1 : ixN 5 1 = some 1 := by decide
theorem r_ix5_2 : ixN 5 2 = some 2 := by decide
theorem r_ix5_3 : ixN 5 3 = some 3 := by decide
theorem r_ix5_4 : ixN 5 4 = some 4 := by decide
theorem r_v0 (ds : List D) (l : Reg) (Q : D → Prop) : onView (.ptr 0) (some (.lst ds) :: l) Q = Q (.list ds) := rfl
theorem r_lenp0 (ds : List D) (l : Reg) (Q : Nat → Prop) : lenOf (.ptr 0) (some (.lst ds) :: l) Q = Q ds.length := rfl
theorem r_typ0 (ds : List D) (l : Reg) : tyV' (.ptr 0) (some (.lst ds) :: l) = some "list" := rfl
theorem r_app0 (ds : List D) (l : Reg) (d : D) (Q : Vl → Reg → Prop) : metW .append (.ptr 0) [.dat d] (some (.lst ds) :: l) Q = (ds.length < sizeLine ∧ Q (.dat .none) (some (.lst (ds ++ [d])) :: l)) := rfl
theorem r_pop0 (ds : List D) (l : Reg) (Q : Vl → Reg → Prop) : metW .pop (.ptr 0) [] (some (.lst ds) :: l) Q = (∃ d, ds[ds.length - 1]? = some d ∧ Q (.dat d) (some (.lst ds.dropLast) :: l)) := rfl
theorem r_popAt0 (ds : List D) (l : Reg) (i : Int) (Q : Vl → Reg → Prop) : metW .popAt (.ptr 0) [.dat (.int i)] (some (.lst ds) :: l) Q = (∃ d, (0 ≤ i ∧ i < 2 ^ 63) ∧ ds[i.toNat]? = some d ∧ Q (.dat d) (some (.lst (ds.eraseIdx i.toNat)) :: l)) := rfl
theorem r_ext0 (ds ys : List D) (l : Reg) (Q : Vl → Reg → Prop) : metW .extend (.ptr 0) [.dat (.list ys)] (some (.lst ds) :: l) Q = (ds.length + ys.length ≤ sizeLine ∧ Q (.dat .none) (some (.lst (ds ++ ys)) :: l)) := rfl
theorem r_outs0 (l : Reg) : outs 0 (l) = some [] := rfl
theorem r_v1 (x0 : Option Ob) (ds : List D) (l : Reg) (Q : D → Prop) : onView (.ptr 1) (x0 :: some (.lst ds) :: l) Q = Q (.list ds) := rfl
theorem r_lenp1 (x0 : Option Ob) (ds : List D) (l : Reg) (Q : Nat → Prop) : lenOf (.ptr 1) (x0 :: some (.lst ds) :: l) Q = Q ds.length := rfl
theorem r_typ1 (x0 : Option Ob) (ds : List D) (l : Reg) : tyV' (.ptr 1) (x0 :: some (.lst ds) :: l) = some "list" := rfl
theorem r_app1 (x0 : Option Ob) (ds : List D) (l : Reg) (d : D) (Q : Vl → Reg → Prop) : metW .append (.ptr 1) [.dat d] (x0 :: some (.lst ds) :: l) Q = (ds.length < sizeLine ∧ Q (.dat .none) (x0 :: some (.lst (ds ++ [d])) :: l)) := rfl
theorem r_pop1 (x0 : Option Ob) (ds : List D) (l : Reg) (Q : Vl → Reg → Prop) : metW .pop (.ptr 1) [] (x0 :: some (.lst ds) :: l) Q = (∃ d, ds[ds.length - 1]? = some d ∧ Q (.dat d) (x0 :: some (.lst ds.dropLast) :: l)) := rfl
theorem r_popAt1 (x0 : Option Ob) (ds : List D) (l : Reg) (i : Int) (Q : Vl → Reg → Prop) : metW .popAt (.ptr 1) [.dat (.int i)] (x0 :: some (.lst ds) :: l) Q = (∃ d, (0 ≤ i ∧ i < 2 ^ 63) ∧ ds[i.toNat]? = some d ∧ Q (.dat d) (x0 :: some (.lst (ds.eraseIdx i.toNat)) :: l)) := rfl
theorem r_ext1 (x0 : Option Ob) (ds ys : List D) (l : Reg) (Q : Vl → Reg → Prop) : metW .extend (.ptr 1) [.dat (.list ys)] (x0 :: some (.lst ds) :: l) Q = (ds.length + ys.length ≤ sizeLine ∧ Q (.dat .none) (x0 :: some (.lst (ds ++ ys)) :: l)) := rfl
theorem r_outs1 (o0 : Ob) (l : Reg) : outs 1 (some o0 :: l) = some [o0] := rfl
theorem r_v2 (x0 x1 : Option Ob) (ds : List D) (l : Reg) (Q : D → Prop) : onView (.ptr 2) (x0 :: x1 :: some (.lst ds) :: l) Q = Q (.list ds) := rfl
theorem r_lenp2 (x0 x1 : Option Ob) (ds : List D) (l : Reg) (Q : Nat → Prop) : lenOf (.ptr 2) (x0 :: x1 :: some (.lst ds) :: l) Q = Q ds.length := rfl
theorem r_typ2 (x0 x1 : Option Ob) (ds : List D) (l : Reg) : tyV' (.ptr 2) (x0 :: x1 :: some (.lst ds) :: l) = some "list" := rfl
theorem r_app2 (x0 x1 : Option Ob) (ds : List D) (l : Reg) (d : D) (Q : Vl → Reg → Prop) : metW .append (.ptr 2) [.dat d] (x0 :: x1 :: some (.lst ds) :: l) Q = (ds.length < sizeLine ∧ Q (.dat .none) (x0 :: x1 :: some (.lst (ds ++ [d])) :: l)) := rfl
theorem r_pop2 (x0 x1 : Option Ob) (ds : List D) (l : Reg) (Q : Vl → Reg → Prop) : metW .pop (.ptr 2) [] (x0 :: x1 :: some (.lst ds) :: l) Q = (∃ d, ds[ds.length - 1]? = some d ∧ Q (.dat d) (x0 :: x1 :: some (.lst ds.dropLast) :: l)) := rfl
theorem r_popAt2 (x0 x1 : Option Ob) (ds : List D) (l : Reg) (i : Int) (Q : Vl → Reg → Prop) : metW .popAt (.ptr 2) [.dat (.int i)] (x0 :: x1 :: some (.lst ds) :: l) Q = (∃ d, (0 ≤ i ∧ i < 2 ^ 63) ∧ ds[i.toNat]? = some d ∧ Q (.dat d) (x0 :: x1 :: some (.lst (ds.eraseIdx i.toNat)) :: l)) := rfl
theorem r_ext2 (x0 x1 : Option Ob) (ds ys : List D) (l : Reg) (Q : Vl → Reg → Prop) : metW .extend (.ptr 2) [.dat (.list ys)] (x0 :: x1 :: some (.lst ds) :: l) Q = (ds.length + ys.length ≤ sizeLine ∧ Q (.dat .none) (x0 :: x1 :: some (.lst (ds ++ ys)) :: l)) := rfl
theorem r_outs2 (o0 o1 : Ob) (l : Reg) : outs 2 (some o0 :: some o1 :: l) = some [o0, o1] := rfl
theorem r_v3 (x0 x1 x2 : Option Ob) (ds : List D) (l : Reg) (Q : D → Prop) : onView (.ptr 3) (x0 :: x1 :: x2 :: some (.lst ds) :: l) Q = Q (.list ds) := rfl
theorem r_lenp3 (x0 x1 x2 : Option Ob) (ds : List D) (l : Reg) (Q : Nat → Prop) : lenOf (.ptr 3) (x0 :: x1 :: x2 :: some (.lst ds) :: l) Q = Q ds.length := rfl
theorem r_typ3 (x0 x1 x2 : Option Ob) (ds : List D) (l : Reg) : tyV' (.ptr 3) (x0 :: x1 :: x2 :: some (.lst ds) :: l) = some "list" := rfl
theorem r_app3 (x0 x1 x2 : Option Ob) (ds : List D) (l : Reg) (d : D) (Q : Vl → Reg → Prop) : metW .append (.ptr 3) [.dat d] (x0 :: x1 :: x2 :: some (.lst ds) :: l) Q = (ds.length < sizeLine ∧ Q (.dat .none) (x0 :: x1 :: x2 :: some (.lst (ds ++ [d])) :: l)) := rfl
theorem r_pop3 (x0 x1 x2 : Option Ob) (ds : List D) (l : Reg) (Q : Vl → Reg → Prop) : metW .pop (.ptr 3) [] (x0 :: x1 :: x2 :: some (.lst ds) :: l) Q = (∃ d, ds[ds.length - 1]? = some d ∧ Q (.dat d) (x0 :: x1 :: x2 :: some (.lst ds.dropLast) :: l)) := rfl
theorem r_popAt3 (x0 x1 x2 : Option Ob) (ds : List D) (l : Reg) (i : Int) (Q : Vl → Reg → Prop) : metW .popAt (.ptr 3) [.dat (.int i)] (x0 :: x1 :: x2 :: some (.lst ds) :: l) Q = (∃ d, (0 ≤ i ∧ i < 2 ^ 63) ∧ ds[i.toNat]? = some d ∧ Q (.dat d) (x0 :: x1 :: x2 :: some (.lst (ds.eraseIdx i.toNat)) :: l)) := rfl
theorem r_ext3 (x0 x1 x2 : Option Ob) (ds ys : List D) (l : Reg) (Q : Vl → Reg → Prop) : metW .extend (.ptr 3) [.dat (.list ys)] (x0 :: x1 :: x2 :: some (.lst ds) :: l) Q = (ds.length + ys.length ≤ sizeLine ∧ Q (.dat .none) (x0 :: x1 :: x2 :: some (.lst (ds ++ ys)) :: l)) := rfl
theorem r_outs3 (o0 o1 o2 : Ob) (l : Reg) : outs 3 (some o0 :: some o1 :: some o2 :: l) = some [o0, o1, o2] := rfl
theorem r_tyd (d : D) (η : Reg) : tyV' (.dat d) η = some (tyD d) := rfl
theorem r_mapp  : mtTy .append (some "list") = true := rfl
theorem r_mpop  : mtTy .pop (some "list") = true := rfl
theorem r_mpopAt  : mtTy .popAt (some "list") = true := rfl
theorem r_mext  : mtTy .extend (some "list") = true := rfl
theorem r_midxl  : mtTy .index (some "list") = true := rfl
theorem r_midxt  : mtTy .index (some "tuple") = true := rfl
theorem r_mspl  : mtTy .split (some "str") = true := rfl
theorem r_mbit  : mtTy .bitlen (some "int") = true := rfl
theorem r_npd (d : D) : Vl.noPtr (.dat d) = True := rfl
theorem r_npf (o : Ob) : Vl.noPtr (.fr o) = True := rfl
theorem r_ty_int (i : Int) : tyD (.int i) = "int" := rfl
theorem r_ty_str (i : Str) : tyD (.str i) = "str" := rfl
theorem r_ty_list (i : List D) : tyD (.list i) = "list" := rfl
theorem r_ty_tuple (i : List D) : tyD (.tuple i) = "tuple" := rfl
theorem r_ty_bool (i : Bool) : tyD (.bool i) = "bool" := rfl
theorem r_ixli (ds : List D) (d : D) (η : Reg) (Q : Vl → Reg → Prop) : metW .index (.dat (.list ds)) [.dat d] η Q = firstAt ds d fun j => Q (.dat (.int (j : Nat))) η := rfl
theorem r_ixti (ds : List D) (d : D) (η : Reg) (Q : Vl → Reg → Prop) : metW .index (.dat (.tuple ds)) [.dat d] η Q = firstAt ds d fun j => Q (.dat (.int (j : Nat))) η := rfl
theorem r_asgd (i : Nat) (r : Option Nat) (d : D) (ρ : Sl) (η : Reg) (Q : Sl → Reg → Prop) : asgW i r (.dat d) ρ η Q = Q (ρ.set i (some (.dat d))) η := rfl
theorem r_asgp (i : Nat) (r : Option Nat) (n : Nat) (ρ : Sl) (η : Reg) (Q : Sl → Reg → Prop) : asgW i r (.ptr n) ρ η Q = Q (ρ.set i (some (.ptr n))) η := rfl
theorem r_asgf (i : Nat) (ds : List D) (ρ : Sl) (η : Reg) (Q : Sl → Reg → Prop) : asgW i none (.fr (.lst ds)) ρ η Q = Q (ρ.set i (some (.dat (.list ds)))) η := rfl
theorem r_asgn (i n : Nat) (o : Ob) (ρ : Sl) (η : Reg) (Q : Sl → Reg → Prop) : asgW i (some n) (.fr o) ρ η Q = (n < η.length ∧ Q ((clr n ρ).set i (some (.ptr n))) (η.set n (some o))) := rfl
theorem r_clr0 (n : Nat) : clr n [] = [] := rfl
theorem r_clr1 (n : Nat) (l : Sl) : clr n (none :: l) = none :: clr n l := rfl
theorem r_clr2 (n : Nat) (d : D) (l : Sl) : clr n (some (.dat d) :: l) = some (.dat d) :: clr n l := rfl
theorem r_clr3 (n m : Nat) (l : Sl) : clr n (some (.ptr m) :: l) = (if m = n then none else some (.ptr m)) :: clr n l := rfl
theorem r_clr4 (n : Nat) (x : Option Vl) (l : Sl) : clr n (x :: l) = clr1 n x :: clr n l := rfl
theorem r_sto0 (k : Int) (d : D) (ds : List D) (l : Reg) (Q : Reg → Prop) : stoW (.ptr 0) (.dat (.int k)) (.dat d) (some (.lst ds) :: l) Q = (∃ j, ixN ds.length k = some j ∧ Q (some (.lst (ds.set j d)) :: l)) := rfl
theorem r_ag0 (k : Int) (ds : List D) (l : Reg) (Q : D → Prop) : augGet (.ptr 0) (.dat (.int k)) (some (.lst ds) :: l) Q = (∃ d, atI ds k = some d ∧ Q d) := rfl
theorem r_sto1 (x0 : Option Ob) (k : Int) (d : D) (ds : List D) (l : Reg) (Q : Reg → Prop) : stoW (.ptr 1) (.dat (.int k)) (.dat d) (x0 :: some (.lst ds) :: l) Q = (∃ j, ixN ds.length k = some j ∧ Q (x0 :: some (.lst (ds.set j d)) :: l)) := rfl
theorem r_ag1 (x0 : Option Ob) (k : Int) (ds : List D) (l : Reg) (Q : D → Prop) : augGet (.ptr 1) (.dat (.int k)) (x0 :: some (.lst ds) :: l) Q = (∃ d, atI ds k = some d ∧ Q d) := rfl
theorem r_sto2 (x0 x1 : Option Ob) (k : Int) (d : D) (ds : List D) (l : Reg) (Q : Reg → Prop) : stoW (.ptr 2) (.dat (.int k)) (.dat d) (x0 :: x1 :: some (.lst ds) :: l) Q = (∃ j, ixN ds.length k = some j ∧ Q (x0 :: x1 :: some (.lst (ds.set j d)) :: l)) := rfl
theorem r_ag2 (x0 x1 : Option Ob) (k : Int) (ds : List D) (l : Reg) (Q : D → Prop) : augGet (.ptr 2) (.dat (.int k)) (x0 :: x1 :: some (.lst ds) :: l) Q = (∃ d, atI ds k = some d ∧ Q d) := rfl
theorem r_sto3 (x0 x1 x2 : Option Ob) (k : Int) (d : D) (ds : List D) (l : Reg) (Q : Reg → Prop) : stoW (.ptr 3) (.dat (.int k)) (.dat d) (x0 :: x1 :: x2 :: some (.lst ds) :: l) Q = (∃ j, ixN ds.length k = some j ∧ Q (x0 :: x1 :: x2 :: some (.lst (ds.set j d)) :: l)) := rfl
theorem r_ag3 (x0 x1 x2 : Option Ob) (k : Int) (ds : List D) (l : Reg) (Q : D → Prop) : augGet (.ptr 3) (.dat (.int k)) (x0 :: x1 :: x2 :: some (.lst ds) :: l) Q = (∃ d, atI ds k = some d ∧ Q d) := rfl
theorem ixN_pos {n : Nat} {i : Int} (h0 : 0 ≤ i) (h1 : i < n) : ixN n i = some i.toNat := by
  unfold ixN
  rw [if_pos h0, if_pos h1]
theorem pow_pos (n : Nat) : (0 : Int) < 2 ^ n := Int.pow_pos (by omega)
theorem eqv_int (i j : Int) : PyData.eqv (.int i) (.int j) = decide (i = j) := by
  rw [PyData.eqv]
  exact Bool.eq_iff_iff.mpr (by simp)
theorem eqv_str (i j : Str) : PyData.eqv (.str i) (.str j) = decide (i = j) := by
  rw [PyData.eqv]
  exact Bool.eq_iff_iff.mpr (by simp)
theorem dep_int (i : Int) : (PyData.int i).depth = 0 := by simp [PyData.depth]
theorem dep_str (i : Str) : (PyData.str i).depth = 0 := by simp [PyData.depth]
theorem ite_i {p : Prop} [Decidable p] {A B : Prop} (h1 : p → A) (h2 : ¬ p → B) : if p then A else B := by
  by_cases h : p
  · rw [if_pos h]; exact h1 h
  · rw [if_neg h]; exact h2 h
theorem r_c0 (n : Str) (sp : PSpec) (Γ : Env) (vs : List Vl) (η : Reg) (Q : Vl → Reg → Prop) : callN ((n, sp) :: Γ) 0 vs η Q = callW sp vs η Q := rfl
theorem r_c1 (x0 : Str × PSpec) (n : Str) (sp : PSpec) (Γ : Env) (vs : List Vl) (η : Reg) (Q : Vl → Reg → Prop) : callN (x0 :: (n, sp) :: Γ) 1 vs η Q = callW sp vs η Q := rfl
theorem r_c2 (x0 : Str × PSpec) (x1 : Str × PSpec) (n : Str) (sp : PSpec) (Γ : Env) (vs : List Vl) (η : Reg) (Q : Vl → Reg → Prop) : callN (x0 :: x1 :: (n, sp) :: Γ) 2 vs η Q = callW sp vs η Q := rfl
theorem r_c3 (x0 : Str × PSpec) (x1 : Str × PSpec) (x2 : Str × PSpec) (n : Str) (sp : PSpec) (Γ : Env) (vs : List Vl) (η : Reg) (Q : Vl → Reg → Prop) : callN (x0 :: x1 :: x2 :: (n, sp) :: Γ) 3 vs η Q = callW sp vs η Q := rfl
theorem r_c4 (x0 : Str × PSpec) (x1 : Str × PSpec) (x2 : Str × PSpec) (x3 : Str × PSpec) (n : Str) (sp : PSpec) (Γ : Env) (vs : List Vl) (η : Reg) (Q : Vl → Reg → Prop) : callN (x0 :: x1 :: x2 :: x3 :: (n, sp) :: Γ) 4 vs η Q = callW sp vs η Q := rfl
theorem r_c5 (x0 : Str × PSpec) (x1 : Str × PSpec) (x2 : Str × PSpec) (x3 : Str × PSpec) (x4 : Str × PSpec) (n : Str) (sp : PSpec) (Γ : Env) (vs : List Vl) (η : Reg) (Q : Vl → Reg → Prop) : callN (x0 :: x1 :: x2 :: x3 :: x4 :: (n, sp) :: Γ) 5 vs η Q = callW sp vs η Q := rfl
theorem r_c6 (x0 : Str × PSpec) (x1 : Str × PSpec) (x2 : Str × PSpec) (x3 : Str × PSpec) (x4 : Str × PSpec) (x5 : Str × PSpec) (n : Str) (sp : PSpec) (Γ : Env) (vs : List Vl) (η : Reg) (Q : Vl → Reg → Prop) : callN (x0 :: x1 :: x2 :: x3 :: x4 :: x5 :: (n, sp) :: Γ) 6 vs η Q = callW sp vs η Q := rfl
theorem r_c7 (x0 : Str × PSpec) (x1 : Str × PSpec) (x2 : Str × PSpec) (x3 : Str × PSpec) (x4 : Str × PSpec) (x5 : Str × PSpec) (x6 : Str × PSpec) (n : Str) (sp : PSpec) (Γ : Env) (vs : List Vl) (η : Reg) (Q : Vl → Reg → Prop) : callN (x0 :: x1 :: x2 :: x3 :: x4 :: x5 :: x6 :: (n, sp) :: Γ) 7 vs η Q = callW sp vs η Q := rfl
theorem r_c8 (x0 : Str × PSpec) (x1 : Str × PSpec) (x2 : Str × PSpec) (x3 : Str × PSpec) (x4 : Str × PSpec) (x5 : Str × PSpec) (x6 : Str × PSpec) (x7 : Str × PSpec) (n : Str) (sp : PSpec) (Γ : Env) (vs : List Vl) (η : Reg) (Q : Vl → Reg → Prop) : callN (x0 :: x1 :: x2 :: x3 :: x4 :: x5 :: x6 :: x7 :: (n, sp) :: Γ) 8 vs η Q = callW sp vs η Q := rfl
theorem r_c9 (x0 : Str × PSpec) (x1 : Str × PSpec) (x2 : Str × PSpec) (x3 : Str × PSpec) (x4 : Str × PSpec) (x5 : Str × PSpec) (x6 : Str × PSpec) (x7 : Str × PSpec) (x8 : Str × PSpec) (n : Str) (sp : PSpec) (Γ : Env) (vs : List Vl) (η : Reg) (Q : Vl → Reg → Prop) : callN (x0 :: x1 :: x2 :: x3 :: x4 :: x5 :: x6 :: x7 :: x8 :: (n, sp) :: Γ) 9 vs η Q = callW sp vs η Q := rfl
theorem r_c10 (x0 : Str × PSpec) (x1 : Str × PSpec) (x2 : Str × PSpec) (x3 : Str × PSpec) (x4 : Str × PSpec) (x5 : Str × PSpec) (x6 : Str × PSpec) (x7 : Str × PSpec) (x8 : Str × PSpec) (x9 : Str × PSpec) (n : Str) (sp : PSpec) (Γ : Env) (vs : List Vl) (η : Reg) (Q : Vl → Reg → Prop) : callN (x0 :: x1 :: x2 :: x3 :: x4 :: x5 :: x6 :: x7 :: x8 :: x9 :: (n, sp) :: Γ) 10 vs η Q = callW sp vs η Q := rfl
theorem r_c11 (x0 : Str × PSpec) (x1 : Str × PSpec) (x2 : Str × PSpec) (x3 : Str × PSpec) (x4 : Str × PSpec) (x5 : Str × PSpec) (x6 : Str × PSpec) (x7 : Str × PSpec) (x8 : Str × PSpec) (x9 : Str × PSpec) (x10 : Str × PSpec) (n : Str) (sp : PSpec) (Γ : Env) (vs : List Vl) (η : Reg) (Q : Vl → Reg → Prop) : callN (x0 :: x1 :: x2 :: x3 :: x4 :: x5 :: x6 :: x7 :: x8 :: x9 :: x10 :: (n, sp) :: Γ) 11 vs η Q = callW sp vs η Q := rfl
theorem r_put1 (n : Nat) (o : Ob) (η : Reg) : putAll [n] [o] η = η.set n (some o) := rfl
theorem r_put0 (os : List Ob) (η : Reg) : putAll [] os η = η := by cases os <;> rfl
theorem call_r {sp : PSpec} {vs vs' : List Vl} {η : Reg} {Q : Vl → Reg → Prop} {n : Nat} {o : Ob} (hv : regsOf vs = [n]) (hr : renum 0 vs = vs') (ho : η[n]? = some (some o)) (h : sp vs' [o] fun v os => os.length = 1 ∧ v.noPtr ∧ Q v (putAll [n] os η)) : callW sp vs η Q := by
  refine ⟨by rw [hv]; exact List.nodup_cons.mpr ⟨by simp, List.nodup_nil⟩, ?_⟩
  rw [hv, hr]
  simp only [obsAt, ho]
  exact h
theorem call_0 {sp : PSpec} {vs : List Vl} {η : Reg} {Q : Vl → Reg → Prop} (hv : regsOf vs = []) (hr : renum 0 vs = vs) (h : sp vs [] fun v os => os.length = 0 ∧ v.noPtr ∧ Q v η) : callW sp vs η Q := call_pure hv hr h
theorem r_ptuple0 (ds : List D) (l : Reg) (Q : Vl → Prop) : biW .tuple [.ptr 0] (some (.lst ds) :: l) Q = Q (.dat (.tuple ds)) := rfl
theorem r_plist0 (ds : List D) (l : Reg) (Q : Vl → Prop) : biW .list [.ptr 0] (some (.lst ds) :: l) Q = Q (.fr (.lst ds)) := rfl
theorem r_psum0 (ds : List D) (l : Reg) (Q : Vl → Prop) : biW .sum [.ptr 0] (some (.lst ds) :: l) Q = intsOf ds fun ns => Q (.dat (.int ns.sum)) := rfl
theorem r_pmin10 (ds : List D) (l : Reg) (Q : Vl → Prop) : biW .min1 [.ptr 0] (some (.lst ds) :: l) Q = intsOf ds fun ns => 0 < ns.length ∧ ∀ m ∈ ns, (∀ y ∈ ns, m ≤ y) → Q (.dat (.int m)) := rfl
theorem r_pmax10 (ds : List D) (l : Reg) (Q : Vl → Prop) : biW .max1 [.ptr 0] (some (.lst ds) :: l) Q = intsOf ds fun ns => 0 < ns.length ∧ ∀ m ∈ ns, (∀ y ∈ ns, y ≤ m) → Q (.dat (.int m)) := rfl
theorem r_pall0 (ds : List D) (l : Reg) (Q : Vl → Prop) : biW .all [.ptr 0] (some (.lst ds) :: l) Q = (∃ bs : List Bool, ds = bs.map PyData.bool ∧ Q (.dat (.bool (bs.all id)))) := rfl
theorem r_pany0 (ds : List D) (l : Reg) (Q : Vl → Prop) : biW .any [.ptr 0] (some (.lst ds) :: l) Q = (∃ bs : List Bool, ds = bs.map PyData.bool ∧ Q (.dat (.bool (bs.any id)))) := rfl
theorem r_psorted0 (ds : List D) (l : Reg) (Q : Vl → Prop) : biW .sorted [.ptr 0] (some (.lst ds) :: l) Q = ((PySem.W.AllAlike ds ∧ PySem.W.Sortable ds ∧ ∀ d ∈ ds, d.depth ≤ 50) ∧ Q (.fr (.lst (ds.mergeSort (PySem.W.dataLe false id))))) := rfl
theorem r_ptuple1 (x0 : Option Ob) (ds : List D) (l : Reg) (Q : Vl → Prop) : biW .tuple [.ptr 1] (x0 :: some (.lst ds) :: l) Q = Q (.dat (.tuple ds)) := rfl
theorem r_plist1 (x0 : Option Ob) (ds : List D) (l : Reg) (Q : Vl → Prop) : biW .list [.ptr 1] (x0 :: some (.lst ds) :: l) Q = Q (.fr (.lst ds)) := rfl
theorem r_psum1 (x0 : Option Ob) (ds : List D) (l : Reg) (Q : Vl → Prop) : biW .sum [.ptr 1] (x0 :: some (.lst ds) :: l) Q = intsOf ds fun ns => Q (.dat (.int ns.sum)) := rfl
theorem r_pmin11 (x0 : Option Ob) (ds : List D) (l : Reg) (Q : Vl → Prop) : biW .min1 [.ptr 1] (x0 :: some (.lst ds) :: l) Q = intsOf ds fun ns => 0 < ns.length ∧ ∀ m ∈ ns, (∀ y ∈ ns, m ≤ y) → Q (.dat (.int m)) := rfl
theorem r_pmax11 (x0 : Option Ob) (ds : List D) (l : Reg) (Q : Vl → Prop) : biW .max1 [.ptr 1] (x0 :: some (.lst ds) :: l) Q = intsOf ds fun ns => 0 < ns.length ∧ ∀ m ∈ ns, (∀ y ∈ ns, y ≤ m) → Q (.dat (.int m)) := rfl
theorem r_pall1 (x0 : Option Ob) (ds : List D) (l : Reg) (Q : Vl → Prop) : biW .all [.ptr 1] (x0 :: some (.lst ds) :: l) Q = (∃ bs : List Bool, ds = bs.map PyData.bool ∧ Q (.dat (.bool (bs.all id)))) := rfl
theorem r_pany1 (x0 : Option Ob) (ds : List D) (l : Reg) (Q : Vl → Prop) : biW .any [.ptr 1] (x0 :: some (.lst ds) :: l) Q = (∃ bs : List Bool, ds = bs.map PyData.bool ∧ Q (.dat (.bool (bs.any id)))) := rfl
theorem r_psorted1 (x0 : Option Ob) (ds : List D) (l : Reg) (Q : Vl → Prop) : biW .sorted [.ptr 1] (x0 :: some (.lst ds) :: l) Q = ((PySem.W.AllAlike ds ∧ PySem.W.Sortable ds ∧ ∀ d ∈ ds, d.depth ≤ 50) ∧ Q (.fr (.lst (ds.mergeSort (PySem.W.dataLe false id))))) := rfl
theorem r_ptuple2 (x0 x1 : Option Ob) (ds : List D) (l : Reg) (Q : Vl → Prop) : biW .tuple [.ptr 2] (x0 :: x1 :: some (.lst ds) :: l) Q = Q (.dat (.tuple ds)) := rfl
theorem r_plist2 (x0 x1 : Option Ob) (ds : List D) (l : Reg) (Q : Vl → Prop) : biW .list [.ptr 2] (x0 :: x1 :: some (.lst ds) :: l) Q = Q (.fr (.lst ds)) := rfl
theorem r_psum2 (x0 x1 : Option Ob) (ds : List D) (l : Reg) (Q : Vl → Prop) : biW .sum [.ptr 2] (x0 :: x1 :: some (.lst ds) :: l) Q = intsOf ds fun ns => Q (.dat (.int ns.sum)) := rfl
theorem r_pmin12 (x0 x1 : Option Ob) (ds : List D) (l : Reg) (Q : Vl → Prop) : biW .min1 [.ptr 2] (x0 :: x1 :: some (.lst ds) :: l) Q = intsOf ds fun ns => 0 < ns.length ∧ ∀ m ∈ ns, (∀ y ∈ ns, m ≤ y) → Q (.dat (.int m)) := rfl
theorem r_pmax12 (x0 x1 : Option Ob) (ds : List D) (l : Reg) (Q : Vl → Prop) : biW .max1 [.ptr 2] (x0 :: x1 :: some (.lst ds) :: l) Q = intsOf ds fun ns => 0 < ns.length ∧ ∀ m ∈ ns, (∀ y ∈ ns, y ≤ m) → Q (.dat (.int m)) := rfl
theorem r_pall2 (x0 x1 : Option Ob) (ds : List D) (l : Reg) (Q : Vl → Prop) : biW .all [.ptr 2] (x0 :: x1 :: some (.lst ds) :: l) Q = (∃ bs : List Bool, ds = bs.map PyData.bool ∧ Q (.dat (.bool (bs.all id)))) := rfl
theorem r_pany2 (x0 x1 : Option Ob) (ds : List D) (l : Reg) (Q : Vl → Prop) : biW .any [.ptr 2] (x0 :: x1 :: some (.lst ds) :: l) Q = (∃ bs : List Bool, ds = bs.map PyData.bool ∧ Q (.dat (.bool (bs.any id)))) := rfl
theorem r_psorted2 (x0 x1 : Option Ob) (ds : List D) (l : Reg) (Q : Vl → Prop) : biW .sorted [.ptr 2] (x0 :: x1 :: some (.lst ds) :: l) Q = ((PySem.W.AllAlike ds ∧ PySem.W.Sortable ds ∧ ∀ d ∈ ds, d.depth ≤ 50) ∧ Q (.fr (.lst (ds.mergeSort (PySem.W.dataLe false id))))) := rfl
theorem r_ptuple3 (x0 x1 x2 : Option Ob) (ds : List D) (l : Reg) (Q : Vl → Prop) : biW .tuple [.ptr 3] (x0 :: x1 :: x2 :: some (.lst ds) :: l) Q = Q (.dat (.tuple ds)) := rfl
theorem r_plist3 (x0 x1 x2 : Option Ob) (ds : List D) (l : Reg) (Q : Vl → Prop) : biW .list [.ptr 3] (x0 :: x1 :: x2 :: some (.lst ds) :: l) Q = Q (.fr (.lst ds)) := rfl
theorem r_psum3 (x0 x1 x2 : Option Ob) (ds : List D) (l : Reg) (Q : Vl → Prop) : biW .sum [.ptr 3] (x0 :: x1 :: x2 :: some (.lst ds) :: l) Q = intsOf ds fun ns => Q (.dat (.int ns.sum)) := rfl
theorem r_pmin13 (x0 x1 x2 : Option Ob) (ds : List D) (l : Reg) (Q : Vl → Prop) : biW .min1 [.ptr 3] (x0 :: x1 :: x2 :: some (.lst ds) :: l) Q = intsOf ds fun ns => 0 < ns.length ∧ ∀ m ∈ ns, (∀ y ∈ ns, m ≤ y) → Q (.dat (.int m)) := rfl
theorem r_pmax13 (x0 x1 x2 : Option Ob) (ds : List D) (l : Reg) (Q : Vl → Prop) : biW .max1 [.ptr 3] (x0 :: x1 :: x2 :: some (.lst ds) :: l) Q = intsOf ds fun ns => 0 < ns.length ∧ ∀ m ∈ ns, (∀ y ∈ ns, y ≤ m) → Q (.dat (.int m)) := rfl
theorem r_pall3 (x0 x1 x2 : Option Ob) (ds : List D) (l : Reg) (Q : Vl → Prop) : biW .all [.ptr 3] (x0 :: x1 :: x2 :: some (.lst ds) :: l) Q = (∃ bs : List Bool, ds = bs.map PyData.bool ∧ Q (.dat (.bool (bs.all id)))) := rfl
theorem r_pany3 (x0 x1 x2 : Option Ob) (ds : List D) (l : Reg) (Q : Vl → Prop) : biW .any [.ptr 3] (x0 :: x1 :: x2 :: some (.lst ds) :: l) Q = (∃ bs : List Bool, ds = bs.map PyData.bool ∧ Q (.dat (.bool (bs.any id)))) := rfl
theorem r_psorted3 (x0 x1 x2 : Option Ob) (ds : List D) (l : Reg) (Q : Vl → Prop) : biW .sorted [.ptr 3] (x0 :: x1 :: x2 :: some (.lst ds) :: l) Q = ((PySem.W.AllAlike ds ∧ PySem.W.Sortable ds ∧ ∀ d ∈ ds, d.depth ≤ 50) ∧ Q (.fr (.lst (ds.mergeSort (PySem.W.dataLe false id))))) := rfl
theorem r_stab (d : D) (ds : List D) (η : Reg) : stab (.dat d) ds η = True := rfl
theorem r_wipe0 (ρ : Sl) : wipeL ρ [] = ρ := rfl
theorem r_wipe1 (ρ : Sl) (v : Nat) (vs : List Nat) : wipeL ρ (v :: vs) = (wipeL ρ vs).set v none := rfl
mutual
theorem eqv_refl : ∀ d : D, d.plain = true → PyData.eqv d d = true
  | .none, _ => by rw [PyData.eqv]
  | .bool b, _ => by rw [PyData.eqv]; simp
  | .int i, _ => by rw [PyData.eqv]; simp
  | .str x, _ => by rw [PyData.eqv]; simp
  | .list xs, h => by rw [PyData.eqv]; rw [PyData.plain] at h; exact eqvAll_refl xs h
  | .tuple xs, h => by rw [PyData.eqv]; rw [PyData.plain] at h; exact eqvAll_refl xs h
  | .dict _, h => by rw [PyData.plain] at h; cases h
theorem eqvAll_refl : ∀ xs : List D, PyData.plainAll xs = true → PyData.eqvAll xs xs = true
  | [], _ => by rw [PyData.eqvAll]
  | x :: xs, h => by
    rw [PyData.plainAll, Bool.and_eq_true] at h
    rw [PyData.eqvAll, eqv_refl x h.1, eqvAll_refl xs h.2]; rfl
end
theorem plain_strs : ∀ xs : List Str, PyData.plainAll (xs.map PyData.str) = true
  | [] => by rw [List.map_nil, PyData.plainAll]
  | x :: xs => by rw [List.map_cons, PyData.plainAll, plain_strs xs, PyData.plain]; rfl
theorem dep_strs : ∀ xs : List Str, PyData.depthAll (xs.map PyData.str) ≤ 1
  | [] => by rw [List.map_nil, PyData.depthAll]; omega
  | x :: xs => by
    have := dep_strs xs
    rw [List.map_cons, PyData.depthAll, dep_str]
    omega
theorem atI_neg1 {α : Type} {xs : List α} {z : α} (h : xs.getLast? = some z) : atI xs (-1) = some z := by
  have hl : 0 < xs.length := by
    cases xs with
    | nil => cases h
    | cons a b => simp
  rw [List.getLast?_eq_getElem?] at h
  unfold atI ixN
  rw [if_neg (by omega), if_pos (by omega)]
  show xs[(-1 + (xs.length : Int)).toNat]? = some z
  rw [← h]
  congr 1
  omega
/-! comprehensions -/
def stepLc (tg : Tg) (own : List Nat) (ct : LTT) (elt : LTE) (ρ : Sl) (d : D) (η : Reg) (K : Option D → Reg → Prop) : Prop :=
  wTg tg d (wipeL ρ own) fun ρ' => ct ρ' η fun b η1 => if b = true then elt ρ' η1 fun v η2 => v.fz.onD fun e => K (some e) η2 else K none η1
theorem wLc_cons {tg : Tg} {own : List Nat} {ct : LTT} {elt : LTE} {ok : Reg → Prop} {ρ : Sl} {d : D} {r : List D} {η : Reg} {Q : List D → Reg → Prop}
    (h : stepLc tg own ct elt ρ d η fun o η' => match o with
      | some e => ok η' ∧ wLc tg own ct elt ok ρ r η' fun es η3 => Q (e :: es) η3
      | none => ok η' ∧ wLc tg own ct elt ok ρ r η' Q) : wLc tg own ct elt ok ρ (d :: r) η Q := h
/-- nothing changes but the new list -/
theorem lc_pure {tg : Tg} {own : List Nat} {ct : LTT} {elt : LTE} {ok : Reg → Prop} {ρ : Sl} {η : Reg} (f : D → Option D) (hok : ok η) : ∀ (ds : List D) {Q : List D → Reg → Prop}, (∀ d ∈ ds, ∀ K : Option D → Reg → Prop, K (f d) η → stepLc tg own ct elt ρ d η K) →
    Q (ds.filterMap f) η → wLc tg own ct elt ok ρ ds η Q
  | [], Q, _, q => q
  | d :: r, Q, h, q => by
    refine wLc_cons (h d List.mem_cons_self _ ?_)
    rw [List.filterMap_cons] at q
    cases e : f d with
    | none =>
      rw [e] at q
      exact ⟨hok, lc_pure f hok r (fun d hd => h d (List.mem_cons_of_mem _ hd)) q⟩
    | some x =>
      rw [e] at q
      exact ⟨hok, lc_pure f hok r (fun d hd => h d (List.mem_cons_of_mem _ hd)) (Q := fun es η3 => Q (x :: es) η3) q⟩
/-- with an invariant of the registers; R: what an item's place holds -/
inductive Outs (R : D → Option D → Prop) : List D → List D → Prop
  | nil : Outs R [] []
  | put {d e : D} {ds es : List D} : R d (some e) → Outs R ds es → Outs R (d :: ds) (e :: es)
  | skip {d : D} {ds es : List D} : R d none → Outs R ds es → Outs R (d :: ds) es
theorem lc_inv {tg : Tg} {own : List Nat} {ct : LTT} {elt : LTE} {ok : Reg → Prop} {ρ : Sl} (I : Reg → Prop) (R : D → Option D → Prop) (hok : ∀ η, I η → ok η) : ∀ (ds : List D) {η : Reg} {Q : List D → Reg → Prop}, I η →
    (∀ d ∈ ds, ∀ (η : Reg) (K : Option D → Reg → Prop), I η → (∀ o η', I η' → R d o → K o η') → stepLc tg own ct elt ρ d η K) →
    (∀ es η', I η' → Outs R ds es → Q es η') → wLc tg own ct elt ok ρ ds η Q
  | [], η, Q, hi, _, q => q [] η hi .nil
  | d :: r, η, Q, hi, h, q => by
    refine wLc_cons (h d List.mem_cons_self _ _ hi fun o η' hi' hr => ?_)
    cases o with
    | none => exact ⟨hok _ hi', lc_inv I R hok r hi' (fun d hd => h d (List.mem_cons_of_mem _ hd)) fun es η2 hi2 ho => q es η2 hi2 (.skip hr ho)⟩
    | some x => exact ⟨hok _ hi', lc_inv I R hok r hi' (fun d hd => h d (List.mem_cons_of_mem _ hd)) fun es η2 hi2 ho => q (x :: es) η2 hi2 (.put hr ho)⟩
/-! loops -/
theorem for_inv {tg : Tg} {body : LTS} {ok : Reg → Prop} {P : LEnds} (I : List D → Sl → Reg → Prop)
    (step : ∀ d r ρ η (N : Sl → Reg → Prop), I (d :: r) ρ η → (∀ ρ η, I r ρ η → N ρ η) → wTg tg d ρ fun ρ' => body { P with nx := fun ρ η => ok η ∧ N ρ η, ct := fun ρ η => ok η ∧ N ρ η, bk := P.nx } ρ' η) (fin : ∀ ρ η, I [] ρ η → P.nx ρ η) :
    ∀ (ds : List D) {ρ : Sl} {η : Reg}, I ds ρ η → wFor tg body ok ds P ρ η
  | [], ρ, η, h => fin ρ η h
  | d :: r, ρ, η, h => step d r ρ η _ h fun ρ η h => for_inv I step fin r h
theorem wFn_of {Γ : Env} {body : Ss} {m n : Nat} {vs : List Vl} {obs : List Ob} {Q : Vl → List Ob → Prop} {P : LEnds} (hP : P = ⟨fun _ η => (match outs obs.length η with
      | some os => Q (.dat .none) os
      | none => False),
    fun v η => (match outs obs.length η with
      | some os => v.noPtr ∧ Q v os
      | none => False), fun _ _ => False, fun _ _ => False⟩) (h : wSs Γ body P (vs.map some ++ List.replicate (m - vs.length) none) (obs.map some ++ List.replicate n none)) : wFn Γ body m n vs obs Q := by
  subst hP; exact h

/-! ## the draw -/
/-- the stand of the draw: cells, place, what is left of a large cell, seed -/
def Std (o : Ob) : Prop := ∃ (cells : List Int) (i pend seed : Int), o = .lst [cellsD cells, .int i, .int pend, .int seed, .int 3] ∧ 0 ≤ i
theorem Std.first (cells : List Int) : Std (stand cells) := ⟨cells, 0, 0, 7, rfl, by omega⟩
def spDraw : PSpec := fun vs obs Q => ∃ (many : Int) (o : Ob), vs = [.ptr 0, .dat (.int many)] ∧ obs = [o] ∧ Std o ∧ 0 < many ∧ many < 1073741824 ∧ ∀ (r : Int) (o' : Ob), 0 ≤ r → r < many → Std o' → Q (.dat (.int r)) [o']
theorem draw_w {η : Reg} {n : Nat} {o : Ob} {many : Int} {Q : Vl → Reg → Prop} (ho : η[n]? = some (some o)) (hs : Std o) (h0 : 0 < many) (h1 : many < 1073741824)
    (k : ∀ (r : Int) (o' : Ob), 0 ≤ r → r < many → Std o' → Q (.dat (.int r)) (η.set n (some o'))) : callW spDraw [.ptr n, .dat (.int many)] η Q := by
  refine ⟨by simp [regsOf], ?_⟩
  simp only [regsOf, obsAt, ho]
  exact ⟨many, o, rfl, rfl, hs, h0, h1, fun r o' a b c => ⟨rfl, trivial, k r o' a b c⟩⟩
end Pl

namespace Pl
open PySem PySem.Spec PyProof.Rows L2

/-! ## whole numbers, ranges, lists of numbers -/
abbrev iD (ns : List Int) : List D := ns.map PyData.int
theorem rng_zero (n : Nat) : rangeD 0 n = (List.range n).map fun k => PyData.int (k : Nat) := by
  unfold rangeD
  simp
theorem rng_mem {lo : Int} {n : Nat} {d : D} (h : d ∈ rangeD lo n) : ∃ k : Nat, k < n ∧ d = .int (lo + (k : Nat)) := by
  unfold rangeD at h
  obtain ⟨k, hk, rfl⟩ := List.mem_map.mp h
  exact ⟨k, List.mem_range.mp hk, rfl⟩
theorem rng_size (lo : Int) (n : Nat) : (rangeD lo n).length = n := by unfold rangeD; rw [List.length_map, List.length_range]
theorem iD_add (ns : List Int) (i : Int) : iD ns ++ [.int i] = iD (ns ++ [i]) := by
  show _ = (ns ++ [i]).map PyData.int
  rw [List.map_append]
  rfl
theorem rng_cons (lo : Int) (n : Nat) : rangeD lo (n + 1) = .int lo :: rangeD (lo + 1) n := by
  unfold rangeD
  rw [List.range_succ_eq_map, List.map_cons, List.map_map]
  congr 1
  · simp
  · refine List.map_congr_left fun k _ => ?_
    show PyData.int (lo + ((k + 1 : Nat) : Int)) = .int (lo + 1 + (k : Int))
    congr 1
    omega
/-- a loop over a range -/
theorem for_rng {i : Nat} {body : LTS} {ok : Reg → Prop} {P : LEnds} (I : Nat → Sl → Reg → Prop) (lo n : Nat)
    (step : ∀ k ρ η (N : Sl → Reg → Prop), lo ≤ k → k < lo + n → I k ρ η → (∀ ρ η, I (k + 1) ρ η → N ρ η) → body { P with nx := fun ρ η => ok η ∧ N ρ η, ct := fun ρ η => ok η ∧ N ρ η, bk := P.nx } (ρ.set i (some (.dat (.int (k : Nat))))) η)
    (fin : ∀ ρ η, I (lo + n) ρ η → P.nx ρ η) {ρ : Sl} {η : Reg} (h : I lo ρ η) : wFor (.one i) body ok (rangeD lo n) P ρ η := by
  have go : ∀ (m k : Nat) (ρ : Sl) (η : Reg), lo ≤ k → k + m = lo + n → I k ρ η → wFor (.one i) body ok (rangeD k m) P ρ η := by
    intro m
    induction m with
    | zero =>
      intro k ρ η _ e h
      have : k = lo + n := by omega
      subst this
      exact fin ρ η h
    | succ m ih =>
      intro k ρ η hk e h
      rw [rng_cons]
      refine step k ρ η _ hk (by omega) h fun ρ η h => ?_
      have := ih (k + 1) ρ η (by omega) (by omega) h
      exact this
  exact go n lo ρ η (Nat.le_refl _) rfl h
theorem for_rng0 {i : Nat} {body : LTS} {ok : Reg → Prop} {P : LEnds} (I : Nat → Sl → Reg → Prop) (n : Nat)
    (step : ∀ k ρ η (N : Sl → Reg → Prop), k < n → I k ρ η → (∀ ρ η, I (k + 1) ρ η → N ρ η) → body { P with nx := fun ρ η => ok η ∧ N ρ η, ct := fun ρ η => ok η ∧ N ρ η, bk := P.nx } (ρ.set i (some (.dat (.int (k : Nat))))) η)
    (fin : ∀ ρ η, I n ρ η → P.nx ρ η) {ρ : Sl} {η : Reg} (h : I 0 ρ η) : wFor (.one i) body ok (rangeD 0 n) P ρ η :=
  for_rng I 0 n (fun k ρ η N _ hk => step k ρ η N (by omega)) (fun ρ η h => fin ρ η (by rw [Nat.zero_add] at h; exact h)) h
theorem at_ints {ns : List Int} {k : Nat} (h : k < ns.length) : atI (iD ns) (k : Int) = some (.int (ns.getD k 0)) := by
  refine atI_nat ?_
  rw [List.getElem?_map, List.getElem?_eq_getElem h, List.getD_eq_getElem?_getD, List.getElem?_eq_getElem h]
  rfl
theorem ix_ints {ns : List Int} {k : Nat} (h : k < ns.length) (Q : D → Prop) (q : Q (.int (ns.getD k 0))) : ∃ d, atI (iD ns) (k : Int) = some d ∧ Q d := ⟨_, at_ints h, q⟩
theorem outs_ints {R : D → Option D → Prop} {P : Int → Prop} (hR : ∀ d o, R d o → ∃ r, o = some (.int r) ∧ P r) : ∀ {ds es : List D}, Outs R ds es → ∃ ns : List Int, es = iD ns ∧ ns.length = ds.length ∧ ∀ r ∈ ns, P r
  | _, _, .nil => ⟨[], rfl, rfl, fun _ h => nomatch h⟩
  | _, _, .put r t => by
    obtain ⟨ns, rfl, hl, hp⟩ := outs_ints hR t
    obtain ⟨i, e, p⟩ := hR _ _ r
    cases e
    exact ⟨i :: ns, rfl, by rw [List.length_cons, List.length_cons, hl], fun x hx => by
      rcases List.mem_cons.mp hx with rfl | hx
      · exact p
      · exact hp x hx⟩
  | _, _, .skip r t => by
    obtain ⟨i, e, p⟩ := hR _ _ r
    cases e
theorem ints_of : ∀ {xs : List D}, (∀ d ∈ xs, ∃ i : Int, d = .int i) → ∃ ns : List Int, xs = iD ns
  | [], _ => ⟨[], rfl⟩
  | x :: xs, h => by
    obtain ⟨i, rfl⟩ := h x List.mem_cons_self
    obtain ⟨ns, rfl⟩ := ints_of fun d hd => h d (List.mem_cons_of_mem _ hd)
    exact ⟨i :: ns, rfl⟩
/-- several numbers sorted -/
theorem sort_ints (ns : List Int) : (PySem.W.AllAlike (iD ns) ∧ PySem.W.Sortable (iD ns) ∧ ∀ d ∈ iD ns, d.depth ≤ 50) ∧ ∃ ms : List Int, (iD ns).mergeSort (PySem.W.dataLe false id) = iD ms ∧ ms.length = ns.length := by
  have isI : ∀ d ∈ iD ns, ∃ i : Int, d = .int i := fun d hd => by
    obtain ⟨i, _, rfl⟩ := List.mem_map.mp hd
    exact ⟨i, rfl⟩
  have pm := List.mergeSort_perm (iD ns) (PySem.W.dataLe false id)
  refine ⟨⟨fun d hd e he => ?_, .inr fun d hd => ?_, fun d hd => ?_⟩, ?_⟩
  · obtain ⟨i, rfl⟩ := isI d hd
    obtain ⟨j, rfl⟩ := isI e he
    rfl
  · obtain ⟨i, rfl⟩ := isI d hd
    exact ⟨fun e => (nomatch e), fun xs e => (nomatch e)⟩
  · obtain ⟨i, rfl⟩ := isI d hd
    rw [dep_int]; omega
  · obtain ⟨ms, e⟩ := ints_of fun d hd => isI d (pm.mem_iff.mp hd)
    refine ⟨ms, e, ?_⟩
    have := pm.length_eq
    rw [e, List.length_map, List.length_map] at this
    exact this
/-! bits -/
theorem n_shl (n : Nat) : (1 : Int) * 2 ^ (Int.toNat (n : Nat)) = ((2 ^ n : Nat) : Int) := by
  rw [Int.toNat_natCast, Int.one_mul]
  simp
theorem n_band (a b : Nat) : Builtin.bitAnd (a : Int) (b : Int) = ((a &&& b : Nat) : Int) := by
  unfold Builtin.bitAnd
  rw [decide_eq_true (Int.natCast_nonneg a), decide_eq_true (Int.natCast_nonneg b)]
  rfl
theorem n_not (a : Nat) : Builtin.bitNot (a : Int) = -((a : Int) + 1) := by
  unfold Builtin.bitNot
  omega
theorem n_bor (a b : Nat) : Builtin.bitOr (a : Int) (b : Int) = ((a ||| b : Nat) : Int) := by
  have e : ∀ c : Nat, Builtin.bitNot (-((c : Int) + 1)) = c := fun c => by unfold Builtin.bitNot; omega
  unfold Builtin.bitOr
  rw [n_not, n_not]
  unfold Builtin.bitAnd
  rw [decide_eq_false (by omega), decide_eq_false (by omega)]
  dsimp only
  rw [e, e, n_not]
  unfold Builtin.bitNot
  rw [Int.toNat_natCast, Int.toNat_natCast]
  omega
theorem n_bit (m j : Nat) : Builtin.bitAnd ((m : Int) / 2 ^ (Int.toNat (j : Nat))) 1 = ((m / 2 ^ j % 2 : Nat) : Int) := by
  have e : (m : Int) / 2 ^ (Int.toNat (j : Nat)) = ((m / 2 ^ j : Nat) : Int) := by
    rw [Int.toNat_natCast]
    simp
  rw [e, show (1 : Int) = ((1 : Nat) : Int) from rfl, n_band, Nat.and_one_is_mod]
theorem n_bitq (m j : Nat) : PyData.eqv (.int ((m / 2 ^ j % 2 : Nat) : Int)) (.int 1) = m.testBit j := by
  rw [eqv_int, Nat.testBit_eq_decide_div_mod_eq]
  exact decide_eq_decide.mpr (by omega)
theorem sh_small {j : Nat} (h : j ≤ 1000) : ShOk 1 (j : Int) := ⟨by omega, .inl ⟨by omega, by decide⟩⟩
theorem nat_nn (j : Nat) : (0 : Int) ≤ (j : Int) := Int.natCast_nonneg j
theorem cut_ints (ns : List Int) (lo hi : Option Int) : cutL (iD ns) lo hi = iD (cutL ns lo hi) := by
  unfold cutL iD
  rw [List.length_map, List.map_take, List.map_drop]
theorem intsOf_ints {ns : List Int} {Q : List Int → Prop} (q : Q ns) : intsOf (iD ns) Q := ⟨ns, rfl, q⟩
theorem eqvAll_ints (xs ys : List Int) : PyData.eqvAll (iD xs) (iD ys) = decide (xs = ys) := by
  induction xs generalizing ys with
  | nil =>
    cases ys with
    | nil => rw [PyData.eqvAll.eq_def]; rfl
    | cons y ys => rw [PyData.eqvAll.eq_def]; rfl
  | cons x xs ih =>
    cases ys with
    | nil => rw [PyData.eqvAll.eq_def]; rfl
    | cons y ys =>
      show PyData.eqvAll (.int x :: iD xs) (.int y :: iD ys) = _
      rw [PyData.eqvAll, eqv_int, ih]
      rw [Bool.eq_iff_iff]
      simp
end Pl

namespace Pl
open PySem PySem.Spec PyProof.Rows L2

/-! ## sets of columns as numbers -/
theorem band_nat (a b : Nat) : Builtin.bitAnd (a : Int) (b : Int) = ((a &&& b : Nat) : Int) := by
  unfold Builtin.bitAnd
  rw [decide_eq_true (Int.natCast_nonneg a), decide_eq_true (Int.natCast_nonneg b)]
  rfl
theorem two_bit (i k : Nat) : (2 ^ i).testBit k = decide (i = k) := Nat.testBit_two_pow
def orL (S : Nat) (l : List Nat) : Nat := l.foldl (fun m i => m ||| 2 ^ i) S
theorem orL_bit : ∀ (l : List Nat) (S k : Nat), (orL S l).testBit k = (S.testBit k || decide (k ∈ l))
  | [], S, k => by simp [orL]
  | i :: l, S, k => by
    show (orL (S ||| 2 ^ i) l).testBit k = _
    rw [orL_bit l, Nat.testBit_or, two_bit]
    by_cases h : i = k
    · subst h; simp
    · have : k ≠ i := fun e => h e.symm
      simp [h, this]
theorem orL_lt {n : Nat} : ∀ (l : List Nat) (S : Nat), S < 2 ^ n → (∀ i ∈ l, i < n) → orL S l < 2 ^ n
  | [], S, h, _ => h
  | i :: l, S, h, hl => orL_lt l _ (Nat.or_lt_two_pow h (Nat.pow_lt_pow_right (by omega) (hl i List.mem_cons_self))) fun j hj => hl j (List.mem_cons_of_mem _ hj)
theorem or_ext {a b : Nat} (h : ∀ k, a.testBit k = b.testBit k) : a = b := Nat.eq_of_testBit_eq h
def SubL (n : Nat) (f : Nat → Int) : Prop := ∀ m i j : Nat, m < 2 ^ n → i < n → j < n → i ≠ j → m.testBit i = false → m.testBit j = false →
  f m ≤ f (m ||| 2 ^ i) ∧ f (m ||| 2 ^ j) ≤ f (m ||| 2 ^ i ||| 2 ^ j) ∧ f (m ||| 2 ^ i ||| 2 ^ j) + f m ≤ f (m ||| 2 ^ i) + f (m ||| 2 ^ j)
def SubG (n : Nat) (f : Nat → Int) : Prop := ∀ a b : Nat, a < 2 ^ n → b < a → (a &&& b = b → f b ≤ f a) ∧ f (a ||| b) + f (a &&& b) ≤ f a + f b
section
variable {n : Nat} {f : Nat → Int}
theorem or_swap (S i j : Nat) : S ||| 2 ^ i ||| 2 ^ j = S ||| 2 ^ j ||| 2 ^ i := or_ext fun k => by
  simp only [Nat.testBit_or]
  cases S.testBit k <;> cases (2 ^ i).testBit k <;> cases (2 ^ j).testBit k <;> rfl
theorem bit_lt {A i : Nat} (h : A < 2 ^ n) (hb : A.testBit i = true) : i < n := by
  by_cases q : i < n
  · exact q
  · have : A < 2 ^ i := Nat.lt_of_lt_of_le h (Nat.pow_le_pow_right (by omega) (by omega))
    rw [Nat.testBit_lt_two_pow this] at hb
    cases hb
theorem one_up (L : SubL n f) (h2 : 2 ≤ n) {m i : Nat} (hm : m < 2 ^ n) (hi : i < n) (hb : m.testBit i = false) : f m ≤ f (m ||| 2 ^ i) := by
  obtain ⟨j, hj, hij⟩ : ∃ j, j < n ∧ i ≠ j := by
    by_cases h : i = 0
    · exact ⟨1, by omega, by omega⟩
    · exact ⟨0, by omega, h⟩
  cases q : m.testBit j with
  | false => exact (L m i j hm hi hj hij hb q).1
  | true =>
    have bits : ∀ k, (m ^^^ 2 ^ j).testBit k = (m.testBit k && !decide (j = k)) := fun k => by
      rw [Nat.testBit_xor, two_bit]
      by_cases h : j = k
      · subst h; simp [q]
      · simp [h]
    have hlt : m ^^^ 2 ^ j < 2 ^ n := Nat.xor_lt_two_pow hm (Nat.pow_lt_pow_right (by omega) hj)
    have := (L (m ^^^ 2 ^ j) i j hlt hi hj hij (by rw [bits, hb]; rfl) (by rw [bits]; simp)).2.1
    have e1 : (m ^^^ 2 ^ j) ||| 2 ^ j = m := or_ext fun k => by
      rw [Nat.testBit_or, bits, two_bit]
      by_cases h : j = k
      · subst h; simp [q]
      · simp [h]
    have e2 : (m ^^^ 2 ^ j) ||| 2 ^ i ||| 2 ^ j = m ||| 2 ^ i := by rw [or_swap, e1]
    rw [e1, e2] at this
    exact this
theorem up (L : SubL n f) (h2 : 2 ≤ n) : ∀ (l : List Nat) (S : Nat), S < 2 ^ n → (∀ i ∈ l, i < n) → f S ≤ f (orL S l)
  | [], S, _, _ => Int.le_refl _
  | i :: l, S, h, hl => by
    have hi := hl i List.mem_cons_self
    have h' : S ||| 2 ^ i < 2 ^ n := Nat.or_lt_two_pow h (Nat.pow_lt_pow_right (by omega) hi)
    have ih := up L h2 l (S ||| 2 ^ i) h' fun j hj => hl j (List.mem_cons_of_mem _ hj)
    refine Int.le_trans ?_ ih
    cases q : S.testBit i with
    | false => exact one_up L h2 h hi q
    | true =>
      have : S ||| 2 ^ i = S := or_ext fun k => by
        rw [Nat.testBit_or, two_bit]
        by_cases e : i = k
        · subst e; simp [q]
        · simp [e]
      rw [this]
      exact Int.le_refl _
theorem dim (L : SubL n f) : ∀ (l : List Nat) (S x : Nat), S < 2 ^ n → x < n → S.testBit x = false → x ∉ l → (∀ i ∈ l, i < n ∧ S.testBit i = false) → l.Nodup → f (orL S l ||| 2 ^ x) + f S ≤ f (S ||| 2 ^ x) + f (orL S l)
  | [], S, x, _, _, _, _, _, _ => Int.le_refl _
  | i :: l, S, x, hS, hx, hb, hn, hl, nd => by
    have hi := hl i List.mem_cons_self
    have hxi : x ≠ i := fun e => hn (by rw [e]; exact List.mem_cons_self)
    have nd' := List.nodup_cons.mp nd
    have ih := dim L l (S ||| 2 ^ i) x (Nat.or_lt_two_pow hS (Nat.pow_lt_pow_right (by omega) hi.1)) hx (by rw [Nat.testBit_or, two_bit, hb]; simp; exact fun e => hxi e.symm) (fun h => hn (List.mem_cons_of_mem _ h))
      (fun j hj => ⟨(hl j (List.mem_cons_of_mem _ hj)).1, by
        rw [Nat.testBit_or, two_bit, (hl j (List.mem_cons_of_mem _ hj)).2]
        simp
        exact fun e => nd'.1 (by rw [e]; exact hj)⟩) nd'.2
    have loc := (L S x i hS hx hi.1 hxi hb hi.2).2.2
    rw [or_swap S x i] at loc
    show f (orL (S ||| 2 ^ i) l ||| 2 ^ x) + f S ≤ f (S ||| 2 ^ x) + f (orL (S ||| 2 ^ i) l)
    omega
theorem orL_swap (l : List Nat) (S i : Nat) : orL S l ||| 2 ^ i = orL (S ||| 2 ^ i) l := or_ext fun k => by
  rw [Nat.testBit_or, orL_bit, orL_bit, Nat.testBit_or]
  cases S.testBit k <;> cases (2 ^ i).testBit k <;> simp
theorem both (L : SubL n f) (t : List Nat) (nt : t.Nodup) : ∀ (l : List Nat) (S : Nat), S < 2 ^ n → (∀ i ∈ l, i < n ∧ S.testBit i = false ∧ i ∉ t) → (∀ i ∈ t, i < n ∧ S.testBit i = false ∧ i ∉ l) → l.Nodup → f (orL (orL S t) l) + f S ≤ f (orL S l) + f (orL S t)
  | [], S, _, _, _, _ => by show f (orL S t) + f S ≤ f S + f (orL S t); omega
  | i :: l, S, hS, hl, ht, nd => by
    have hi := hl i List.mem_cons_self
    have nd' := List.nodup_cons.mp nd
    have d := dim L t S i hS hi.1 hi.2.1 hi.2.2 (fun j hj => ⟨(ht j hj).1, (ht j hj).2.1⟩) nt
    have ih := both L t nt l (S ||| 2 ^ i) (Nat.or_lt_two_pow hS (Nat.pow_lt_pow_right (by omega) hi.1)) (fun j hj => by
        have h := hl j (List.mem_cons_of_mem _ hj)
        refine ⟨h.1, ?_, h.2.2⟩
        rw [Nat.testBit_or, two_bit, h.2.1]
        simp
        exact fun e => nd'.1 (by rw [e]; exact hj)) (fun j hj => by
        have h := ht j hj
        refine ⟨h.1, ?_, fun z => h.2.2 (List.mem_cons_of_mem _ z)⟩
        rw [Nat.testBit_or, two_bit, h.2.1]
        simp
        exact fun e => h.2.2 (by rw [e]; exact List.mem_cons_self)) nd'.2
    show f (orL (orL S t ||| 2 ^ i) l) + f S ≤ f (orL (S ||| 2 ^ i) l) + f (orL S t)
    rw [orL_swap t S i] at d ⊢
    omega
def bitsIn (n A B : Nat) : List Nat := (List.range n).filter fun i => A.testBit i && !B.testBit i
theorem mem_bits {A B i : Nat} : i ∈ bitsIn n A B ↔ i < n ∧ A.testBit i = true ∧ B.testBit i = false := by
  unfold bitsIn
  rw [List.mem_filter, List.mem_range]
  simp
theorem bits_nodup (A B : Nat) : (bitsIn n A B).Nodup := List.Pairwise.sublist List.filter_sublist List.nodup_range
theorem or_bits {A B C : Nat} (hA : A < 2 ^ n) : orL C (bitsIn n A B) = C ||| (A &&& (A ^^^ (A &&& B))) := or_ext fun k => by
  rw [orL_bit, Nat.testBit_or, Nat.testBit_and, Nat.testBit_xor, Nat.testBit_and]
  have : decide (k ∈ bitsIn n A B) = (A.testBit k && !B.testBit k) := by
    rw [Bool.eq_iff_iff, decide_eq_true_iff, mem_bits]
    simp
    exact fun h _ => bit_lt hA h
  rw [this]
  cases C.testBit k <;> cases A.testBit k <;> cases B.testBit k <;> rfl
theorem sub_global (L : SubL n f) (h2 : 2 ≤ n) : SubG n f := by
  intro a b ha hab
  have hb : b < 2 ^ n := Nat.lt_trans hab ha
  have hand : a &&& b < 2 ^ n := Nat.lt_of_le_of_lt Nat.and_le_left ha
  refine ⟨fun e => ?_, ?_⟩
  · have := up L h2 (bitsIn n a b) b hb fun i hi => (mem_bits.mp hi).1
    have e2 : orL b (bitsIn n a b) = a := by
      rw [or_bits ha]
      refine or_ext fun k => ?_
      have eb : b.testBit k = (a.testBit k && b.testBit k) := by rw [← Nat.testBit_and, e]
      rw [Nat.testBit_or, Nat.testBit_and, Nat.testBit_xor, Nat.testBit_and]
      revert eb
      cases a.testBit k <;> cases b.testBit k <;> simp
    rw [e2] at this
    exact this
  · have := both L (bitsIn n b a) (bits_nodup _ _) (bitsIn n a b) (a &&& b) hand (fun i hi => by
        obtain ⟨h1, h3, h4⟩ := mem_bits.mp hi
        refine ⟨h1, by rw [Nat.testBit_and, h4]; simp, fun z => ?_⟩
        have := (mem_bits.mp z).2.1
        rw [h4] at this; cases this) (fun i hi => by
        obtain ⟨h1, h3, h4⟩ := mem_bits.mp hi
        refine ⟨h1, by rw [Nat.testBit_and, h4]; simp, fun z => ?_⟩
        have := (mem_bits.mp z).2.1
        rw [h4] at this; cases this) (bits_nodup _ _)
    have ea : orL (a &&& b) (bitsIn n a b) = a := by
      rw [or_bits ha]
      refine or_ext fun k => ?_
      simp only [Nat.testBit_or, Nat.testBit_and, Nat.testBit_xor]
      cases a.testBit k <;> cases b.testBit k <;> rfl
    have eb : orL (a &&& b) (bitsIn n b a) = b := by
      rw [or_bits hb]
      refine or_ext fun k => ?_
      simp only [Nat.testBit_or, Nat.testBit_and, Nat.testBit_xor]
      cases a.testBit k <;> cases b.testBit k <;> rfl
    have eo : orL b (bitsIn n a b) = a ||| b := by
      rw [or_bits ha]
      refine or_ext fun k => ?_
      simp only [Nat.testBit_or, Nat.testBit_and, Nat.testBit_xor]
      cases a.testBit k <;> cases b.testBit k <;> rfl
    rw [ea, eb, eo] at this
    exact this
theorem lt_or {m i : Nat} (h : m.testBit i = false) : m < m ||| 2 ^ i := by
  have h1 : m ≤ m ||| 2 ^ i := Nat.left_le_or
  rcases Nat.lt_or_ge m (m ||| 2 ^ i) with q | q
  · exact q
  · have e : m = m ||| 2 ^ i := Nat.le_antisymm h1 q
    have : (m ||| 2 ^ i).testBit i = true := by rw [Nat.testBit_or, two_bit]; simp
    rw [← e, h] at this
    cases this
theorem sub_local (g : SubG n f) : SubL n f := by
  intro m i j hm hi hj hij bi bj
  have pi : 2 ^ i < 2 ^ n := Nat.pow_lt_pow_right (by omega) hi
  have pj : 2 ^ j < 2 ^ n := Nat.pow_lt_pow_right (by omega) hj
  have li := Nat.or_lt_two_pow hm pi
  have lj := Nat.or_lt_two_pow hm pj
  have bij : (m ||| 2 ^ j).testBit i = false := by rw [Nat.testBit_or, two_bit, bi]; simp; exact fun e => hij e.symm
  refine ⟨?_, ?_, ?_⟩
  · refine (g _ m li (lt_or bi)).1 (or_ext fun k => ?_)
    rw [Nat.testBit_and, Nat.testBit_or]
    cases m.testBit k <;> simp
  · rw [or_swap]
    refine (g _ (m ||| 2 ^ j) (Nat.or_lt_two_pow lj pi) (lt_or bij)).1 (or_ext fun k => ?_)
    simp only [Nat.testBit_and, Nat.testBit_or]
    cases m.testBit k <;> cases (2 ^ j).testBit k <;> simp
  · have ne : (m ||| 2 ^ i) ≠ (m ||| 2 ^ j) := fun e => by
      have : (m ||| 2 ^ i).testBit i = true := by rw [Nat.testBit_or, two_bit]; simp
      rw [e, bij] at this; cases this
    have e1 : (m ||| 2 ^ i) ||| (m ||| 2 ^ j) = m ||| 2 ^ i ||| 2 ^ j := or_ext fun k => by
      simp only [Nat.testBit_or]
      cases m.testBit k <;> cases (2 ^ i).testBit k <;> cases (2 ^ j).testBit k <;> rfl
    have e2 : (m ||| 2 ^ i) &&& (m ||| 2 ^ j) = m := or_ext fun k => by
      simp only [Nat.testBit_or, Nat.testBit_and, two_bit]
      by_cases h : i = k
      · subst h
        have : ¬ j = i := fun e => hij e.symm
        simp [bi, this]
      · simp [h]
        cases m.testBit k <;> simp
    rcases Nat.lt_or_gt_of_ne ne with q | q
    · have := (g _ _ lj q).2
      rw [Nat.or_comm, Nat.and_comm, e1, e2] at this
      omega
    · have := (g _ _ li q).2
      rw [e1, e2] at this
      omega
end
end Pl

namespace Pl
open PySem PySem.Spec PyProof.Rows L2

/-! mask_of(columns): registers  -/
abbrev N_mask_of : List Str := ["columns", "mask", "column"]
def l_mask_of_1 : Ss :=
 (.cons (.asg 1 none (.bop .bor (.var 1) (.bop .shl (.lit (.int 1)) (.var 2)))) .nil)
def b_mask_of : Ss :=
 (.cons (.asg 1 none (.lit (.int 0)))
 (.cons (.for [] (.one 2) (.seq (.var 0)) l_mask_of_1)
 (.cons (.ret (.var 1)) .nil)))
-- calls: ; np 0, n 0; slots 0:columns 1:mask 2:column

/-! grows_and_bends(values, mask, x, y): registers  -/
abbrev N_grows_and_bends : List Str := ["values", "mask", "x", "y", "with_x", "with_y", "with_both"]
def b_grows_and_bends : Ss :=
 (.cons (.asg 4 none (.idx (.var 0) (.bop .bor (.var 1) (.var 2))))
 (.cons (.asg 5 none (.idx (.var 0) (.bop .bor (.var 1) (.var 3))))
 (.cons (.asg 6 none (.idx (.var 0) (.bop .bor (.bop .bor (.var 1) (.var 2)) (.var 3))))
 (.cons (.iff (.or (.cmp .lt (.var 4) (.idx (.var 0) (.var 1))) (.cons (.cmp .lt (.var 6) (.var 5)) .nil)) (
  (.cons (.ret (.lit (.bool false))) .nil)) ( .nil))
 (.cons (.ret (.cmp .ge (.bop .add (.var 4) (.var 5)) (.bop .add (.var 6) (.idx (.var 0) (.var 1))))) .nil)))))
-- calls: ; np 0, n 0; slots 0:values 1:mask 2:x 3:y 4:with_x 5:with_y 6:with_both

/-! is_submodular(columns, values): registers  -/
abbrev N_is_submodular : List Str := ["columns", "values", "whole", "mask", "first", "x", "second", "y"]
def l_is_submodular_1 : Ss :=
 (.cons (.asg 7 none (.bop .shl (.lit (.int 1)) (.var 6)))
 (.cons (.iff (.and (.cmp .ne (.var 4) (.var 6)) (.cons (.cmp .eq (.bop .band (.var 3) (.var 5)) (.lit (.int 0))) (.cons (.cmp .eq (.bop .band (.var 3) (.var 7)) (.lit (.int 0))) .nil))) (
  (.cons (.iff (.not (.call 0 (.cons (.var 1) (.cons (.var 3) (.cons (.var 5) (.cons (.var 7) .nil)))))) (
   (.cons (.ret (.lit (.bool false))) .nil)) ( .nil)) .nil)) ( .nil)) .nil))
def l_is_submodular_2 : Ss :=
 (.cons (.asg 5 none (.bop .shl (.lit (.int 1)) (.var 4)))
 (.cons (.for [] (.one 6) (.rng1 (.var 0)) l_is_submodular_1) .nil))
def l_is_submodular_3 : Ss :=
 (.cons (.for [] (.one 4) (.rng1 (.var 0)) l_is_submodular_2) .nil)
def b_is_submodular : Ss :=
 (.cons (.asg 2 none (.bop .shl (.lit (.int 1)) (.var 0)))
 (.cons (.iff (.or (.cmp .ne (.bi .len (.cons (.var 1) .nil)) (.var 2)) (.cons (.cmp .ne (.idx (.var 1) (.lit (.int 0))) (.lit (.int 0))) .nil)) (
  (.cons (.ret (.lit (.bool false))) .nil)) ( .nil))
 (.cons (.iff (.cmp .eq (.var 0) (.lit (.int 1))) (
  (.cons (.ret (.cmp .ge (.idx (.var 1) (.lit (.int 1))) (.lit (.int 0)))) .nil)) ( .nil))
 (.cons (.for [] (.one 3) (.rng1 (.var 2)) l_is_submodular_3)
 (.cons (.ret (.lit (.bool true))) .nil)))))
-- calls: grows_and_bends; np 0, n 0; slots 0:columns 1:values 2:whole 3:mask 4:first 5:x 6:second 7:y

/-! _law_draw(d, many): registers d=0 -/
abbrev N__law_draw : List Str := ["d", "many", "size", "found", "cell"]
def b__law_draw : Ss :=
 (.cons (.iff (.cmp .gt (.idx (.var 0) (.lit (.int 2))) (.lit (.int 0))) (
  (.cons (.asg 3 none (.idx (.var 0) (.lit (.int 2))))
  (.cons (.sto (.var 0) (.lit (.int 2)) (.bop .fdiv (.var 3) (.var 1)))
  (.cons (.ret (.bop .mod (.bi .int (.cons (.var 3) .nil)) (.var 1))) .nil)))) ( .nil))
 (.cons (.asg 2 none (.lit (.int 0)))
 (.cons (.iff (.cmp .lt (.idx (.var 0) (.lit (.int 1))) (.bi .len (.cons (.idx (.var 0) (.lit (.int 0))) .nil))) (
  (.cons (.asg 4 none (.idx (.idx (.var 0) (.lit (.int 0))) (.idx (.var 0) (.lit (.int 1)))))
  (.cons (.asg 2 none (.bop .add (.bop .mul (.lit (.int 2)) (.bi .abs (.cons (.var 4) .nil))) (.bi .int (.cons (.cmp .lt (.var 4) (.lit (.int 0))) .nil)))) .nil))) ( .nil))
 (.cons (.augS (.var 0) (.lit (.int 1)) (.lit (.int 1)))
 (.cons (.iff (.cmp .ge (.var 2) (.bop .mul (.lit (.int 2)) (.bop .pow (.lit (.int 10)) (.lit (.int 18))))) (
  (.cons (.asg 3 none (.bop .mod (.bi .int (.cons (.bop .fdiv (.var 2) (.lit (.int 2))) .nil)) (.bop .shl (.lit (.int 1)) (.lit (.int 6000)))))
  (.cons (.sto (.var 0) (.lit (.int 2)) (.bop .fdiv (.var 3) (.var 1)))
  (.cons (.ret (.bop .mod (.bi .int (.cons (.var 3) .nil)) (.var 1))) .nil)))) ( .nil))
 (.cons (.sto (.var 0) (.lit (.int 3)) (.bop .mod (.bi .int (.cons (.bop .add (.bop .add (.bop .add (.bop .mul (.idx (.var 0) (.lit (.int 3))) (.lit (.int 48271))) (.bop .mul (.bop .mod (.bi .int (.cons (.var 2) .nil)) (.lit (.int 2147483629))) (.lit (.int 16807)))) (.bop .mul (.idx (.var 0) (.lit (.int 1))) (.lit (.int 69621)))) (.lit (.int 11))) .nil)) (.lit (.int 2147483647))))
 (.cons (.ret (.bop .mod (.bi .int (.cons (.bop .fdiv (.idx (.var 0) (.lit (.int 3))) (.lit (.int 16))) .nil)) (.var 1))) .nil)))))))
-- calls: ; np 1, n 0; slots 0:d 1:many 2:size 3:found 4:cell

/-! _law_rare(d, many): registers d=0 -/
abbrev N__law_rare : List Str := ["d", "many"]
def b__law_rare : Ss :=
 (.cons (.ret (.cmp .eq (.call 0 (.cons (.var 0) (.cons (.var 1) .nil))) (.bop .fdiv (.var 1) (.lit (.int 2))))) .nil)
-- calls: _law_draw; np 1, n 0; slots 0:d 1:many

/-! _law_is_int(thing): registers  -/
abbrev N__law_is_int : List Str := ["thing"]
def b__law_is_int : Ss :=
 (.cons (.ret (.and (.bi (.isi "int") (.cons (.var 0) .nil)) (.cons (.not (.bi (.isi "bool") (.cons (.var 0) .nil))) .nil))) .nil)
-- calls: ; np 0, n 0; slots 0:thing

/-! _law_is_set_function(columns, values): registers  -/
abbrev N__law_is_set_function : List Str := ["columns", "values", "whole", "one", "other"]
def l__law_is_set_function_1 : Ss :=
 (.cons (.iff (.and (.cmp .eq (.bop .band (.var 3) (.var 4)) (.var 4)) (.cons (.cmp .gt (.idx (.var 1) (.var 4)) (.idx (.var 1) (.var 3))) .nil)) (
  (.cons (.ret (.lit (.bool false))) .nil)) ( .nil))
 (.cons (.iff (.cmp .lt (.bop .add (.idx (.var 1) (.var 3)) (.idx (.var 1) (.var 4))) (.bop .add (.idx (.var 1) (.bop .bor (.var 3) (.var 4))) (.idx (.var 1) (.bop .band (.var 3) (.var 4))))) (
  (.cons (.ret (.lit (.bool false))) .nil)) ( .nil)) .nil))
def l__law_is_set_function_2 : Ss :=
 (.cons (.for [] (.one 4) (.rng1 (.var 3)) l__law_is_set_function_1) .nil)
def b__law_is_set_function : Ss :=
 (.cons (.asg 2 none (.bop .shl (.lit (.int 1)) (.var 0)))
 (.cons (.iff (.or (.cmp .ne (.bi .len (.cons (.var 1) .nil)) (.var 2)) (.cons (.cmp .ne (.idx (.var 1) (.lit (.int 0))) (.lit (.int 0))) .nil)) (
  (.cons (.ret (.lit (.bool false))) .nil)) ( .nil))
 (.cons (.for [] (.one 3) (.rng1 (.var 2)) l__law_is_set_function_2)
 (.cons (.ret (.lit (.bool true))) .nil))))
-- calls: ; np 0, n 0; slots 0:columns 1:values 2:whole 3:one 4:other

/-! _law_covered(d, columns, most): registers d=0, values=1 -/
abbrev N__law_covered : List Str := ["d", "columns", "most", "points", "weights", "marks", "values", "mask", "met", "column", "point"]
def e__law_covered_1 : E := (.call 0 (.cons (.var 0) (.cons (.var 2) .nil)))
def e__law_covered_2 : E := (.call 0 (.cons (.var 0) (.cons (.bop .shl (.lit (.int 1)) (.var 3)) .nil)))
def l__law_covered_1 : Ss :=
 (.cons (.iff (.cmp .eq (.bop .band (.bop .shr (.var 7) (.var 9)) (.lit (.int 1))) (.lit (.int 1))) (
  (.cons (.asg 8 none (.bop .bor (.var 8) (.idx (.var 5) (.var 9)))) .nil)) ( .nil)) .nil)
def c__law_covered_1 : Eo := (.so (.cmp .eq (.bop .band (.bop .shr (.var 8) (.var 10)) (.lit (.int 1))) (.lit (.int 1))))
def e__law_covered_3 : E := (.idx (.var 4) (.var 10))
def l__law_covered_2 : Ss :=
 (.cons (.asg 8 none (.lit (.int 0)))
 (.cons (.for [] (.one 9) (.rng1 (.var 1)) l__law_covered_1)
 (.cons (.exp (.met .append (.var 6) (.cons (.bi .sum (.cons (.lc (.one 10) [10] (.rng1 (.var 3)) c__law_covered_1 e__law_covered_3) .nil)) .nil))) .nil)))
def b__law_covered : Ss :=
 (.cons (.asg 3 none (.bop .add (.lit (.int 1)) (.call 0 (.cons (.var 0) (.cons (.lit (.int 8)) .nil)))))
 (.cons (.asg 4 none (.lc (.one 10) [10] (.rng1 (.var 3)) .no e__law_covered_1))
 (.cons (.asg 5 none (.lc (.one 9) [9] (.rng1 (.var 1)) .no e__law_covered_2))
 (.cons (.asg 6 (some 1) (.lst .nil))
 (.cons (.for [] (.one 7) (.rng1 (.bop .shl (.lit (.int 1)) (.var 1))) l__law_covered_2)
 (.cons (.retP 6 1) .nil))))))
-- calls: _law_draw; np 1, n 1; slots 0:d 1:columns 2:most 3:points 4:weights 5:marks 6:values 7:mask 8:met 9:column 10:point

/-! _law_rank(vectors): registers heads=0 -/
abbrev N__law_rank : List Str := ["vectors", "heads", "vector", "left", "head"]
def l__law_rank_1 : Ss :=
 (.cons (.asg 3 none (.bi .min2 (.cons (.var 3) (.cons (.bop .bxor (.var 3) (.var 4)) .nil)))) .nil)
def l__law_rank_2 : Ss :=
 (.cons (.asg 3 none (.var 2))
 (.cons (.for [0] (.one 4) (.seq (.var 1)) l__law_rank_1)
 (.cons (.iff (.cmp .gt (.var 3) (.lit (.int 0))) (
  (.cons (.exp (.met .append (.var 1) (.cons (.var 3) .nil))) .nil)) ( .nil)) .nil)))
def b__law_rank : Ss :=
 (.cons (.asg 1 (some 0) (.lst .nil))
 (.cons (.for [] (.one 2) (.seq (.var 0)) l__law_rank_2)
 (.cons (.ret (.bi .len (.cons (.var 1) .nil))) .nil)))
-- calls: ; np 0, n 1; slots 0:vectors 1:heads 2:vector 3:left 4:head

/-! _law_ranks(d, columns): registers d=0, values=1 -/
abbrev N__law_ranks : List Str := ["d", "columns", "vectors", "values", "mask", "column"]
def e__law_ranks_1 : E := (.call 0 (.cons (.var 0) (.cons (.lit (.int 16)) .nil)))
def c__law_ranks_1 : Eo := (.so (.cmp .eq (.bop .band (.bop .shr (.var 4) (.var 5)) (.lit (.int 1))) (.lit (.int 1))))
def e__law_ranks_2 : E := (.idx (.var 2) (.var 5))
def l__law_ranks_1 : Ss :=
 (.cons (.exp (.met .append (.var 3) (.cons (.call 1 (.cons (.lc (.one 5) [5] (.rng1 (.var 1)) c__law_ranks_1 e__law_ranks_2) .nil)) .nil))) .nil)
def b__law_ranks : Ss :=
 (.cons (.asg 2 none (.lc (.one 5) [5] (.rng1 (.var 1)) .no e__law_ranks_1))
 (.cons (.asg 3 (some 1) (.lst .nil))
 (.cons (.for [] (.one 4) (.rng1 (.bop .shl (.lit (.int 1)) (.var 1))) l__law_ranks_1)
 (.cons (.retP 3 1) .nil))))
-- calls: _law_draw, _law_rank; np 1, n 1; slots 0:d 1:columns 2:vectors 3:values 4:mask 5:column

/-! _law_bent(d, columns): registers d=0, values=1 -/
abbrev N__law_bent : List Str := ["d", "columns", "gains", "values", "mask", "many", "column"]
def e__law_bent_1 : E := (.call 0 (.cons (.var 0) (.cons (.lit (.int 5)) .nil)))
def e__law_bent_2 : E := (.bop .band (.bop .shr (.var 4) (.var 6)) (.lit (.int 1)))
def l__law_bent_1 : Ss :=
 (.cons (.asg 5 none (.bi .sum (.cons (.lc (.one 6) [6] (.rng1 (.var 1)) .no e__law_bent_2) .nil)))
 (.cons (.exp (.met .append (.var 3) (.cons (.bi .sum (.cons (.sli (.var 2) (.so (.bop .sub (.var 1) (.var 5))) .no) .nil)) .nil))) .nil))
def b__law_bent : Ss :=
 (.cons (.asg 2 none (.bi .sorted (.cons (.lc (.one 6) [6] (.rng1 (.var 1)) .no e__law_bent_1) .nil)))
 (.cons (.asg 3 (some 1) (.lst .nil))
 (.cons (.for [] (.one 4) (.rng1 (.bop .shl (.lit (.int 1)) (.var 1))) l__law_bent_1)
 (.cons (.retP 3 1) .nil))))
-- calls: _law_draw; np 1, n 1; slots 0:d 1:columns 2:gains 3:values 4:mask 5:many 6:column

/-! _law_set_values(d, columns): registers d=0 -/
abbrev N__law_set_values : List Str := ["d", "columns", "way", "one", "other", "cap", "mask"]
def e__law_set_values_1 : E := (.bi .min2 (.cons (.var 5) (.cons (.bop .add (.idx (.var 3) (.var 6)) (.idx (.var 4) (.var 6))) .nil)))
def e__law_set_values_2 : E := (.call 0 (.cons (.var 0) (.cons (.lit (.int 4)) .nil)))
def b__law_set_values : Ss :=
 (.cons (.asg 2 none (.call 0 (.cons (.var 0) (.cons (.lit (.int 6)) .nil))))
 (.cons (.iff (.cmp .eq (.var 2) (.lit (.int 0))) (
  (.cons (.ret (.call 1 (.cons (.var 0) (.cons (.var 1) .nil)))) .nil)) ( .nil))
 (.cons (.iff (.cmp .eq (.var 2) (.lit (.int 1))) (
  (.cons (.ret (.call 2 (.cons (.var 0) (.cons (.var 1) .nil)))) .nil)) ( .nil))
 (.cons (.iff (.cmp .eq (.var 2) (.lit (.int 2))) (
  (.cons (.asg 3 none (.call 3 (.cons (.var 0) (.cons (.var 1) (.cons (.lit (.int 4)) .nil)))))
  (.cons (.asg 4 none (.call 1 (.cons (.var 0) (.cons (.var 1) .nil))))
  (.cons (.asg 5 none (.bop .add (.lit (.int 1)) (.call 0 (.cons (.var 0) (.cons (.lit (.int 12)) .nil)))))
  (.cons (.ret (.lc (.one 6) [6] (.rng1 (.bop .shl (.lit (.int 1)) (.var 1))) .no e__law_set_values_1)) .nil))))) ( .nil))
 (.cons (.iff (.cmp .eq (.var 2) (.lit (.int 3))) (
  (.cons (.ret (.call 3 (.cons (.var 0) (.cons (.var 1) (.cons (.lit (.int 60001)) .nil))))) .nil)) ( .nil))
 (.cons (.iff (.cmp .eq (.var 2) (.lit (.int 4))) (
  (.cons (.ret (.bop .add (.lst (.cons (.lit (.int 0)) .nil)) (.lc (.one 6) [6] (.rng2 (.lit (.int 1)) (.bop .shl (.lit (.int 1)) (.var 1))) .no e__law_set_values_2))) .nil)) ( .nil))
 (.cons (.ret (.call 3 (.cons (.var 0) (.cons (.var 1) (.cons (.lit (.int 4)) .nil))))) .nil)))))))
-- calls: _law_draw, _law_ranks, _law_bent, _law_covered; np 1, n 0; slots 0:d 1:columns 2:way 3:one 4:other 5:cap 6:mask

/-! _law_with(row, at, value): registers found=0 -/
abbrev N__law_with : List Str := ["row", "at", "value", "found"]
def b__law_with : Ss :=
 (.cons (.asg 3 (some 0) (.bi .list (.cons (.var 0) .nil)))
 (.cons (.sto (.var 3) (.var 1) (.var 2))
 (.cons (.retP 3 0) .nil)))
-- calls: ; np 0, n 1; slots 0:row 1:at 2:value 3:found

/-! _law_room(columns, values): registers rooms=0 -/
abbrev N__law_room : List Str := ["columns", "values", "whole", "rooms", "one", "other"]
def l__law_room_1 : Ss :=
 (.cons (.iff (.cmp .eq (.bop .bor (.var 4) (.var 5)) (.var 2)) (
  (.cons (.exp (.met .append (.var 3) (.cons (.bop .sub (.bop .sub (.bop .add (.idx (.var 1) (.var 4)) (.idx (.var 1) (.var 5))) (.idx (.var 1) (.bop .band (.var 4) (.var 5)))) (.idx (.var 1) (.var 2))) .nil))) .nil)) ( .nil)) .nil)
def l__law_room_2 : Ss :=
 (.cons (.for [] (.one 5) (.rng1 (.var 4)) l__law_room_1) .nil)
def b__law_room : Ss :=
 (.cons (.asg 2 none (.bop .sub (.bop .shl (.lit (.int 1)) (.var 0)) (.lit (.int 1))))
 (.cons (.asg 3 (some 0) (.lst .nil))
 (.cons (.for [] (.one 4) (.rng1 (.var 2)) l__law_room_2)
 (.cons (.iff (.cmp .eq (.bi .len (.cons (.var 3) .nil)) (.lit (.int 0))) (
  (.cons (.ret (.lit (.int 0))) .nil)) ( .nil))
 (.cons (.ret (.bi .min1 (.cons (.var 3) .nil))) .nil)))))
-- calls: ; np 0, n 1; slots 0:columns 1:values 2:whole 3:rooms 4:one 5:other

/-! _law_variants(d, columns, values): registers d=0, found=1 -/
abbrev N__law_variants : List Str := ["d", "columns", "values", "whole", "room", "top", "at", "other", "by", "found", "column", "value"]
def e__law_variants_1 : E := (.idx (.var 2) (.bop .bxor (.var 3) (.bop .shl (.lit (.int 1)) (.var 10))))
def e__law_variants_2 : E := (.bop .add (.var 11) (.var 8))
def e__law_variants_3 : E := (.bop .sub (.var 11) (.var 8))
def b__law_variants : Ss :=
 (.cons (.asg 3 none (.bop .sub (.bop .shl (.lit (.int 1)) (.var 1)) (.lit (.int 1))))
 (.cons (.asg 4 none (.call 0 (.cons (.var 1) (.cons (.var 2) .nil))))
 (.cons (.asg 5 none (.bi .max1 (.cons (.lc (.one 10) [10] (.rng1 (.var 1)) .no e__law_variants_1) .nil)))
 (.cons (.asg 6 none (.call 1 (.cons (.var 0) (.cons (.bop .add (.var 3) (.lit (.int 1))) .nil))))
 (.cons (.asg 7 none (.call 1 (.cons (.var 0) (.cons (.bop .add (.var 3) (.lit (.int 1))) .nil))))
 (.cons (.asg 8 none (.bop .add (.lit (.int 1)) (.call 1 (.cons (.var 0) (.cons (.lit (.int 2)) .nil)))))
 (.cons (.asg 9 (some 1) (.lst (.cons (.bi .list (.cons (.var 2) .nil)) .nil)))
 (.cons (.exp (.met .append (.var 9) (.cons (.call 2 (.cons (.var 2) (.cons (.var 6) (.cons (.bop .add (.idx (.var 2) (.var 6)) (.var 8)) .nil)))) .nil)))
 (.cons (.exp (.met .append (.var 9) (.cons (.call 2 (.cons (.var 2) (.cons (.var 6) (.cons (.bop .sub (.idx (.var 2) (.var 6)) (.var 8)) .nil)))) .nil)))
 (.cons (.exp (.met .append (.var 9) (.cons (.call 2 (.cons (.call 2 (.cons (.var 2) (.cons (.var 6) (.cons (.idx (.var 2) (.var 7)) .nil)))) (.cons (.var 7) (.cons (.idx (.var 2) (.var 6)) .nil)))) .nil)))
 (.cons (.exp (.met .append (.var 9) (.cons (.call 2 (.cons (.var 2) (.cons (.var 3) (.cons (.bop .add (.idx (.var 2) (.var 3)) (.var 4)) .nil)))) .nil)))
 (.cons (.exp (.met .append (.var 9) (.cons (.call 2 (.cons (.var 2) (.cons (.var 3) (.cons (.bop .add (.bop .add (.idx (.var 2) (.var 3)) (.var 4)) (.lit (.int 1))) .nil)))) .nil)))
 (.cons (.exp (.met .append (.var 9) (.cons (.call 2 (.cons (.var 2) (.cons (.var 3) (.cons (.var 5) .nil)))) .nil)))
 (.cons (.exp (.met .append (.var 9) (.cons (.call 2 (.cons (.var 2) (.cons (.var 3) (.cons (.bop .sub (.var 5) (.lit (.int 1))) .nil)))) .nil)))
 (.cons (.exp (.met .append (.var 9) (.cons (.lc (.one 11) [11] (.seq (.var 2)) .no e__law_variants_2) .nil)))
 (.cons (.exp (.met .append (.var 9) (.cons (.lc (.one 11) [11] (.seq (.var 2)) .no e__law_variants_3) .nil)))
 (.cons (.exp (.met .append (.var 9) (.cons (.call 2 (.cons (.var 2) (.cons (.lit (.int 0)) (.cons (.var 8) .nil)))) .nil)))
 (.cons (.exp (.met .append (.var 9) (.cons (.bop .add (.var 2) (.lst (.cons (.idx (.var 2) (.var 3)) .nil))) .nil)))
 (.cons (.exp (.met .append (.var 9) (.cons (.sli (.var 2) .no (.so (.var 3))) .nil)))
 (.cons (.exp (.met .append (.var 9) (.cons (.bop .add (.var 2) (.var 2)) .nil)))
 (.cons (.exp (.met .append (.var 9) (.cons (.sli (.var 2) .no (.so (.bop .fdiv (.bop .add (.var 3) (.lit (.int 1))) (.lit (.int 2))))) .nil)))
 (.cons (.exp (.met .append (.var 9) (.cons (.lst .nil) .nil)))
 (.cons (.retP 9 1) .nil)))))))))))))))))))))))
-- calls: _law_room, _law_draw, _law_with; np 1, n 1; slots 0:d 1:columns 2:values 3:whole 4:room 5:top 6:at 7:other 8:by 9:found 10:column 11:value

/-! law(script): registers d=0 -/
abbrev N_law : List Str := ["script", "d", "columns", "mask", "values", "found", "variant", "told", "column"]
def c_law_1 : Eo := (.so (.cmp .eq (.bop .band (.bop .shr (.var 3) (.var 8)) (.lit (.int 1))) (.lit (.int 1))))
def e_law_1 : E := (.var 8)
def l_law_1 : Ss :=
 (.cons (.asg 7 none (.call 2 (.cons (.bi .tuple (.cons (.lc (.one 8) [8] (.rng1 (.var 2)) c_law_1 e_law_1) .nil)) .nil)))
 (.cons (.iff (.or (.not (.call 3 (.cons (.var 7) .nil))) (.cons (.cmp .ne (.var 7) (.var 3)) .nil)) (
  (.cons (.ret (.lit (.bool false))) .nil)) ( .nil)) .nil))
def l_law_2 : Ss :=
 (.cons (.asg 7 none (.call 6 (.cons (.var 2) (.cons (.bi .tuple (.cons (.var 6) .nil)) .nil))))
 (.cons (.iff (.or (.not (.bi (.isi "bool") (.cons (.var 7) .nil))) (.cons (.cmp .ne (.var 7) (.call 7 (.cons (.var 2) (.cons (.var 6) .nil)))) .nil)) (
  (.cons (.ret (.lit (.bool false))) .nil)) ( .nil)) .nil))
def r_law_1 : Ss :=
 (.cons (.for [] (.one 3) (.rng1 (.bop .shl (.lit (.int 1)) (.var 2))) l_law_1)
 (.cons (.asg 4 none (.call 4 (.cons (.var 1) (.cons (.var 2) .nil))))
 (.cons (.asg 5 none (.call 5 (.cons (.var 1) (.cons (.var 2) (.cons (.var 4) .nil)))))
 (.cons (.for [] (.one 6) (.seq (.bop .add (.var 5) (.lst (.cons (.var 4) .nil)))) l_law_2)
 (.cons (.ret (.lit (.bool true))) .nil)))))
def b_law : Ss :=
 (.cons (.asg 2 none (.bop .add (.lit (.int 1)) (.call 0 (.cons (.var 1) (.cons (.lit (.int 4)) .nil)))))
 (.cons (.iff (.call 1 (.cons (.var 1) (.cons (.lit (.int 9)) .nil))) (
  (.cons (.asg 2 none (.bop .add (.lit (.int 5)) (.call 0 (.cons (.var 1) (.cons (.lit (.int 3)) .nil))))) .nil)) ( .nil)) r_law_1))
-- calls: _law_draw, _law_rare, mask_of, _law_is_int, _law_set_values, _law_variants, is_submodular, _law_is_set_function; np 0, n 1; slots 0:script 1:d 2:columns 3:mask 4:values 5:found 6:variant 7:told 8:column

-- constants: {}; not covered 0

local macro_rules | `(tactic| decreasing_trivial) => `(tactic| try simp only [wSs, wS, wE, wEs, wEo, wCond, wSrc, wAnd, wOr, Bool.false_eq_true, if_false, Bool.not_true, Bool.not_false, asT, onView_dat, onD_dat, fz_dat, fz_ptr, fz_fr, settled_dat, settled_ptr,  List.getElem?_cons_zero, List.getElem?_cons_succ, List.set_cons_zero, List.set_cons_succ, List.length_cons, List.length_nil, Nat.reduceAdd, Option.some.injEq, exists_eq_left', true_and, and_true, if_true, decide_eq_true_eq, Int.reduceToNat, Int.reducePow, Int.reduceLE, Int.reduceLT, Int.reduceMul, Int.reduceAdd, Int.reduceSub, Int.reduceNeg, Nat.reduceLT, Nat.reduceLeDiff, Nat.reduceMul, Nat.reducePow, Int.reduceAbs, Nat.reduceSub, List.map, List.replicate, List.cons_append, List.nil_append, List.append_nil, regsOf, renum, List.nodup_nil, r_add, r_adds, r_addt, r_addl, r_sub, r_mul, r_mull, r_fdiv, r_mod, r_pow, r_band, r_bor, r_bxor, r_shl, r_shr, r_lt, r_le, r_gt, r_ge, r_lts, r_eq, r_ne, r_isin, r_notin, r_isin_list, r_isin_tuple, r_notin_list, r_notin_tuple, r_isnone, r_notnone, r_ixl, r_ixt, r_ixs, r_sll, r_slt, r_sls, r_len, r_int, r_intb, r_abs, r_min2, r_max2, r_sum, r_min1, r_max1, r_all, r_any, r_list, r_listt, r_tup, r_tupt, r_rl1, r_rl2, r_rt1, r_rt2, r_sort, r_isi, r_lenl, r_lent, r_lens, r_augi, r_augs, r_bitl, r_split, r_wtg, r_wtgm, r_at0, r_at1, r_at2, r_at3, r_at4, r_at5, r_ix1_0, r_ix2_0, r_ix2_1, r_ix3_0, r_ix3_1, r_ix3_2, r_ix4_0, r_ix4_1, r_ix4_2, r_ix4_3, r_ix5_0, r_ix5_1, r_ix5_2, r_ix5_3, r_ix5_4, r_v0, r_lenp0, r_typ0, r_app0, r_pop0, r_popAt0, r_ext0, r_outs0, r_v1, r_lenp1, r_typ1, r_app1, r_pop1, r_popAt1, r_ext1, r_outs1, r_v2, r_lenp2, r_typ2, r_app2, r_pop2, r_popAt2, r_ext2, r_outs2, r_v3, r_lenp3, r_typ3, r_app3, r_pop3, r_popAt3, r_ext3, r_outs3, r_tyd, r_mapp, r_mpop, r_mpopAt, r_mext, r_midxl, r_midxt, r_mspl, r_mbit, r_npd, r_npf, r_ty_int, r_ty_str, r_ty_list, r_ty_tuple, r_ty_bool, r_ixli, r_ixti, r_asgd, r_asgp, r_asgf, r_asgn, r_clr0, r_clr1, r_clr2, r_clr3, r_sto0, r_ag0, r_sto1, r_ag1, r_sto2, r_ag2, r_sto3, r_ag3, r_c0, r_c1, r_c2, r_c3, r_c4, r_c5, r_c6, r_c7, r_c8, r_c9, r_c10, r_c11, r_put1, r_put0, r_ptuple0, r_plist0, r_psum0, r_pmin10, r_pmax10, r_pall0, r_pany0, r_psorted0, r_ptuple1, r_plist1, r_psum1, r_pmin11, r_pmax11, r_pall1, r_pany1, r_psorted1, r_ptuple2, r_plist2, r_psum2, r_pmin12, r_pmax12, r_pall2, r_pany2, r_psorted2, r_ptuple3, r_plist3, r_psum3, r_pmin13, r_pmax13, r_pall3, r_pany3, r_psorted3, r_stab, r_wipe0, r_wipe1, stepLc, n_shl, n_band, n_bor, n_bit, n_bitq])
theorem rd_draw {vs : List Vl} {obs : List Ob} {Q : Vl → List Ob → Prop} (h : spDraw vs obs Q) : vs.length = 2 ∧ obs.length = 1 ∧ wFn [] b__law_draw 5 0 vs obs Q := by
  obtain ⟨many, o, rfl, rfl, ⟨cells, i, pend, seed, rfl, hi⟩, h0, h1, k⟩ := h
  refine ⟨rfl, rfl, wFn_of rfl ?_⟩
  simp only [List.map, List.length, List.replicate, List.cons_append, List.nil_append, List.append_nil, Nat.reduceSub, Nat.reduceAdd, b__law_draw]
  decreasing_trivial
  have hm : ∀ a b : Int, -(2 ^ 64) < b ∧ b < 2 ^ 64 → MulOk a b := fun a b h => .inr (.inl h)
  have sh : ShOk 1 6000 := ⟨by decide, .inl ⟨by decide, by decide⟩⟩
  have pw : (0 : Int) < 1 * 2 ^ 6000 := by rw [Int.one_mul]; exact pow_pos 6000
  have fin : ∀ (a : Int) (o' : Ob), Std o' → Q (.dat (.int (a % many))) [o'] := fun a o' s => k _ _ (Int.emod_nonneg _ (by omega)) (Int.emod_lt_of_pos _ h0) s
  refine ite_i (fun hp => ?_) (fun hp => ?_)
  · exact ⟨⟨h0, .inl h1⟩, h0, fin _ _ ⟨cells, i, _, _, rfl, hi⟩⟩
  · unfold cellsD
    decreasing_trivial
    refine ite_i (fun hlt => ?_) (fun hlt => ?_)
    · obtain ⟨d, hd, he⟩ := atI_pos hi hlt
      rw [List.getElem?_map] at hd
      cases hc : cells[i.toNat]? with
      | none => rw [hc] at hd; cases hd
      | some n =>
        rw [hc] at hd
        cases hd
        refine ⟨_, he, ?_⟩
        decreasing_trivial
        refine ⟨.inl ⟨by decide, by decide⟩, .inl ⟨by decide, by decide⟩, ite_i (fun _ => ?_) fun _ => ?_⟩
        · exact ⟨.inl (by decide), sh, pw, ⟨h0, .inl h1⟩, h0, fin _ _ ⟨cells, i + 1, _, _, rfl, by omega⟩⟩
        · exact ⟨hm _ _ (by decide), hm _ _ (by decide), hm _ _ (by decide), .inl (by decide), h0, fin _ _ ⟨cells, i + 1, _, _, rfl, by omega⟩⟩
    · refine ⟨.inl ⟨by decide, by decide⟩, ?_⟩
      · exact ⟨hm _ _ (by decide), hm _ _ (by decide), hm _ _ (by decide), .inl (by decide), h0, fin _ _ ⟨cells, i + 1, _, _, rfl, by omega⟩⟩
def spRare : PSpec := fun vs obs Q => ∃ (many : Int) (o : Ob), vs = [.ptr 0, .dat (.int many)] ∧ obs = [o] ∧ Std o ∧ 0 < many ∧ many < 1073741824 ∧ ∀ (b : Bool) (o' : Ob), Std o' → Q (.dat (.bool b)) [o']
theorem rd_rare {vs : List Vl} {obs : List Ob} {Q : Vl → List Ob → Prop} (h : spRare vs obs Q) : vs.length = 2 ∧ obs.length = 1 ∧ wFn [("_law_draw", spDraw)] b__law_rare 2 0 vs obs Q := by
  obtain ⟨many, o, rfl, rfl, hs, h0, h1, k⟩ := h
  refine ⟨rfl, rfl, wFn_of rfl ?_⟩
  unfold b__law_rare
  decreasing_trivial
  refine draw_w rfl hs h0 h1 fun r o' r0 r1 hs' => ?_
  decreasing_trivial
  exact ⟨.inl (by omega), .inl (by rw [dep_int]; omega), k _ _ hs'⟩
/-! ## the defs -/
def nD (ks : List Nat) : List D := ks.map fun k => .int (k : Nat)
def spMask : PSpec := fun vs obs Q => ∃ ks : List Nat, vs = [.dat (.tuple (nD ks))] ∧ obs = [] ∧ (∀ k ∈ ks, k ≤ 100) ∧ Q (.dat (.int (orL 0 ks : Nat))) []
theorem rd_mask {vs : List Vl} {obs : List Ob} {Q : Vl → List Ob → Prop} (h : spMask vs obs Q) : vs.length = 1 ∧ obs.length = 0 ∧ wFn [] b_mask_of 3 0 vs obs Q := by
  obtain ⟨ks, rfl, rfl, hk, k⟩ := h
  refine ⟨rfl, rfl, wFn_of rfl ?_⟩
  unfold b_mask_of
  decreasing_trivial
  refine ⟨fun _ h => (nomatch h), ?_⟩
  refine for_inv (fun rest ρ η => ∃ dn cs x, rest = nD cs ∧ dn ++ cs = ks ∧ ρ = [some (.dat (.tuple (nD ks))), some (.dat (.int (orL 0 dn : Nat))), x] ∧ η = []) ?_ ?_ _ ⟨[], ks, none, rfl, rfl, rfl, rfl⟩
  · rintro d rest ρ η N ⟨dn, cs, x, hr, hd, rfl, rfl⟩ go
    cases cs with
    | nil => cases hr
    | cons c cs =>
      cases hr
      unfold l_mask_of_1
      decreasing_trivial
      have hc := hk c (by rw [← hd]; simp)
      refine ⟨sh_small (by omega), go _ _ ⟨dn ++ [c], cs, some (.dat (.int (c : Nat))), rfl, by rw [← hd]; simp, ?_, rfl⟩⟩
      rw [show orL 0 (dn ++ [c]) = orL 0 dn ||| 2 ^ c by unfold orL; rw [List.foldl_append]; rfl]
  · rintro ρ η ⟨dn, cs, x, hr, hd, rfl, rfl⟩
    cases cs with
    | cons c cs => cases hr
    | nil =>
      rw [List.append_nil] at hd
      subst hd
      decreasing_trivial
      exact k
def spIsInt : PSpec := fun vs obs Q => ∃ i : Int, vs = [.dat (.int i)] ∧ obs = [] ∧ Q (.dat (.bool true)) []
theorem kit_int : kitB "int" "int" = some true := by decide +kernel
theorem kit_intb : kitB "int" "bool" = some false := by decide +kernel
theorem kit_bb : kitB "bool" "bool" = some true := by decide +kernel
theorem rd_isint {vs : List Vl} {obs : List Ob} {Q : Vl → List Ob → Prop} (h : spIsInt vs obs Q) : vs.length = 1 ∧ obs.length = 0 ∧ wFn [] b__law_is_int 1 0 vs obs Q := by
  obtain ⟨i, rfl, rfl, k⟩ := h
  refine ⟨rfl, rfl, wFn_of rfl ?_⟩
  unfold b__law_is_int
  decreasing_trivial
  refine ⟨"int", true, rfl, kit_int, ?_⟩
  decreasing_trivial
  refine ⟨"int", false, rfl, kit_intb, ?_⟩
  decreasing_trivial
  exact k
def fv (ns : List Int) (k : Nat) : Int := ns.getD k 0
def Gr (f : Nat → Int) (m i j : Nat) : Prop := f m ≤ f (m ||| 2 ^ i) ∧ f (m ||| 2 ^ j) ≤ f (m ||| 2 ^ i ||| 2 ^ j) ∧ f (m ||| 2 ^ i ||| 2 ^ j) + f m ≤ f (m ||| 2 ^ i) + f (m ||| 2 ^ j)
def spGrow : PSpec := fun vs obs Q => ∃ (n m i j : Nat) (ns : List Int), vs = [.dat (.tuple (iD ns)), .dat (.int (m : Nat)), .dat (.int (2 ^ i : Nat)), .dat (.int (2 ^ j : Nat))] ∧ obs = [] ∧ ns.length = 2 ^ n ∧ m < 2 ^ n ∧ i < n ∧ j < n ∧
  ∀ b : Bool, (b = true ↔ Gr (fv ns) m i j) → Q (.dat (.bool b)) []
theorem ix_n {ns : List Int} {k : Nat} {Q : D → Prop} (h : k < ns.length) (q : Q (.int (fv ns k))) : ∃ d, atI (iD ns) (k : Int) = some d ∧ Q d := ix_ints h Q q
theorem rd_grow {vs : List Vl} {obs : List Ob} {Q : Vl → List Ob → Prop} (h : spGrow vs obs Q) : vs.length = 4 ∧ obs.length = 0 ∧ wFn [] b_grows_and_bends 7 0 vs obs Q := by
  obtain ⟨n, m, i, j, ns, rfl, rfl, hl, hm, hi, hj, k⟩ := h
  refine ⟨rfl, rfl, wFn_of rfl ?_⟩
  have pi : 2 ^ i < 2 ^ n := Nat.pow_lt_pow_right (by omega) hi
  have pj : 2 ^ j < 2 ^ n := Nat.pow_lt_pow_right (by omega) hj
  have li := Nat.or_lt_two_pow hm pi
  unfold b_grows_and_bends
  decreasing_trivial
  refine ix_n (by rw [hl]; exact li) ?_
  refine ix_n (by rw [hl]; exact Nat.or_lt_two_pow hm pj) ?_
  refine ix_n (by rw [hl]; exact Nat.or_lt_two_pow li pj) ?_
  decreasing_trivial
  refine ix_n (by rw [hl]; exact hm) ?_
  decreasing_trivial
  refine ite_i (fun h => k false ⟨fun z => (nomatch z), fun g => ?_⟩) fun h1 => ?_
  · unfold Gr at g; omega
  refine ite_i (fun h => k false ⟨fun z => (nomatch z), fun g => ?_⟩) fun h2 => ?_
  · unfold Gr at g; omega
  refine ix_n (by rw [hl]; exact hm) ?_
  decreasing_trivial
  refine k _ ?_
  rw [decide_eq_true_iff]
  unfold Gr
  omega

theorem ix_iD0 {ns : List Int} {k : Nat} {z : Int} {Q : D → Prop} (h : k < ns.length) (q : Q (.int (fv ns k))) (hz : z = (k : Nat) := by rfl) : ∃ d, atI (iD ns) z = some d ∧ Q d := by
  subst hz
  exact ix_n h q
def Good (n : Nat) (ns : List Int) : Prop := ns.length = 2 ^ n ∧ fv ns 0 = 0 ∧ SubG n (fv ns)
def spSub : PSpec := fun vs obs Q => ∃ (n : Nat) (ns : List Int), vs = [.dat (.int (n : Nat)), .dat (.tuple (iD ns))] ∧ obs = [] ∧ 1 ≤ n ∧ n ≤ 8 ∧ ∀ b : Bool, (b = true ↔ Good n ns) → Q (.dat (.bool b)) []
theorem and_pow (m i : Nat) : m &&& 2 ^ i = if m.testBit i = true then 2 ^ i else 0 := or_ext fun k => by
  rw [Nat.testBit_and, two_bit]
  by_cases h : i = k
  · subst h
    cases e : m.testBit i <;> simp [e]
  · cases e : m.testBit i <;> simp [h]
theorem and_two (m i : Nat) : PyData.eqv (.int ((m &&& 2 ^ i : Nat) : Int)) (.int 0) = !m.testBit i := by
  rw [eqv_int, and_pow]
  have : 0 < 2 ^ i := Nat.two_pow_pos i
  cases m.testBit i with
  | false => simp
  | true =>
    rw [if_pos rfl]
    exact decide_eq_false (by omega)
theorem ne_int (i j : Int) : (!PyData.eqv (.int i) (.int j)) = decide (i ≠ j) := by
  rw [eqv_int]
  simp
theorem rd_sub {vs : List Vl} {obs : List Ob} {Q : Vl → List Ob → Prop} (h : spSub vs obs Q) : vs.length = 2 ∧ obs.length = 0 ∧ wFn [("grows_and_bends", spGrow)] b_is_submodular 8 0 vs obs Q := by
  obtain ⟨n, ns, rfl, rfl, h1, h8, k⟩ := h
  refine ⟨rfl, rfl, wFn_of rfl ?_⟩
  have p0 : 0 < 2 ^ n := Nat.two_pow_pos n
  have p8 : 2 ^ n ≤ 2 ^ 8 := Nat.pow_le_pow_right (by omega) h8
  have p8' : 2 ^ n ≤ 256 := p8
  unfold b_is_submodular
  decreasing_trivial
  refine ⟨sh_small (by omega), .inl (by rw [dep_int]; omega), ?_⟩
  rw [List.length_map, eqv_int]
  by_cases hl : ns.length = 2 ^ n
  case neg =>
    rw [decide_eq_false (by omega)]
    exact k false ⟨fun z => (nomatch z), fun g => absurd g.1 hl⟩
  case pos =>
  rw [decide_eq_true (by omega)]
  decreasing_trivial
  refine ix_iD0 (k := 0) (by omega) ?_
  refine ⟨.inl (by rw [dep_int]; omega), ?_⟩
  rw [eqv_int]
  by_cases h0 : fv ns 0 = 0
  case neg =>
    rw [decide_eq_false h0]
    exact k false ⟨fun z => (nomatch z), fun g => absurd g.2.1 h0⟩
  case pos =>
  rw [decide_eq_true h0]
  decreasing_trivial
  refine ⟨.inl (by rw [dep_int]; omega), ?_⟩
  rw [eqv_int]
  by_cases hn : n = 1
  · subst hn
    rw [decide_eq_true (show ((1 : Nat) : Int) = 1 from rfl)]
    decreasing_trivial
    refine ix_iD0 (k := 1) (by omega) ?_
    decreasing_trivial
    refine k _ ?_
    rw [decide_eq_true_iff]
    refine ⟨fun h => ⟨hl, h0, fun a b ha hb => ?_⟩, fun g => ?_⟩
    · have ea : a = 1 := by omega
      have eb : b = 0 := by omega
      subst ea; subst eb
      refine ⟨fun _ => by rw [h0]; exact h, ?_⟩
      show fv ns 1 + fv ns 0 ≤ fv ns 1 + fv ns 0
      omega
    · have := (g.2.2 1 0 (by omega) (by omega)).1 rfl
      rw [h0] at this
      exact this
  · rw [decide_eq_false (by omega)]
    decreasing_trivial
    refine ⟨by unfold sizeLine; omega, by omega, fun _ h => (nomatch h), ?_⟩
    rw [Int.toNat_natCast]
    have bad : ∀ m i j : Nat, m < 2 ^ n → i < n → j < n → i ≠ j → m.testBit i = false → m.testBit j = false → ¬ Gr (fv ns) m i j → Q (.dat (.bool false)) [] := fun m i j a b c d e f g =>
      k false ⟨fun z => (nomatch z), fun gd => absurd (sub_local gd.2.2 m i j a b c d e f) g⟩
    have base : List.length (iD ns) = 2 ^ n := by rw [List.length_map, hl]
    refine for_rng0 (fun m ρ η => ∃ x4 x5 x6 x7 x3, ρ = [some (.dat (.int (n : Nat))), some (.dat (.tuple (iD ns))), some (.dat (.int (2 ^ n : Nat))), x3, x4, x5, x6, x7] ∧ η = [] ∧ ∀ m', m' < m → ∀ i j : Nat, i < n → j < n → i ≠ j → m'.testBit i = false → m'.testBit j = false → Gr (fv ns) m' i j) _ ?_ ?_
      ⟨none, none, none, none, none, rfl, rfl, fun m' h => absurd h (by omega)⟩
    · rintro m ρ η N hm ⟨x4, x5, x6, x7, x3, rfl, rfl, all⟩ go
      unfold l_is_submodular_3
      decreasing_trivial
      refine ⟨by unfold sizeLine; omega, by omega, fun _ h => (nomatch h), ?_⟩
      rw [Int.toNat_natCast]
      refine for_rng0 (fun i ρ η => ∃ x4 x5 x6 x7, ρ = [some (.dat (.int (n : Nat))), some (.dat (.tuple (iD ns))), some (.dat (.int (2 ^ n : Nat))), some (.dat (.int (m : Nat))), x4, x5, x6, x7] ∧ η = [] ∧ ∀ i', i' < i → ∀ j : Nat, j < n → i' ≠ j → m.testBit i' = false → m.testBit j = false → Gr (fv ns) m i' j) _ ?_ ?_
        ⟨x4, x5, x6, x7, rfl, rfl, fun i' h => absurd h (by omega)⟩
      · rintro i ρ η N2 hi ⟨x4, x5, x6, x7, rfl, rfl, alli⟩ go2
        unfold l_is_submodular_2
        decreasing_trivial
        refine ⟨sh_small (by omega), by unfold sizeLine; omega, by omega, fun _ h => (nomatch h), ?_⟩
        rw [Int.toNat_natCast]
        refine for_rng0 (fun j ρ η => ∃ x6 x7, ρ = [some (.dat (.int (n : Nat))), some (.dat (.tuple (iD ns))), some (.dat (.int (2 ^ n : Nat))), some (.dat (.int (m : Nat))), some (.dat (.int (i : Nat))), some (.dat (.int (2 ^ i : Nat))), x6, x7] ∧ η = [] ∧ ∀ j', j' < j → i ≠ j' → m.testBit i = false → m.testBit j' = false → Gr (fv ns) m i j') _ ?_ ?_
          ⟨x6, x7, rfl, rfl, fun j' h => absurd h (by omega)⟩
        · rintro j ρ η N3 hj ⟨x6, x7, rfl, rfl, allj⟩ go3
          have nxt : (i ≠ j → m.testBit i = false → m.testBit j = false → Gr (fv ns) m i j) → N3 [some (.dat (.int (n : Nat))), some (.dat (.tuple (iD ns))), some (.dat (.int (2 ^ n : Nat))), some (.dat (.int (m : Nat))), some (.dat (.int (i : Nat))), some (.dat (.int (2 ^ i : Nat))), some (.dat (.int (j : Nat))), some (.dat (.int (2 ^ j : Nat)))] [] := fun g =>
            go3 _ _ ⟨some (.dat (.int (j : Nat))), some (.dat (.int (2 ^ j : Nat))), rfl, rfl, fun j' hj' => by
              by_cases e : j' = j
              · subst e; exact g
              · exact allj j' (by omega)⟩
          unfold l_is_submodular_1
          decreasing_trivial
          refine ⟨sh_small (by omega), .inl (by rw [dep_int]; omega), ?_⟩
          rw [eqv_int, and_two, and_two]
          by_cases hij : i = j
          · rw [decide_eq_true (by omega)]
            exact nxt fun h => absurd hij h
          · rw [decide_eq_false (by omega)]
            decreasing_trivial
            refine ⟨.inl (by rw [dep_int]; omega), ?_⟩
            cases bi : m.testBit i with
            | true => exact nxt fun _ h => by rw [bi] at h; cases h
            | false =>
              decreasing_trivial
              refine ⟨.inl (by rw [dep_int]; omega), ?_⟩
              cases bj : m.testBit j with
              | true => exact nxt fun _ _ h => by rw [bj] at h; cases h
              | false =>
                decreasing_trivial
                refine call_0 rfl rfl ⟨n, m, i, j, ns, rfl, rfl, hl, hm, hi, hj, fun b hb => ⟨rfl, trivial, ?_⟩⟩
                decreasing_trivial
                cases b with
                | false => exact bad m i j hm hi hj hij bi bj fun g => (nomatch hb.mpr g)
                | true => exact nxt fun _ _ _ => hb.mp rfl
        · rintro ρ η ⟨x6, x7, rfl, rfl, allj⟩
          exact go2 _ _ ⟨_, _, _, _, rfl, rfl, fun i' hi' j hj => by
            by_cases e : i' = i
            · subst e; exact fun a b c => allj j hj a b c
            · exact alli i' (by omega) j hj⟩
      · rintro ρ η ⟨x4, x5, x6, x7, rfl, rfl, alli⟩
        exact go _ _ ⟨_, _, _, _, _, rfl, rfl, fun m' hm' i j hi hj => by
          by_cases e : m' = m
          · subst e; exact alli i hi j hj
          · exact all m' (by omega) i j hi hj⟩
    · rintro ρ η ⟨x4, x5, x6, x7, x3, rfl, rfl, all⟩
      exact k true ⟨fun _ => ⟨hl, h0, sub_global (fun m i j hm hi hj hij bi bj => all m hm i j hi hj hij bi bj) (by omega)⟩, fun _ => rfl⟩
def spSetF : PSpec := fun vs obs Q => ∃ (n : Nat) (ns : List Int), vs = [.dat (.int (n : Nat)), .dat (.list (iD ns))] ∧ obs = [] ∧ 1 ≤ n ∧ n ≤ 8 ∧ ∀ b : Bool, (b = true ↔ Good n ns) → Q (.dat (.bool b)) []
theorem rd_setf {vs : List Vl} {obs : List Ob} {Q : Vl → List Ob → Prop} (h : spSetF vs obs Q) : vs.length = 2 ∧ obs.length = 0 ∧ wFn [] b__law_is_set_function 5 0 vs obs Q := by
  obtain ⟨n, ns, rfl, rfl, h1, h8, k⟩ := h
  refine ⟨rfl, rfl, wFn_of rfl ?_⟩
  have p0 : 0 < 2 ^ n := Nat.two_pow_pos n
  have p8 : 2 ^ n ≤ 2 ^ 8 := Nat.pow_le_pow_right (by omega) h8
  have p8' : 2 ^ n ≤ 256 := p8
  unfold b__law_is_set_function
  decreasing_trivial
  refine ⟨sh_small (by omega), .inl (by rw [dep_int]; omega), ?_⟩
  rw [List.length_map, eqv_int]
  by_cases hl : ns.length = 2 ^ n
  case neg =>
    rw [decide_eq_false (by omega)]
    exact k false ⟨fun z => (nomatch z), fun g => absurd g.1 hl⟩
  case pos =>
  rw [decide_eq_true (by omega)]
  decreasing_trivial
  refine ix_iD0 (k := 0) (by omega) ?_
  refine ⟨.inl (by rw [dep_int]; omega), ?_⟩
  rw [eqv_int]
  by_cases h0 : fv ns 0 = 0
  case neg =>
    rw [decide_eq_false h0]
    exact k false ⟨fun z => (nomatch z), fun g => absurd g.2.1 h0⟩
  case pos =>
  rw [decide_eq_true h0]
  decreasing_trivial
  refine ⟨by unfold sizeLine; omega, by omega, fun _ h => (nomatch h), ?_⟩
  rw [Int.toNat_natCast]
  refine for_rng0 (fun a ρ η => ∃ x3 x4, ρ = [some (.dat (.int (n : Nat))), some (.dat (.list (iD ns))), some (.dat (.int (2 ^ n : Nat))), x3, x4] ∧ η = [] ∧ ∀ a', a' < a → ∀ b', b' < a' → (a' &&& b' = b' → fv ns b' ≤ fv ns a') ∧ fv ns (a' ||| b') + fv ns (a' &&& b') ≤ fv ns a' + fv ns b') _ ?_ ?_
    ⟨none, none, rfl, rfl, fun a' h => absurd h (by omega)⟩
  · rintro a ρ η N ha ⟨x3, x4, rfl, rfl, all⟩ go
    unfold l__law_is_set_function_2
    decreasing_trivial
    refine ⟨by unfold sizeLine; omega, by omega, fun _ h => (nomatch h), ?_⟩
    rw [Int.toNat_natCast]
    refine for_rng0 (fun b ρ η => ∃ x4, ρ = [some (.dat (.int (n : Nat))), some (.dat (.list (iD ns))), some (.dat (.int (2 ^ n : Nat))), some (.dat (.int (a : Nat))), x4] ∧ η = [] ∧ ∀ b', b' < b → (a &&& b' = b' → fv ns b' ≤ fv ns a) ∧ fv ns (a ||| b') + fv ns (a &&& b') ≤ fv ns a + fv ns b') _ ?_ ?_
      ⟨x4, rfl, rfl, fun b' h => absurd h (by omega)⟩
    · rintro b ρ η N2 hb ⟨x4, rfl, rfl, allb⟩ go2
      have nxt : ((a &&& b = b → fv ns b ≤ fv ns a) ∧ fv ns (a ||| b) + fv ns (a &&& b) ≤ fv ns a + fv ns b) → N2 [some (.dat (.int (n : Nat))), some (.dat (.list (iD ns))), some (.dat (.int (2 ^ n : Nat))), some (.dat (.int (a : Nat))), some (.dat (.int (b : Nat)))] [] := fun g =>
        go2 _ _ ⟨some (.dat (.int (b : Nat))), rfl, rfl, fun b' hb' => by
          by_cases e : b' = b
          · subst e; exact g
          · exact allb b' (by omega)⟩
      have bad : ¬ ((a &&& b = b → fv ns b ≤ fv ns a) ∧ fv ns (a ||| b) + fv ns (a &&& b) ≤ fv ns a + fv ns b) → Q (.dat (.bool false)) [] := fun g => k false ⟨fun z => (nomatch z), fun gd => absurd (gd.2.2 a b ha hb) g⟩
      have la : a < ns.length := by omega
      have lb : b < ns.length := by omega
      have lo : a ||| b < ns.length := by rw [hl]; exact Nat.or_lt_two_pow ha (by omega)
      have lan : a &&& b < ns.length := Nat.lt_of_le_of_lt Nat.and_le_left la
      unfold l__law_is_set_function_1
      decreasing_trivial
      have second : (a &&& b = b → fv ns b ≤ fv ns a) → ∃ d, atI (iD ns) (a : Int) = some d ∧ ∃ e, atI (iD ns) (b : Int) = some e ∧ (bopD .add d e fun v => ∃ d, atI (iD ns) ((a ||| b : Nat) : Int) = some d ∧ ∃ e, atI (iD ns) ((a &&& b : Nat) : Int) = some e ∧ (bopD .add d e fun w => onView v.fz [] fun v => onView w.fz [] fun w =>
          cmpD .lt v w fun r => if r = true then Q (.dat (.bool false)) [] else N2 [some (.dat (.int (n : Nat))), some (.dat (.list (iD ns))), some (.dat (.int (2 ^ n : Nat))), some (.dat (.int (a : Nat))), some (.dat (.int (b : Nat)))] [])) := fun h => by
        refine ix_n la (ix_n lb ?_)
        decreasing_trivial
        refine ix_n lo (ix_n lan ?_)
        decreasing_trivial
        refine ite_i (fun q => bad fun g => ?_) fun q => nxt ⟨h, by omega⟩
        have := g.2
        omega
      refine ⟨.inl (by rw [dep_int]; omega), ?_⟩
      rw [eqv_int]
      by_cases e : a &&& b = b
      · rw [decide_eq_true (by rw [e])]
        decreasing_trivial
        refine ix_n lb (ix_n la ?_)
        decreasing_trivial
        refine ite_i (fun q => bad fun g => ?_) fun q => second fun _ => by omega
        have := g.1 e
        omega
      · rw [decide_eq_false (fun h => e (by omega))]
        exact second fun h => absurd h e
    · rintro ρ η ⟨x4, rfl, rfl, allb⟩
      exact go _ _ ⟨_, _, rfl, rfl, fun a' ha' => by
        by_cases e : a' = a
        · subst e; exact allb
        · exact all a' (by omega)⟩
  · rintro ρ η ⟨x3, x4, rfl, rfl, all⟩
    exact k true ⟨fun _ => ⟨hl, h0, fun a b ha hb => all a ha b hb⟩, fun _ => rfl⟩

/-! integers for all sets -/
def spVals : PSpec := fun vs obs Q => ∃ (n : Nat) (o : Ob), vs = [.ptr 0, .dat (.int (n : Nat))] ∧ obs = [o] ∧ Std o ∧ 1 ≤ n ∧ n ≤ 8 ∧ ∀ (ns : List Int) (o' : Ob), ns.length = 2 ^ n → Std o' → Q (.fr (.lst (iD ns))) [o']
def spCov : PSpec := fun vs obs Q => ∃ (n : Nat) (most : Int) (o : Ob), vs = [.ptr 0, .dat (.int (n : Nat)), .dat (.int most)] ∧ obs = [o] ∧ Std o ∧ 1 ≤ n ∧ n ≤ 8 ∧ 0 < most ∧ most < 1000000 ∧ ∀ (ns : List Int) (o' : Ob), ns.length = 2 ^ n → Std o' → Q (.fr (.lst (iD ns))) [o']
/-- a list of draws -/
theorem draws {Γ : Env} {tg : Tg} {own : List Nat} {e : E} {ok : Reg → Prop} {ρ : Sl} {l : Reg} {o : Ob} {n : Nat} {P : Int → Prop} {Q : List D → Reg → Prop} (ho : Std o) (hok : ∀ o, Std o → ok (some o :: l))
    (h : ∀ (k : Nat) (o : Ob) (K : Option D → Reg → Prop), k < n → Std o → (∀ r o', P r → Std o' → K (some (.int r)) (some o' :: l)) → stepLc tg own (wCond Γ .no) (wE Γ e) ρ (.int (k : Nat)) (some o :: l) K)
    (q : ∀ (ns : List Int) (o' : Ob), ns.length = n → (∀ r ∈ ns, P r) → Std o' → Q (iD ns) (some o' :: l)) : wLc tg own (wCond Γ .no) (wE Γ e) ok ρ (rangeD 0 n) (some o :: l) Q := by
  refine lc_inv (fun η => ∃ o, η = some o :: l ∧ Std o) (fun _ o => ∃ r, o = some (.int r) ∧ P r) (fun η ⟨o, e, s⟩ => by rw [e]; exact hok o s) _ ⟨o, rfl, ho⟩ ?_ ?_
  · rintro d hd η K ⟨o, rfl, hs⟩ kk
    obtain ⟨k, hk, rfl⟩ := rng_mem hd
    rw [Int.zero_add]
    exact h k o K hk hs fun r o' hr ho' => kk _ _ ⟨o', rfl, ho'⟩ ⟨r, rfl, hr⟩
  · rintro es η ⟨o, rfl, hs⟩ ho
    obtain ⟨ns, rfl, hl, hp⟩ := outs_ints (P := P) (fun _ _ h => h) ho
    rw [rng_size] at hl
    exact q ns o hl hp hs
def spRank : PSpec := fun vs obs Q => ∃ ns : List Int, vs = [.dat (.list (iD ns))] ∧ obs = [] ∧ ns.length ≤ 100 ∧ ∀ k : Nat, Q (.dat (.int (k : Nat))) []
theorem rd_rank {vs : List Vl} {obs : List Ob} {Q : Vl → List Ob → Prop} (h : spRank vs obs Q) : vs.length = 1 ∧ obs.length = 0 ∧ wFn [] b__law_rank 5 1 vs obs Q := by
  obtain ⟨ns, rfl, rfl, hl, k⟩ := h
  refine ⟨rfl, rfl, wFn_of rfl ?_⟩
  unfold b__law_rank
  decreasing_trivial
  refine ⟨by unfold sizeLine; omega, [], rfl, ?_⟩
  decreasing_trivial
  refine ⟨fun _ h => (nomatch h), ?_⟩
  refine for_inv (fun rest ρ η => ∃ rs hs x2 x3 x4, rest = iD rs ∧ ρ = [some (.dat (.list (iD ns))), some (.ptr 0), x2, x3, x4] ∧ η = [some (.lst (iD hs))] ∧ hs.length + rs.length ≤ 100) ?_ ?_ _ ⟨ns, [], none, none, none, rfl, rfl, rfl, by simpa using hl⟩
  · rintro d rest ρ η N ⟨rs, hs, x2, x3, x4, hr, rfl, rfl, hln⟩ go
    cases rs with
    | nil => cases hr
    | cons c cs =>
      cases hr
      rw [List.length_cons] at hln
      unfold l__law_rank_2
      decreasing_trivial
      refine ⟨fun r hr => hr, ?_⟩
      refine for_inv (fun rest ρ η => ∃ (rs : List Int) (left : Int) (x4 : Option Vl), rest = iD rs ∧ ρ = [some (.dat (.list (iD ns))), some (.ptr 0), some (.dat (.int c)), some (.dat (.int left)), x4] ∧ η = [some (.lst (iD hs))]) ?_ ?_ _ ⟨hs, c, x4, rfl, rfl, rfl⟩
      · rintro d rest ρ η N2 ⟨rs, left, x4, hr, rfl, rfl⟩ go2
        cases rs with
        | nil => cases hr
        | cons c2 cs2 =>
          cases hr
          unfold l__law_rank_1
          decreasing_trivial
          exact ⟨rfl, go2 _ _ ⟨cs2, _, _, rfl, rfl, rfl⟩⟩
      · rintro ρ η ⟨rs, left, x4, hr, rfl, rfl⟩
        decreasing_trivial
        refine ite_i (fun _ => ⟨by rw [List.length_map]; unfold sizeLine; omega, go _ _ ⟨cs, hs ++ [left], _, _, _, rfl, rfl, by rw [iD_add], by rw [List.length_append, List.length_singleton]; omega⟩⟩) fun _ => go _ _ ⟨cs, hs, _, _, _, rfl, rfl, rfl, by omega⟩
  · rintro ρ η ⟨rs, hs, x2, x3, x4, hr, rfl, rfl, hln⟩
    decreasing_trivial
    exact k _

theorem rd_ranks {vs : List Vl} {obs : List Ob} {Q : Vl → List Ob → Prop} (h : spVals vs obs Q) : vs.length = 2 ∧ obs.length = 1 ∧ wFn [("_law_draw", spDraw), ("_law_rank", spRank)] b__law_ranks 6 1 vs obs Q := by
  obtain ⟨n, o, rfl, rfl, hs, h1, h8, k⟩ := h
  refine ⟨rfl, rfl, wFn_of rfl ?_⟩
  have p8 : 2 ^ n ≤ 2 ^ 8 := Nat.pow_le_pow_right (by omega) h8
  have p8' : 2 ^ n ≤ 256 := p8
  have p0 : 0 < 2 ^ n := Nat.two_pow_pos n
  unfold b__law_ranks
  decreasing_trivial
  refine ⟨by unfold sizeLine; omega, by omega, ?_⟩
  rw [Int.toNat_natCast]
  refine draws (P := fun _ => True) hs (fun _ _ => trivial) (fun j o K hj ho kk => ?_) fun vec o hl _ ho => ?_
  · unfold e__law_ranks_1
    decreasing_trivial
    refine draw_w rfl ho (by omega) (by omega) fun r o' r0 r1 ho' => ?_
    decreasing_trivial
    exact kk r o' trivial ho'
  decreasing_trivial
  refine ⟨by unfold sizeLine; omega, [], rfl, ?_⟩
  decreasing_trivial
  refine ⟨sh_small (by omega), by unfold sizeLine; omega, by omega, fun _ h => (nomatch h), ?_⟩
  rw [Int.toNat_natCast]
  refine for_rng0 (fun m ρ η => ∃ ns o x4 x5, ρ = [some (.ptr 0), some (.dat (.int (n : Nat))), some (.dat (.list (iD vec))), some (.ptr 1), x4, x5] ∧ η = [some o, some (.lst (iD ns))] ∧ Std o ∧ ns.length = m) _ ?_ ?_ ⟨[], o, none, none, rfl, rfl, ho, rfl⟩
  · rintro m ρ η N hm ⟨ns, o, x4, x5, rfl, rfl, ho, hns⟩ go
    unfold l__law_ranks_1
    decreasing_trivial
    refine ⟨by unfold sizeLine; omega, by omega, ?_⟩
    rw [Int.toNat_natCast]
    refine lc_pure (fun d => match d with
      | .int i => if m.testBit i.toNat = true then some (.int (fv vec i.toNat)) else none
      | _ => none) trivial _ (fun d hd K hK => ?_) ?_
    · obtain ⟨j, hj, rfl⟩ := rng_mem hd
      rw [Int.zero_add] at hK ⊢
      unfold c__law_ranks_1 e__law_ranks_2
      decreasing_trivial
      refine ⟨nat_nn j, .inl (by rw [dep_int]; omega), ?_⟩
      dsimp only at hK
      rw [Int.toNat_natCast] at hK
      cases e : m.testBit j with
      | false =>
        rw [e] at hK
        exact hK
      | true =>
        rw [e] at hK
        exact ix_n (by omega) hK
    · decreasing_trivial
      obtain ⟨ms, e, el⟩ : ∃ ms : List Int, ((rangeD 0 n).filterMap fun d => match d with
        | .int i => if m.testBit i.toNat = true then some (PyData.int (fv vec i.toNat)) else none
        | _ => none) = iD ms ∧ ms.length ≤ 8 := by
        have hle := List.length_filterMap_le (fun d => match d with
          | PyData.int i => if m.testBit i.toNat = true then some (PyData.int (fv vec i.toNat)) else none
          | _ => none) (rangeD 0 n)
        rw [rng_size] at hle
        obtain ⟨ms, e⟩ := ints_of (xs := (rangeD 0 n).filterMap fun d => match d with
          | .int i => if m.testBit i.toNat = true then some (PyData.int (fv vec i.toNat)) else none
          | _ => none) fun d hd => by
            obtain ⟨x, _, hx⟩ := List.mem_filterMap.mp hd
            cases x <;> first | (cases hx; done) | skip
            dsimp only at hx
            split at hx
            · cases hx; exact ⟨_, rfl⟩
            · cases hx
        refine ⟨ms, e, ?_⟩
        rw [e, List.length_map] at hle
        omega
      rw [e]
      refine call_0 rfl rfl ⟨ms, rfl, rfl, by omega, fun q => ⟨rfl, trivial, ?_⟩⟩
      decreasing_trivial
      refine ⟨by rw [List.length_map]; unfold sizeLine; omega, go _ _ ⟨ns ++ [(q : Int)], o, _, _, rfl, by rw [iD_add], ho, by rw [List.length_append, List.length_singleton, hns]⟩⟩
  · rintro ρ η ⟨ns, o, x4, x5, rfl, rfl, ho, hns⟩
    decreasing_trivial
    exact k ns o hns ho

theorem ints_fm {f : D → Option D} (hf : ∀ d e, f d = some e → ∃ i : Int, e = .int i) (ds : List D) : ∃ ms : List Int, ds.filterMap f = iD ms ∧ ms.length ≤ ds.length := by
  obtain ⟨ms, e⟩ := ints_of (xs := ds.filterMap f) fun d hd => by
    obtain ⟨x, _, hx⟩ := List.mem_filterMap.mp hd
    exact hf x d hx
  refine ⟨ms, e, ?_⟩
  have := List.length_filterMap_le f ds
  rw [e, List.length_map] at this
  exact this
theorem rd_bent {vs : List Vl} {obs : List Ob} {Q : Vl → List Ob → Prop} (h : spVals vs obs Q) : vs.length = 2 ∧ obs.length = 1 ∧ wFn [("_law_draw", spDraw)] b__law_bent 7 1 vs obs Q := by
  obtain ⟨n, o, rfl, rfl, hs, h1, h8, k⟩ := h
  refine ⟨rfl, rfl, wFn_of rfl ?_⟩
  have p8 : 2 ^ n ≤ 2 ^ 8 := Nat.pow_le_pow_right (by omega) h8
  have p8' : 2 ^ n ≤ 256 := p8
  have p0 : 0 < 2 ^ n := Nat.two_pow_pos n
  unfold b__law_bent
  decreasing_trivial
  refine ⟨by unfold sizeLine; omega, by omega, ?_⟩
  rw [Int.toNat_natCast]
  refine draws (P := fun _ => True) hs (fun _ _ => trivial) (fun j o K hj ho kk => ?_) fun vec o hl _ ho => ?_
  · unfold e__law_bent_1
    decreasing_trivial
    refine draw_w rfl ho (by omega) (by omega) fun r o' r0 r1 ho' => ?_
    decreasing_trivial
    exact kk r o' trivial ho'
  decreasing_trivial
  obtain ⟨s1, ms, e, hms⟩ := sort_ints vec
  refine ⟨s1, ?_⟩
  rw [e]
  refine ⟨by unfold sizeLine; omega, [], rfl, ?_⟩
  decreasing_trivial
  refine ⟨sh_small (by omega), by unfold sizeLine; omega, by omega, fun _ h => (nomatch h), ?_⟩
  rw [Int.toNat_natCast]
  refine for_rng0 (fun m ρ η => ∃ ns o x4 x5 x6, ρ = [some (.ptr 0), some (.dat (.int (n : Nat))), some (.dat (.list (iD ms))), some (.ptr 1), x4, x5, x6] ∧ η = [some o, some (.lst (iD ns))] ∧ Std o ∧ ns.length = m) _ ?_ ?_ ⟨[], o, none, none, none, rfl, rfl, ho, rfl⟩
  · rintro m ρ η N hm ⟨ns, o, x4, x5, x6, rfl, rfl, ho, hns⟩ go
    unfold l__law_bent_1
    decreasing_trivial
    refine ⟨by unfold sizeLine; omega, by omega, ?_⟩
    rw [Int.toNat_natCast]
    refine lc_pure (fun d => match d with
      | .int i => some (.int ((m / 2 ^ i.toNat % 2 : Nat) : Int))
      | _ => none) trivial _ (fun d hd K hK => ?_) ?_
    · obtain ⟨j, hj, rfl⟩ := rng_mem hd
      rw [Int.zero_add] at hK ⊢
      unfold e__law_bent_2
      decreasing_trivial
      dsimp only at hK
      rw [Int.toNat_natCast] at hK
      exact ⟨nat_nn j, hK⟩
    · decreasing_trivial
      obtain ⟨qs, e2, _⟩ := ints_fm (f := fun d => match d with
        | .int i => some (PyData.int ((m / 2 ^ i.toNat % 2 : Nat) : Int))
        | _ => none) (fun d e h => by
          cases d <;> first | (cases h; done) | skip
          cases h
          exact ⟨_, rfl⟩) (rangeD 0 n)
      rw [e2]
      refine intsOf_ints ?_
      decreasing_trivial
      rw [cut_ints]
      refine intsOf_ints ?_
      decreasing_trivial
      refine ⟨by rw [List.length_map]; unfold sizeLine; omega, go _ _ ⟨ns ++ [_], o, _, _, _, rfl, by rw [iD_add], ho, by rw [List.length_append, List.length_singleton, hns]⟩⟩
  · rintro ρ η ⟨ns, o, x4, x5, x6, rfl, rfl, ho, hns⟩
    decreasing_trivial
    exact k ns o hns ho
theorem rd_cov {vs : List Vl} {obs : List Ob} {Q : Vl → List Ob → Prop} (h : spCov vs obs Q) : vs.length = 3 ∧ obs.length = 1 ∧ wFn [("_law_draw", spDraw)] b__law_covered 11 1 vs obs Q := by
  obtain ⟨n, most, o, rfl, rfl, hs, h1, h8, m0, m1, k⟩ := h
  refine ⟨rfl, rfl, wFn_of rfl ?_⟩
  have p8 : 2 ^ n ≤ 2 ^ 8 := Nat.pow_le_pow_right (by omega) h8
  have p8' : 2 ^ n ≤ 256 := p8
  have p0 : 0 < 2 ^ n := Nat.two_pow_pos n
  unfold b__law_covered
  decreasing_trivial
  refine draw_w rfl hs (by omega) (by omega) fun r o r0 r1 hs => ?_
  obtain ⟨pt, hpt⟩ : ∃ pt : Nat, 1 + r = (pt : Int) := ⟨(1 + r).toNat, by omega⟩
  decreasing_trivial
  rw [hpt]
  have q8 : 2 ^ pt ≤ 2 ^ 8 := Nat.pow_le_pow_right (by omega) (by omega)
  have q8' : 2 ^ pt ≤ 256 := q8
  have q0 : 0 < 2 ^ pt := Nat.two_pow_pos pt
  refine ⟨by unfold sizeLine; omega, by omega, ?_⟩
  rw [Int.toNat_natCast]
  refine draws (P := fun _ => True) hs (fun _ _ => trivial) (fun j o K hj ho kk => ?_) fun ws o hw _ ho => ?_
  · unfold e__law_covered_1
    decreasing_trivial
    refine draw_w rfl ho (by omega) (by omega) fun r o' r0 r1 ho' => ?_
    decreasing_trivial
    exact kk r o' trivial ho'
  decreasing_trivial
  refine ⟨by unfold sizeLine; omega, by omega, ?_⟩
  rw [Int.toNat_natCast]
  refine draws (P := fun r => 0 ≤ r) ho (fun _ _ => trivial) (fun j o K hj ho kk => ?_) fun ks o hks kp ho => ?_
  · unfold e__law_covered_2
    decreasing_trivial
    refine ⟨sh_small (by omega), draw_w rfl ho (by omega) (by omega) fun r o' r0 r1 ho' => ?_⟩
    decreasing_trivial
    exact kk r o' r0 ho'
  decreasing_trivial
  refine ⟨by unfold sizeLine; omega, [], rfl, ?_⟩
  decreasing_trivial
  refine ⟨sh_small (by omega), by unfold sizeLine; omega, by omega, fun _ h => (nomatch h), ?_⟩
  rw [Int.toNat_natCast]
  refine for_rng0 (fun m ρ η => ∃ ns o x7 x8 x9 x10, ρ = [some (.ptr 0), some (.dat (.int (n : Nat))), some (.dat (.int most)), some (.dat (.int (pt : Nat))), some (.dat (.list (iD ws))), some (.dat (.list (iD ks))), some (.ptr 1), x7, x8, x9, x10] ∧ η = [some o, some (.lst (iD ns))] ∧ Std o ∧ ns.length = m) _ ?_ ?_
    ⟨[], o, none, none, none, none, rfl, rfl, ho, rfl⟩
  · rintro m ρ η N hm ⟨ns, o, x7, x8, x9, x10, rfl, rfl, ho, hns⟩ go
    unfold l__law_covered_2
    decreasing_trivial
    refine ⟨by unfold sizeLine; omega, by omega, fun _ h => (nomatch h), ?_⟩
    rw [Int.toNat_natCast]
    refine for_rng0 (fun j ρ η => ∃ (met : Nat) (x9 : Option Vl), ρ = [some (.ptr 0), some (.dat (.int (n : Nat))), some (.dat (.int most)), some (.dat (.int (pt : Nat))), some (.dat (.list (iD ws))), some (.dat (.list (iD ks))), some (.ptr 1), some (.dat (.int (m : Nat))), some (.dat (.int (met : Nat))), x9, x10] ∧ η = [some o, some (.lst (iD ns))]) _ ?_ ?_ ⟨0, x9, rfl, rfl⟩
    · rintro j ρ η N2 hj ⟨met, x9, rfl, rfl⟩ go2
      unfold l__law_covered_1
      decreasing_trivial
      refine ⟨nat_nn j, .inl (by rw [dep_int]; omega), ?_⟩
      cases e : m.testBit j with
      | false => exact go2 _ _ ⟨met, _, rfl, rfl⟩
      | true =>
        refine ix_n (by omega) ?_
        obtain ⟨mk, hmk⟩ : ∃ mk : Nat, fv ks j = (mk : Int) := by
          have : fv ks j ∈ ks := by
            unfold fv
            rw [List.getD_eq_getElem?_getD, List.getElem?_eq_getElem (by omega)]
            exact List.getElem_mem _
          exact ⟨(fv ks j).toNat, by have := kp _ this; omega⟩
        rw [hmk]
        decreasing_trivial
        exact go2 _ _ ⟨met ||| mk, _, rfl, rfl⟩
    · rintro ρ η ⟨met, x9, rfl, rfl⟩
      decreasing_trivial
      refine ⟨by unfold sizeLine; omega, by omega, ?_⟩
      rw [Int.toNat_natCast]
      refine lc_pure (fun d => match d with
        | .int i => if met.testBit i.toNat = true then some (.int (fv ws i.toNat)) else none
        | _ => none) trivial _ (fun d hd K hK => ?_) ?_
      · obtain ⟨j, hj, rfl⟩ := rng_mem hd
        rw [Int.zero_add] at hK ⊢
        unfold c__law_covered_1 e__law_covered_3
        decreasing_trivial
        refine ⟨nat_nn j, .inl (by rw [dep_int]; omega), ?_⟩
        dsimp only at hK
        rw [Int.toNat_natCast] at hK
        cases e : met.testBit j with
        | false =>
          rw [e] at hK
          exact hK
        | true =>
          rw [e] at hK
          exact ix_n (by omega) hK
      · decreasing_trivial
        obtain ⟨qs, e2, _⟩ := ints_fm (f := fun d => match d with
          | .int i => if met.testBit i.toNat = true then some (PyData.int (fv ws i.toNat)) else none
          | _ => none) (fun d e h => by
            cases d <;> first | (cases h; done) | skip
            dsimp only at h
            split at h
            · cases h; exact ⟨_, rfl⟩
            · cases h) (rangeD 0 pt)
        rw [e2]
        refine intsOf_ints ?_
        decreasing_trivial
        refine ⟨by rw [List.length_map]; unfold sizeLine; omega, go _ _ ⟨ns ++ [_], o, _, _, _, _, rfl, by rw [iD_add], ho, by rw [List.length_append, List.length_singleton, hns]⟩⟩
  · rintro ρ η ⟨ns, o, x7, x8, x9, x10, rfl, rfl, ho, hns⟩
    decreasing_trivial
    exact k ns o hns ho
theorem drawsD {Γ : Env} {tg : Tg} {own : List Nat} {e : E} {ok : Reg → Prop} {ρ : Sl} {l : Reg} {o : Ob} {ds : List D} {Q : List D → Reg → Prop} (ho : Std o) (hok : ∀ o, Std o → ok (some o :: l))
    (h : ∀ d ∈ ds, ∀ (o : Ob) (K : Option D → Reg → Prop), Std o → (∀ (r : Int) o', Std o' → K (some (.int r)) (some o' :: l)) → stepLc tg own (wCond Γ .no) (wE Γ e) ρ d (some o :: l) K)
    (q : ∀ (ns : List Int) (o' : Ob), ns.length = ds.length → Std o' → Q (iD ns) (some o' :: l)) : wLc tg own (wCond Γ .no) (wE Γ e) ok ρ ds (some o :: l) Q := by
  refine lc_inv (fun η => ∃ o, η = some o :: l ∧ Std o) (fun _ o => ∃ r : Int, o = some (.int r) ∧ True) (fun η ⟨o, e, s⟩ => by rw [e]; exact hok o s) _ ⟨o, rfl, ho⟩ ?_ ?_
  · rintro d hd η K ⟨o, rfl, hs⟩ kk
    exact h d hd o K hs fun r o' ho' => kk _ _ ⟨o', rfl, ho'⟩ ⟨r, rfl, trivial⟩
  · rintro es η ⟨o, rfl, hs⟩ ho
    obtain ⟨ns, rfl, hl, hp⟩ := outs_ints (P := fun _ => True) (fun _ _ h => h) ho
    exact q ns o hl hs
theorem vals_w {n : Nat} {o : Ob} {Q : Vl → Reg → Prop} (hs : Std o) (h1 : 1 ≤ n) (h8 : n ≤ 8) (q : ∀ (ns : List Int) (o' : Ob), ns.length = 2 ^ n → Std o' → Q (.fr (.lst (iD ns))) [some o']) : callW spVals [.ptr 0, .dat (.int (n : Nat))] [some o] Q :=
  call_r rfl rfl rfl ⟨n, o, rfl, rfl, hs, h1, h8, fun ns o' h h' => ⟨rfl, trivial, q ns o' h h'⟩⟩
theorem cov_w {n : Nat} {most : Int} {o : Ob} {Q : Vl → Reg → Prop} (hs : Std o) (h1 : 1 ≤ n) (h8 : n ≤ 8) (m0 : 0 < most) (m1 : most < 1000000) (q : ∀ (ns : List Int) (o' : Ob), ns.length = 2 ^ n → Std o' → Q (.fr (.lst (iD ns))) [some o']) :
    callW spCov [.ptr 0, .dat (.int (n : Nat)), .dat (.int most)] [some o] Q :=
  call_r rfl rfl rfl ⟨n, most, o, rfl, rfl, hs, h1, h8, m0, m1, fun ns o' h h' => ⟨rfl, trivial, q ns o' h h'⟩⟩
theorem rd_vals {vs : List Vl} {obs : List Ob} {Q : Vl → List Ob → Prop} (h : spVals vs obs Q) : vs.length = 2 ∧ obs.length = 1 ∧ wFn [("_law_draw", spDraw), ("_law_ranks", spVals), ("_law_bent", spVals), ("_law_covered", spCov)] b__law_set_values 7 0 vs obs Q := by
  obtain ⟨n, o, rfl, rfl, hs, h1, h8, k⟩ := h
  refine ⟨rfl, rfl, wFn_of rfl ?_⟩
  have p8 : 2 ^ n ≤ 2 ^ 8 := Nat.pow_le_pow_right (by omega) h8
  have p8' : 2 ^ n ≤ 256 := p8
  have p0 : 0 < 2 ^ n := Nat.two_pow_pos n
  unfold b__law_set_values
  decreasing_trivial
  refine draw_w rfl hs (by omega) (by omega) fun r o r0 r1 hs => ?_
  decreasing_trivial
  have fin : ∀ (ns : List Int) (o' : Ob), ns.length = 2 ^ n → Std o' → (match outs 1 [some o'] with
      | some os => Vl.noPtr (.fr (.lst (iD ns))) ∧ Q (.fr (.lst (iD ns))) os
      | none => False) := fun ns o' h h' => ⟨trivial, k ns o' h h'⟩
  refine ⟨.inl (by rw [dep_int]; omega), ite_of (fun _ => vals_w hs h1 h8 fin) fun _ => ?_⟩
  refine ⟨.inl (by rw [dep_int]; omega), ite_of (fun _ => vals_w hs h1 h8 fin) fun _ => ?_⟩
  refine ⟨.inl (by rw [dep_int]; omega), ite_of (fun _ => cov_w hs h1 h8 (by omega) (by omega) fun a o ha ho => ?_) fun _ => ?_⟩
  · decreasing_trivial
    refine vals_w ho h1 h8 fun b o hb ho => ?_
    decreasing_trivial
    refine draw_w rfl ho (by omega) (by omega) fun r o r0 r1 ho => ?_
    decreasing_trivial
    refine ⟨sh_small (by omega), by unfold sizeLine; omega, by omega, ?_⟩
    rw [Int.toNat_natCast]
    refine lc_pure (fun d => match d with
      | .int i => some (.int (if fv a i.toNat + fv b i.toNat < 1 + r then fv a i.toNat + fv b i.toNat else 1 + r))
      | _ => none) trivial _ (fun d hd K hK => ?_) ?_
    · obtain ⟨j, hj, rfl⟩ := rng_mem hd
      rw [Int.zero_add] at hK ⊢
      unfold e__law_set_values_1
      decreasing_trivial
      dsimp only at hK
      rw [Int.toNat_natCast] at hK
      refine ix_n (by omega) (ix_n (by omega) ?_)
      decreasing_trivial
      exact hK
    · decreasing_trivial
      have e : (rangeD 0 (2 ^ n)).filterMap (fun d => match d with
        | .int i => some (PyData.int (if fv a i.toNat + fv b i.toNat < 1 + r then fv a i.toNat + fv b i.toNat else 1 + r))
        | _ => none) = iD ((List.range (2 ^ n)).map fun i => if fv a i + fv b i < 1 + r then fv a i + fv b i else 1 + r) := by
        rw [rng_zero, List.filterMap_map]
        show _ = List.map PyData.int (List.map _ _)
        rw [List.map_map, ← List.filterMap_eq_map]
        rfl
      rw [e]
      exact k _ o (by rw [List.length_map, List.length_range]) ho
  refine ⟨.inl (by rw [dep_int]; omega), ite_of (fun _ => cov_w hs h1 h8 (by omega) (by omega) fin) fun _ => ?_⟩
  refine ⟨.inl (by rw [dep_int]; omega), ite_of (fun _ => ?_) fun _ => cov_w hs h1 h8 (by omega) (by omega) fin⟩
  refine ⟨by unfold sizeLine; omega, [.int 0], rfl, ?_⟩
  decreasing_trivial
  refine ⟨sh_small (by omega), ⟨by unfold sizeLine; omega, by omega⟩, ?_⟩
  refine drawsD hs (fun _ _ => trivial) (fun d _ o K ho kk => ?_) fun ns o hl ho => ?_
  · unfold e__law_set_values_2
    decreasing_trivial
    refine draw_w rfl ho (by omega) (by omega) fun r o' r0 r1 ho' => ?_
    decreasing_trivial
    exact kk r o' ho'
  · rw [rng_size] at hl
    decreasing_trivial
    refine ⟨by rw [List.length_map]; unfold sizeLine; omega, ?_⟩
    exact k (0 :: ns) o (by rw [List.length_cons]; omega) ho
def spWith : PSpec := fun vs obs Q => ∃ (ns : List Int) (k : Nat) (v : Int), vs = [.dat (.list (iD ns)), .dat (.int (k : Nat)), .dat (.int v)] ∧ obs = [] ∧ k < ns.length ∧ Q (.fr (.lst (iD (ns.set k v)))) []
theorem rd_with {vs : List Vl} {obs : List Ob} {Q : Vl → List Ob → Prop} (h : spWith vs obs Q) : vs.length = 3 ∧ obs.length = 0 ∧ wFn [] b__law_with 4 1 vs obs Q := by
  obtain ⟨ns, k, v, rfl, rfl, hk, q⟩ := h
  refine ⟨rfl, rfl, wFn_of rfl ?_⟩
  unfold b__law_with
  decreasing_trivial
  refine ⟨k, by rw [ixN_pos (nat_nn k) (by rw [List.length_map]; omega), Int.toNat_natCast], ?_⟩
  rw [← List.map_set]
  exact q
theorem with_w {ns : List Int} {k : Nat} {v : Int} {η : Reg} {Q : Vl → Reg → Prop} (h : k < ns.length) (q : Q (.fr (.lst (iD (ns.set k v)))) η) : callW spWith [.dat (.list (iD ns)), .dat (.int (k : Nat)), .dat (.int v)] η Q :=
  call_0 rfl rfl ⟨ns, k, v, rfl, rfl, h, rfl, trivial, q⟩
def spRoom : PSpec := fun vs obs Q => ∃ (n : Nat) (ns : List Int), vs = [.dat (.int (n : Nat)), .dat (.list (iD ns))] ∧ obs = [] ∧ 1 ≤ n ∧ n ≤ 8 ∧ ns.length = 2 ^ n ∧ ∀ z : Int, Q (.dat (.int z)) []
theorem rd_room {vs : List Vl} {obs : List Ob} {Q : Vl → List Ob → Prop} (h : spRoom vs obs Q) : vs.length = 2 ∧ obs.length = 0 ∧ wFn [] b__law_room 6 1 vs obs Q := by
  obtain ⟨n, ns, rfl, rfl, h1, h8, hl, k⟩ := h
  refine ⟨rfl, rfl, wFn_of rfl ?_⟩
  have p8 : 2 ^ n ≤ 2 ^ 8 := Nat.pow_le_pow_right (by omega) h8
  have p8' : 2 ^ n ≤ 256 := p8
  have p0 : 0 < 2 ^ n := Nat.two_pow_pos n
  obtain ⟨w, hw⟩ : ∃ w : Nat, w + 1 = 2 ^ n := ⟨2 ^ n - 1, by omega⟩
  have ew : ((2 ^ n : Nat) : Int) - 1 = (w : Int) := by omega
  unfold b__law_room
  decreasing_trivial
  rw [ew]
  refine ⟨sh_small (by omega), by unfold sizeLine; omega, [], rfl, ?_⟩
  decreasing_trivial
  refine ⟨by unfold sizeLine; omega, by omega, fun _ h => (nomatch h), ?_⟩
  rw [Int.toNat_natCast]
  refine for_rng0 (fun a ρ η => ∃ rs x4 x5, ρ = [some (.dat (.int (n : Nat))), some (.dat (.list (iD ns))), some (.dat (.int (w : Nat))), some (.ptr 0), x4, x5] ∧ η = [some (.lst (iD rs))] ∧ rs.length ≤ a * 256) _ ?_ ?_ ⟨[], none, none, rfl, rfl, by simp⟩
  · rintro a ρ η N ha ⟨rs, x4, x5, rfl, rfl, hr⟩ go
    unfold l__law_room_2
    decreasing_trivial
    refine ⟨by unfold sizeLine; omega, by omega, fun _ h => (nomatch h), ?_⟩
    rw [Int.toNat_natCast]
    refine for_rng0 (fun b ρ η => ∃ rs x5, ρ = [some (.dat (.int (n : Nat))), some (.dat (.list (iD ns))), some (.dat (.int (w : Nat))), some (.ptr 0), some (.dat (.int (a : Nat))), x5] ∧ η = [some (.lst (iD rs))] ∧ rs.length ≤ a * 256 + b) _ ?_ ?_ ⟨rs, x5, rfl, rfl, by omega⟩
    · rintro b ρ η N2 hb ⟨rs, x5, rfl, rfl, hr⟩ go2
      unfold l__law_room_1
      decreasing_trivial
      refine ⟨.inl (by rw [dep_int]; omega), ite_of (fun _ => ?_) fun _ => go2 _ _ ⟨rs, _, rfl, rfl, by omega⟩⟩
      refine ix_n (by omega) (ix_n (by omega) ?_)
      decreasing_trivial
      refine ix_n (Nat.lt_of_le_of_lt Nat.and_le_left (by omega)) ?_
      decreasing_trivial
      refine ix_n (by omega) ?_
      decreasing_trivial
      refine ⟨by rw [List.length_map]; unfold sizeLine; omega, go2 _ _ ⟨rs ++ [_], some (.dat (.int (b : Nat))), rfl, by rw [iD_add], by rw [List.length_append, List.length_singleton]; omega⟩⟩
    · rintro ρ η ⟨rs, x5, rfl, rfl, hr⟩
      exact go _ _ ⟨rs, _, _, rfl, rfl, by omega⟩
  · rintro ρ η ⟨rs, x4, x5, rfl, rfl, hr⟩
    decreasing_trivial
    refine ⟨.inl (by rw [dep_int]; omega), ite_of (fun _ => k 0) fun h => ?_⟩
    rw [eqv_int, List.length_map] at h
    have := of_decide_eq_false h
    refine intsOf_ints ⟨by omega, fun m _ _ => k m⟩

theorem xor_pos (a b : Nat) : ∃ c : Nat, Builtin.bitXor (a : Int) (b : Int) = (c : Int) ∧ c ≤ (a ||| b) := by
  refine ⟨(a ||| b) - (a &&& b), ?_, by omega⟩
  have h1 : a &&& b ≤ a := Nat.and_le_left
  have h2 : a ≤ a ||| b := Nat.left_le_or
  unfold Builtin.bitXor
  rw [n_bor, n_band]
  omega
def lsD (vss : List (List Int)) : List D := vss.map fun v => .list (iD v)
theorem lsD_add (vss : List (List Int)) (v : List Int) : lsD vss ++ [.list (iD v)] = lsD (vss ++ [v]) := by
  unfold lsD
  rw [List.map_append]
  rfl
def spVar : PSpec := fun vs obs Q => ∃ (n : Nat) (ns : List Int) (o : Ob), vs = [.ptr 0, .dat (.int (n : Nat)), .dat (.list (iD ns))] ∧ obs = [o] ∧ Std o ∧ 1 ≤ n ∧ n ≤ 8 ∧ ns.length = 2 ^ n ∧
  ∀ (vss : List (List Int)) (o' : Ob), vss.length ≤ 100 → Std o' → Q (.fr (.lst (lsD vss))) [o']
theorem rd_var {vs : List Vl} {obs : List Ob} {Q : Vl → List Ob → Prop} (h : spVar vs obs Q) : vs.length = 3 ∧ obs.length = 1 ∧ wFn [("_law_room", spRoom), ("_law_draw", spDraw), ("_law_with", spWith)] b__law_variants 12 1 vs obs Q := by
  obtain ⟨n, ns, o, rfl, rfl, hs, h1, h8, hl, k⟩ := h
  refine ⟨rfl, rfl, wFn_of rfl ?_⟩
  have p8 : 2 ^ n ≤ 2 ^ 8 := Nat.pow_le_pow_right (by omega) h8
  have p8' : 2 ^ n ≤ 256 := p8
  have p0 : 0 < 2 ^ n := Nat.two_pow_pos n
  have p2 : 2 ^ 1 ≤ 2 ^ n := Nat.pow_le_pow_right (by omega) h1
  obtain ⟨w, hw⟩ : ∃ w : Nat, w + 1 = 2 ^ n := ⟨2 ^ n - 1, by omega⟩
  have ew : ((2 ^ n : Nat) : Int) - 1 = (w : Int) := by omega
  unfold b__law_variants
  decreasing_trivial
  rw [ew]
  refine ⟨sh_small (by omega), call_0 rfl rfl ⟨n, ns, rfl, rfl, h1, h8, hl, fun room => ⟨rfl, trivial, ?_⟩⟩⟩
  decreasing_trivial
  refine ⟨by unfold sizeLine; omega, by omega, ?_⟩
  rw [Int.toNat_natCast]
  have xlt : ∀ c : Nat, c < n → ∃ q : Nat, Builtin.bitXor (w : Int) ((2 ^ c : Nat) : Int) = (q : Int) ∧ q < ns.length := fun c hc => by
    obtain ⟨q, h, hle⟩ := xor_pos w (2 ^ c)
    exact ⟨q, h, by rw [hl]; exact Nat.lt_of_le_of_lt hle (Nat.or_lt_two_pow (by omega) (Nat.pow_lt_pow_right (by omega) hc))⟩
  refine lc_pure (fun d => match d with
    | .int i => some (.int (fv ns (Builtin.bitXor (w : Int) ((2 ^ i.toNat : Nat) : Int)).toNat))
    | _ => none) trivial _ (fun d hd K hK => ?_) ?_
  · obtain ⟨j, hj, rfl⟩ := rng_mem hd
    rw [Int.zero_add] at hK ⊢
    unfold e__law_variants_1
    decreasing_trivial
    dsimp only at hK
    rw [Int.toNat_natCast] at hK
    obtain ⟨q, e, hq⟩ := xlt j hj
    rw [e, Int.toNat_natCast] at hK
    refine ⟨sh_small (by omega), ?_⟩
    rw [e]
    exact ix_n hq hK
  obtain ⟨tops, e, _⟩ := ints_fm (f := fun d => match d with
    | .int i => some (PyData.int (fv ns (Builtin.bitXor (w : Int) ((2 ^ i.toNat : Nat) : Int)).toNat))
    | _ => none) (fun d e h => by
      cases d <;> first | (cases h; done) | skip
      cases h
      exact ⟨_, rfl⟩) (rangeD 0 n)
  have tl : tops.length = n := by
    have := congrArg List.length e
    rw [rng_zero, List.filterMap_map, List.length_map] at this
    rw [← this]
    have e3 : ∀ l : List Nat, (l.filterMap ((fun d => match d with
      | PyData.int i => some (PyData.int (fv ns (Builtin.bitXor (w : Int) ((2 ^ i.toNat : Nat) : Int)).toNat))
      | _ => none) ∘ fun k => PyData.int (k : Nat))).length = l.length := fun l => by
      induction l with
      | nil => rfl
      | cons x l ih => rw [List.filterMap_cons]; dsimp only [Function.comp]; rw [List.length_cons, List.length_cons, ← ih]
    exact (e3 _).trans List.length_range
  rw [e]
  decreasing_trivial
  refine intsOf_ints ⟨by omega, fun top _ _ => ?_⟩
  decreasing_trivial
  refine draw_w rfl hs (by omega) (by omega) fun at1 o a0 a1 hs => ?_
  obtain ⟨at1, rfl⟩ : ∃ q : Nat, at1 = (q : Int) := ⟨at1.toNat, by omega⟩
  decreasing_trivial
  refine draw_w rfl hs (by omega) (by omega) fun ot o b0 b1 hs => ?_
  obtain ⟨ot, rfl⟩ : ∃ q : Nat, ot = (q : Int) := ⟨ot.toNat, by omega⟩
  decreasing_trivial
  refine draw_w rfl hs (by omega) (by omega) fun by0 o c0 c1 hs => ?_
  decreasing_trivial
  have la : at1 < ns.length := by omega
  have lo : ot < ns.length := by omega
  have lw : w < ns.length := by omega
  refine ⟨by unfold sizeLine; omega, [.list (iD ns)], rfl, ?_⟩
  decreasing_trivial
  have sz : ∀ m : Nat, m ≤ 100 → m < sizeLine := fun m h => by unfold sizeLine; omega
  refine ix_n la ?_
  decreasing_trivial
  refine with_w la ?_
  decreasing_trivial
  refine ⟨by unfold sizeLine; omega, ix_n la ?_⟩
  decreasing_trivial
  refine with_w la ?_
  decreasing_trivial
  refine ⟨sz _ (by omega), ix_n lo ?_⟩
  decreasing_trivial
  refine with_w la ?_
  decreasing_trivial
  refine ix_n la ?_
  decreasing_trivial
  refine with_w (by rw [List.length_set]; exact lo) ?_
  decreasing_trivial
  refine ⟨sz _ (by omega), ix_n lw ?_⟩
  decreasing_trivial
  refine with_w lw ?_
  decreasing_trivial
  refine ⟨sz _ (by omega), ix_n lw ?_⟩
  decreasing_trivial
  refine with_w lw ?_
  decreasing_trivial
  refine ⟨sz _ (by omega), with_w lw ?_⟩
  decreasing_trivial
  refine ⟨sz _ (by omega), with_w lw ?_⟩
  decreasing_trivial
  refine ⟨sz _ (by omega), ?_⟩
  have mapd : ∀ (z : Int), ∃ ms : List Int, ((iD ns).filterMap fun d => match d with
    | .int i => some (PyData.int (i + z))
    | _ => none) = iD ms := fun z => by
    obtain ⟨ms, e, _⟩ := ints_fm (f := fun d => match d with
      | .int i => some (PyData.int (i + z))
      | _ => none) (fun d e h => by
        cases d <;> first | (cases h; done) | skip
        cases h
        exact ⟨_, rfl⟩) (iD ns)
    exact ⟨ms, e⟩
  refine lc_pure (fun d => match d with
    | .int i => some (.int (i + (1 + by0)))
    | _ => none) trivial _ (fun d hd K hK => ?_) ?_
  · obtain ⟨i, _, rfl⟩ := List.mem_map.mp hd
    unfold e__law_variants_2
    decreasing_trivial
    exact hK
  obtain ⟨m1, e1⟩ := mapd (1 + by0)
  rw [e1]
  decreasing_trivial
  refine ⟨sz _ (by omega), ?_⟩
  refine lc_pure (fun d => match d with
    | .int i => some (.int (i + (-(1 + by0))))
    | _ => none) trivial _ (fun d hd K hK => ?_) ?_
  · obtain ⟨i, _, rfl⟩ := List.mem_map.mp hd
    unfold e__law_variants_3
    decreasing_trivial
    exact hK
  obtain ⟨m2, e2⟩ := mapd (-(1 + by0))
  rw [e2]
  decreasing_trivial
  refine ⟨sz _ (by omega), with_w (k := 0) (by omega) ?_⟩
  decreasing_trivial
  have two : iD ns ++ iD ns = iD (ns ++ ns) := by
    show _ = List.map _ _
    rw [List.map_append]
  have ln : (iD ns).length ≤ 256 := by rw [List.length_map]; omega
  refine ⟨sz _ (by omega), ix_n lw ⟨by unfold sizeLine; omega, [.int (fv ns w)], rfl, by rw [List.length_singleton]; unfold sizeLine; omega, sz _ (by omega), sz _ (by omega), by unfold sizeLine; omega, sz _ (by omega), .inl (by omega), sz _ (by omega), by omega, [], rfl, sz _ (by omega), ?_⟩⟩
  rw [cut_ints, cut_ints, iD_add, two]
  exact k [ns, ns.set at1 (fv ns at1 + (1 + by0)), ns.set at1 (fv ns at1 - (1 + by0)), (ns.set at1 (fv ns ot)).set ot (fv ns at1), ns.set w (fv ns w + room), ns.set w (fv ns w + room + 1), ns.set w top, ns.set w (top - 1), m1, m2, ns.set 0 (1 + by0), ns ++ [fv ns w],
    cutL ns none (some (w : Int)), ns ++ ns, cutL ns none (some (((w : Int) + 1) / 2)), []] o (by simp only [List.length_cons, List.length_nil]; omega) hs
/-! the law -/
abbrev Gk : Env := [("_law_draw", spDraw), ("_law_rare", spRare), ("mask_of", spMask), ("_law_is_int", spIsInt), ("_law_set_values", spVals), ("_law_variants", spVar), ("is_submodular", spSub), ("_law_is_set_function", spSetF)]
abbrev Pk : LEnds := ⟨fun _ _ => False, fun v _ => v = .dat (.bool true), fun _ _ => False, fun _ _ => False⟩
theorem bits_all {n m : Nat} (h : m < 2 ^ n) : orL 0 ((List.range n).filter fun i => m.testBit i) = m := or_ext fun k => by
  rw [orL_bit]
  have : decide (k ∈ (List.range n).filter fun i => m.testBit i) = m.testBit k := by
    rw [Bool.eq_iff_iff, decide_eq_true_iff, List.mem_filter, List.mem_range]
    exact ⟨fun h => h.2, fun e => ⟨bit_lt h e, e⟩⟩
  rw [this]
  simp
theorem bits_fm (n m : Nat) : (rangeD 0 n).filterMap (fun d => match d with
    | .int i => if m.testBit i.toNat = true then some (PyData.int i) else none
    | _ => none) = nD ((List.range n).filter fun i => m.testBit i) := by
  rw [rng_zero, List.filterMap_map]
  unfold nD
  generalize List.range n = l
  induction l with
  | nil => rfl
  | cons x l ih =>
    rw [List.filterMap_cons]
    dsimp only [Function.comp]
    rw [Int.toNat_natCast]
    cases e : m.testBit x with
    | false =>
      rw [List.filter_cons_of_neg (by rw [e]; exact Bool.false_ne_true)]
      exact ih
    | true =>
      rw [List.filter_cons_of_pos e, List.map_cons, ← ih]
      rfl
theorem eqv_bool (a b : Bool) : PyData.eqv (.bool a) (.bool b) = (a == b) := by rw [PyData.eqv]
theorem dep_bool (a : Bool) : (PyData.bool a).depth = 0 := by simp [PyData.depth]
theorem rd_tail {n : Nat} {o : Ob} (hs : Std o) (h1 : 1 ≤ n) (h8 : n ≤ 8) : wSs Gk r_law_1 Pk [none, some (.ptr 0), some (.dat (.int (n : Nat))), none, none, none, none, none, none] [some o] := by
  have p8 : 2 ^ n ≤ 2 ^ 8 := Nat.pow_le_pow_right (by omega) h8
  have p8' : 2 ^ n ≤ 256 := p8
  have p0 : 0 < 2 ^ n := Nat.two_pow_pos n
  unfold r_law_1
  decreasing_trivial
  refine ⟨sh_small (by omega), by unfold sizeLine; omega, by omega, fun _ h => (nomatch h), ?_⟩
  rw [Int.toNat_natCast]
  refine for_rng0 (fun m ρ η => ∃ x3 x7, ρ = [none, some (.ptr 0), some (.dat (.int (n : Nat))), x3, none, none, none, x7, none] ∧ η = [some o]) _ ?_ ?_ ⟨none, none, rfl, rfl⟩
  · rintro m ρ η N hm ⟨x3, x7, rfl, rfl⟩ go
    unfold l_law_1
    decreasing_trivial
    refine ⟨by unfold sizeLine; omega, by omega, ?_⟩
    rw [Int.toNat_natCast]
    refine lc_pure (fun d => match d with
      | .int i => if m.testBit i.toNat = true then some (.int i) else none
      | _ => none) trivial _ (fun d hd K hK => ?_) ?_
    · obtain ⟨j, hj, rfl⟩ := rng_mem hd
      rw [Int.zero_add] at hK ⊢
      unfold c_law_1 e_law_1
      decreasing_trivial
      refine ⟨nat_nn j, .inl (by rw [dep_int]; omega), ?_⟩
      dsimp only at hK
      rw [Int.toNat_natCast] at hK
      cases e : m.testBit j with
      | false => rw [e] at hK; exact hK
      | true => rw [e] at hK; exact hK
    · rw [bits_fm]
      decreasing_trivial
      refine call_0 rfl rfl ⟨_, rfl, rfl, fun q hq => by
        have := List.mem_range.mp (List.mem_filter.mp hq).1
        omega, rfl, trivial, ?_⟩
      rw [bits_all hm]
      decreasing_trivial
      refine call_0 rfl rfl ⟨_, rfl, rfl, rfl, trivial, ?_⟩
      decreasing_trivial
      refine ⟨.inl (by rw [dep_int]; omega), ?_⟩
      rw [eqv_int, decide_eq_true rfl]
      exact go _ _ ⟨_, _, rfl, rfl⟩
  · rintro ρ η ⟨x3, x7, rfl, rfl⟩
    decreasing_trivial
    refine vals_w hs h1 h8 fun ns o hl hs => ?_
    decreasing_trivial
    refine call_r rfl rfl rfl ⟨n, ns, o, rfl, rfl, hs, h1, h8, hl, fun vss o hv hs => ⟨rfl, trivial, ?_⟩⟩
    decreasing_trivial
    refine ⟨by unfold sizeLine; omega, [.list (iD ns)], rfl, by unfold lsD; rw [List.length_map, List.length_singleton]; unfold sizeLine; omega, fun _ h => (nomatch h), ?_⟩
    rw [lsD_add]
    refine for_inv (fun rest ρ η => ∃ wss o x3 x6 x7, rest = lsD wss ∧ ρ = [none, some (.ptr 0), some (.dat (.int (n : Nat))), x3, some (.dat (.list (iD ns))), some (.dat (.list (lsD vss))), x6, x7, none] ∧ η = [some o]) ?_ ?_ _ ⟨vss ++ [ns], o, x3, none, x7, rfl, rfl, rfl⟩
    · rintro d rest ρ η N ⟨wss, o, x3, x6, x7, hr, rfl, rfl⟩ go
      cases wss with
      | nil => cases hr
      | cons v wss =>
        cases hr
        unfold l_law_2
        decreasing_trivial
        refine call_0 rfl rfl ⟨n, v, rfl, rfl, h1, h8, fun b hb => ⟨rfl, trivial, ?_⟩⟩
        decreasing_trivial
        refine ⟨"bool", true, rfl, kit_bb, ?_⟩
        decreasing_trivial
        refine call_0 rfl rfl ⟨n, v, rfl, rfl, h1, h8, fun c hc => ⟨rfl, trivial, ?_⟩⟩
        decreasing_trivial
        have e : b = c := by rw [Bool.eq_iff_iff, hb, hc]
        subst e
        refine ⟨.inl (by rw [dep_bool]; omega), ?_⟩
        rw [eqv_bool]
        have : (b == b) = true := by simp
        rw [this]
        exact go _ _ ⟨wss, _, _, _, _, rfl, rfl, rfl⟩
    · rintro ρ η ⟨wss, o, x3, x6, x7, hr, rfl, rfl⟩
      decreasing_trivial
theorem rd_law : lawW Gk b_law 7 0 := by
  intro cells hc
  unfold b_law
  decreasing_trivial
  refine draw_w rfl (Std.first cells) (by omega) (by omega) fun r o r0 r1 hs => ?_
  obtain ⟨q, hq⟩ : ∃ q : Nat, 1 + r = (q : Int) := ⟨(1 + r).toNat, by omega⟩
  decreasing_trivial
  rw [hq]
  refine call_r rfl rfl rfl ⟨_, _, rfl, rfl, hs, by omega, by omega, fun b o hs => ⟨rfl, trivial, ?_⟩⟩
  decreasing_trivial
  refine ite_of (fun _ => ?_) fun _ => ?_
  · refine draw_w rfl hs (by omega) (by omega) fun r o r0 r1 hs => ?_
    obtain ⟨q, hq⟩ : ∃ q : Nat, 5 + r = (q : Int) := ⟨(5 + r).toNat, by omega⟩
    decreasing_trivial
    rw [hq]
    exact rd_tail hs (by omega) (by omega)
  · exact rd_tail hs (by omega) (by omega)

end Pl

namespace Pl
open PySem PySem.Spec PyProof.Rows L2

/-! ## the end -/
def topS (i : Nat) : Stmt := PySem.Challenge.pw_tolledjoins_k16_set_functions.main.body.getD i (.Pass ⟨0, 0, 0, 0⟩)
def csK : List (Str × D) := []
abbrev s_mask_of : Stmt := topS 1
abbrev s_grows_and_bends : Stmt := topS 2
abbrev s_is_submodular : Stmt := topS 3
abbrev s__law_begin : Stmt := topS 5
abbrev s__law_draw : Stmt := topS 6
abbrev s__law_rare : Stmt := topS 7
abbrev s__law_is_int : Stmt := topS 8
abbrev s__law_is_set_function : Stmt := topS 9
abbrev s__law_covered : Stmt := topS 10
abbrev s__law_rank : Stmt := topS 11
abbrev s__law_ranks : Stmt := topS 12
abbrev s__law_bent : Stmt := topS 13
abbrev s__law_set_values : Stmt := topS 14
abbrev s__law_with : Stmt := topS 15
abbrev s__law_room : Stmt := topS 16
abbrev s__law_variants : Stmt := topS 17
abbrev s_law : Stmt := topS 18
theorem sc_mask_of : scK N_mask_of (["columns"] : List Str) (defScope s_mask_of) = true := by decide +kernel
theorem ck_mask_of : kSs ⟨N_mask_of, [], csK⟩ (defScope s_mask_of) (List.range 0) b_mask_of (defBody s_mask_of) = true := by decide +kernel
theorem sc_grows_and_bends : scK N_grows_and_bends (["values", "mask", "x", "y"] : List Str) (defScope s_grows_and_bends) = true := by decide +kernel
theorem ck_grows_and_bends : kSs ⟨N_grows_and_bends, [], csK⟩ (defScope s_grows_and_bends) (List.range 0) b_grows_and_bends (defBody s_grows_and_bends) = true := by decide +kernel
theorem sc_is_submodular : scK N_is_submodular (["columns", "values"] : List Str) (defScope s_is_submodular) = true := by decide +kernel
theorem ck_is_submodular : kSs ⟨N_is_submodular, ["grows_and_bends"], csK⟩ (defScope s_is_submodular) (List.range 0) b_is_submodular (defBody s_is_submodular) = true := by decide +kernel
theorem sc__law_draw : scK N__law_draw (["d", "many"] : List Str) (defScope s__law_draw) = true := by decide +kernel
theorem ck__law_draw : kSs ⟨N__law_draw, [], csK⟩ (defScope s__law_draw) (List.range 1) b__law_draw (defBody s__law_draw) = true := by decide +kernel
theorem sc__law_rare : scK N__law_rare (["d", "many"] : List Str) (defScope s__law_rare) = true := by decide +kernel
theorem ck__law_rare : kSs ⟨N__law_rare, ["_law_draw"], csK⟩ (defScope s__law_rare) (List.range 1) b__law_rare (defBody s__law_rare) = true := by decide +kernel
theorem sc__law_is_int : scK N__law_is_int (["thing"] : List Str) (defScope s__law_is_int) = true := by decide +kernel
theorem ck__law_is_int : kSs ⟨N__law_is_int, [], csK⟩ (defScope s__law_is_int) (List.range 0) b__law_is_int (defBody s__law_is_int) = true := by decide +kernel
theorem sc__law_is_set_function : scK N__law_is_set_function (["columns", "values"] : List Str) (defScope s__law_is_set_function) = true := by decide +kernel
theorem ck__law_is_set_function : kSs ⟨N__law_is_set_function, [], csK⟩ (defScope s__law_is_set_function) (List.range 0) b__law_is_set_function (defBody s__law_is_set_function) = true := by decide +kernel
theorem sc__law_covered : scK N__law_covered (["d", "columns", "most"] : List Str) (defScope s__law_covered) = true := by decide +kernel
theorem ck__law_covered : kSs ⟨N__law_covered, ["_law_draw"], csK⟩ (defScope s__law_covered) (List.range 1) b__law_covered (defBody s__law_covered) = true := by decide +kernel
theorem sc__law_rank : scK N__law_rank (["vectors"] : List Str) (defScope s__law_rank) = true := by decide +kernel
theorem ck__law_rank : kSs ⟨N__law_rank, [], csK⟩ (defScope s__law_rank) (List.range 0) b__law_rank (defBody s__law_rank) = true := by decide +kernel
theorem sc__law_ranks : scK N__law_ranks (["d", "columns"] : List Str) (defScope s__law_ranks) = true := by decide +kernel
theorem ck__law_ranks : kSs ⟨N__law_ranks, ["_law_draw", "_law_rank"], csK⟩ (defScope s__law_ranks) (List.range 1) b__law_ranks (defBody s__law_ranks) = true := by decide +kernel
theorem sc__law_bent : scK N__law_bent (["d", "columns"] : List Str) (defScope s__law_bent) = true := by decide +kernel
theorem ck__law_bent : kSs ⟨N__law_bent, ["_law_draw"], csK⟩ (defScope s__law_bent) (List.range 1) b__law_bent (defBody s__law_bent) = true := by decide +kernel
theorem sc__law_set_values : scK N__law_set_values (["d", "columns"] : List Str) (defScope s__law_set_values) = true := by decide +kernel
theorem ck__law_set_values : kSs ⟨N__law_set_values, ["_law_draw", "_law_ranks", "_law_bent", "_law_covered"], csK⟩ (defScope s__law_set_values) (List.range 1) b__law_set_values (defBody s__law_set_values) = true := by decide +kernel
theorem sc__law_with : scK N__law_with (["row", "at", "value"] : List Str) (defScope s__law_with) = true := by decide +kernel
theorem ck__law_with : kSs ⟨N__law_with, [], csK⟩ (defScope s__law_with) (List.range 0) b__law_with (defBody s__law_with) = true := by decide +kernel
theorem sc__law_room : scK N__law_room (["columns", "values"] : List Str) (defScope s__law_room) = true := by decide +kernel
theorem ck__law_room : kSs ⟨N__law_room, [], csK⟩ (defScope s__law_room) (List.range 0) b__law_room (defBody s__law_room) = true := by decide +kernel
theorem sc__law_variants : scK N__law_variants (["d", "columns", "values"] : List Str) (defScope s__law_variants) = true := by decide +kernel
theorem ck__law_variants : kSs ⟨N__law_variants, ["_law_room", "_law_draw", "_law_with"], csK⟩ (defScope s__law_variants) (List.range 1) b__law_variants (defBody s__law_variants) = true := by decide +kernel
theorem sc_law : scK N_law ["script"] (defScope s_law) = true := by decide +kernel
theorem ck_law : kLaw ⟨N_law, ["_law_draw", "_law_rare", "mask_of", "_law_is_int", "_law_set_values", "_law_variants", "is_submodular", "_law_is_set_function"], csK⟩ (defScope s_law) b_law (defBody s_law) = true := by decide +kernel
theorem sc_begin : scK ["script", "cell"] ["script"] (defScope s__law_begin) = true := by decide +kernel
theorem ck_begin : bScope s__law_begin = true := by decide +kernel
theorem all_mk {l : PySem.W.OpenLaw} {w : World} {K : PySem.W.Frag} {h : Heap} {mg : Str → Option Value} {fa : Addr} (X : K.In h) (G : h.Ns mainGlobals mg) (hfa : mg "law" = some (.ref fa))
    {f0 : Addr} {od0 an0 : Option Addr} {sl0 : Array (Option Value)} {oc0 kV0 dc0 pm0 cd0 ct0 : Value}
    {f1 : Addr} {od1 an1 : Option Addr} {sl1 : Array (Option Value)} {oc1 kV1 dc1 pm1 cd1 ct1 : Value}
    {f2 : Addr} {od2 an2 : Option Addr} {sl2 : Array (Option Value)} {oc2 kV2 dc2 pm2 cd2 ct2 : Value}
    {f3 : Addr} {od3 an3 : Option Addr} {sl3 : Array (Option Value)} {oc3 kV3 dc3 pm3 cd3 ct3 : Value}
    {f4 : Addr} {od4 an4 : Option Addr} {sl4 : Array (Option Value)} {oc4 kV4 dc4 pm4 cd4 ct4 : Value}
    {f5 : Addr} {od5 an5 : Option Addr} {sl5 : Array (Option Value)} {oc5 kV5 dc5 pm5 cd5 ct5 : Value}
    {f6 : Addr} {od6 an6 : Option Addr} {sl6 : Array (Option Value)} {oc6 kV6 dc6 pm6 cd6 ct6 : Value}
    {f7 : Addr} {od7 an7 : Option Addr} {sl7 : Array (Option Value)} {oc7 kV7 dc7 pm7 cd7 ct7 : Value}
    {f8 : Addr} {od8 an8 : Option Addr} {sl8 : Array (Option Value)} {oc8 kV8 dc8 pm8 cd8 ct8 : Value}
    {f9 : Addr} {od9 an9 : Option Addr} {sl9 : Array (Option Value)} {oc9 kV9 dc9 pm9 cd9 ct9 : Value}
    {f10 : Addr} {od10 an10 : Option Addr} {sl10 : Array (Option Value)} {oc10 kV10 dc10 pm10 cd10 ct10 : Value}
    {f11 : Addr} {od11 an11 : Option Addr} {sl11 : Array (Option Value)} {oc11 kV11 dc11 pm11 cd11 ct11 : Value}
    {f12 : Addr} {od12 an12 : Option Addr} {sl12 : Array (Option Value)} {oc12 kV12 dc12 pm12 cd12 ct12 : Value}
    {f13 : Addr} {od13 an13 : Option Addr} {sl13 : Array (Option Value)} {oc13 kV13 dc13 pm13 cd13 ct13 : Value}
    {f14 : Addr} {od14 an14 : Option Addr} {sl14 : Array (Option Value)} {oc14 kV14 dc14 pm14 cd14 ct14 : Value}
    {f15 : Addr} {od15 an15 : Option Addr} {sl15 : Array (Option Value)} {oc15 kV15 dc15 pm15 cd15 ct15 : Value}
    {f16 : Addr} {od16 an16 : Option Addr} {sl16 : Array (Option Value)} {oc16 kV16 dc16 pm16 cd16 ct16 : Value}
    (a0 : PySem.W.nsIn K mainGlobals "mask_of" = some (some (.ref f0))) (l0 : K.lookup f0 = some ⟨oc0, od0, .func (PySem.W.fnOf "mask_of" "mask_of" (defArgs s_mask_of) (defBody s_mask_of) (defScope s_mask_of) .none kV0 dc0 pm0 an0 cd0 ct0), sl0⟩) (c0 : PySem.W.codeIn K cd0 "mask_of" = true) (k0 : PySem.W.keepIn K (.ref f0) = true)
    (a1 : PySem.W.nsIn K mainGlobals "grows_and_bends" = some (some (.ref f1))) (l1 : K.lookup f1 = some ⟨oc1, od1, .func (PySem.W.fnOf "grows_and_bends" "grows_and_bends" (defArgs s_grows_and_bends) (defBody s_grows_and_bends) (defScope s_grows_and_bends) .none kV1 dc1 pm1 an1 cd1 ct1), sl1⟩) (c1 : PySem.W.codeIn K cd1 "grows_and_bends" = true) (k1 : PySem.W.keepIn K (.ref f1) = true)
    (a2 : PySem.W.nsIn K mainGlobals "is_submodular" = some (some (.ref f2))) (l2 : K.lookup f2 = some ⟨oc2, od2, .func (PySem.W.fnOf "is_submodular" "is_submodular" (defArgs s_is_submodular) (defBody s_is_submodular) (defScope s_is_submodular) .none kV2 dc2 pm2 an2 cd2 ct2), sl2⟩) (c2 : PySem.W.codeIn K cd2 "is_submodular" = true) (k2 : PySem.W.keepIn K (.ref f2) = true)
    (a3 : PySem.W.nsIn K mainGlobals "_law_draw" = some (some (.ref f3))) (l3 : K.lookup f3 = some ⟨oc3, od3, .func (PySem.W.fnOf "_law_draw" "_law_draw" (defArgs s__law_draw) (defBody s__law_draw) (defScope s__law_draw) .none kV3 dc3 pm3 an3 cd3 ct3), sl3⟩) (c3 : PySem.W.codeIn K cd3 "_law_draw" = true) (k3 : PySem.W.keepIn K (.ref f3) = true)
    (a4 : PySem.W.nsIn K mainGlobals "_law_rare" = some (some (.ref f4))) (l4 : K.lookup f4 = some ⟨oc4, od4, .func (PySem.W.fnOf "_law_rare" "_law_rare" (defArgs s__law_rare) (defBody s__law_rare) (defScope s__law_rare) .none kV4 dc4 pm4 an4 cd4 ct4), sl4⟩) (c4 : PySem.W.codeIn K cd4 "_law_rare" = true) (k4 : PySem.W.keepIn K (.ref f4) = true)
    (a5 : PySem.W.nsIn K mainGlobals "_law_is_int" = some (some (.ref f5))) (l5 : K.lookup f5 = some ⟨oc5, od5, .func (PySem.W.fnOf "_law_is_int" "_law_is_int" (defArgs s__law_is_int) (defBody s__law_is_int) (defScope s__law_is_int) .none kV5 dc5 pm5 an5 cd5 ct5), sl5⟩) (c5 : PySem.W.codeIn K cd5 "_law_is_int" = true) (k5 : PySem.W.keepIn K (.ref f5) = true)
    (a6 : PySem.W.nsIn K mainGlobals "_law_is_set_function" = some (some (.ref f6))) (l6 : K.lookup f6 = some ⟨oc6, od6, .func (PySem.W.fnOf "_law_is_set_function" "_law_is_set_function" (defArgs s__law_is_set_function) (defBody s__law_is_set_function) (defScope s__law_is_set_function) .none kV6 dc6 pm6 an6 cd6 ct6), sl6⟩) (c6 : PySem.W.codeIn K cd6 "_law_is_set_function" = true) (k6 : PySem.W.keepIn K (.ref f6) = true)
    (a7 : PySem.W.nsIn K mainGlobals "_law_covered" = some (some (.ref f7))) (l7 : K.lookup f7 = some ⟨oc7, od7, .func (PySem.W.fnOf "_law_covered" "_law_covered" (defArgs s__law_covered) (defBody s__law_covered) (defScope s__law_covered) .none kV7 dc7 pm7 an7 cd7 ct7), sl7⟩) (c7 : PySem.W.codeIn K cd7 "_law_covered" = true) (k7 : PySem.W.keepIn K (.ref f7) = true)
    (a8 : PySem.W.nsIn K mainGlobals "_law_rank" = some (some (.ref f8))) (l8 : K.lookup f8 = some ⟨oc8, od8, .func (PySem.W.fnOf "_law_rank" "_law_rank" (defArgs s__law_rank) (defBody s__law_rank) (defScope s__law_rank) .none kV8 dc8 pm8 an8 cd8 ct8), sl8⟩) (c8 : PySem.W.codeIn K cd8 "_law_rank" = true) (k8 : PySem.W.keepIn K (.ref f8) = true)
    (a9 : PySem.W.nsIn K mainGlobals "_law_ranks" = some (some (.ref f9))) (l9 : K.lookup f9 = some ⟨oc9, od9, .func (PySem.W.fnOf "_law_ranks" "_law_ranks" (defArgs s__law_ranks) (defBody s__law_ranks) (defScope s__law_ranks) .none kV9 dc9 pm9 an9 cd9 ct9), sl9⟩) (c9 : PySem.W.codeIn K cd9 "_law_ranks" = true) (k9 : PySem.W.keepIn K (.ref f9) = true)
    (a10 : PySem.W.nsIn K mainGlobals "_law_bent" = some (some (.ref f10))) (l10 : K.lookup f10 = some ⟨oc10, od10, .func (PySem.W.fnOf "_law_bent" "_law_bent" (defArgs s__law_bent) (defBody s__law_bent) (defScope s__law_bent) .none kV10 dc10 pm10 an10 cd10 ct10), sl10⟩) (c10 : PySem.W.codeIn K cd10 "_law_bent" = true) (k10 : PySem.W.keepIn K (.ref f10) = true)
    (a11 : PySem.W.nsIn K mainGlobals "_law_set_values" = some (some (.ref f11))) (l11 : K.lookup f11 = some ⟨oc11, od11, .func (PySem.W.fnOf "_law_set_values" "_law_set_values" (defArgs s__law_set_values) (defBody s__law_set_values) (defScope s__law_set_values) .none kV11 dc11 pm11 an11 cd11 ct11), sl11⟩) (c11 : PySem.W.codeIn K cd11 "_law_set_values" = true) (k11 : PySem.W.keepIn K (.ref f11) = true)
    (a12 : PySem.W.nsIn K mainGlobals "_law_with" = some (some (.ref f12))) (l12 : K.lookup f12 = some ⟨oc12, od12, .func (PySem.W.fnOf "_law_with" "_law_with" (defArgs s__law_with) (defBody s__law_with) (defScope s__law_with) .none kV12 dc12 pm12 an12 cd12 ct12), sl12⟩) (c12 : PySem.W.codeIn K cd12 "_law_with" = true) (k12 : PySem.W.keepIn K (.ref f12) = true)
    (a13 : PySem.W.nsIn K mainGlobals "_law_room" = some (some (.ref f13))) (l13 : K.lookup f13 = some ⟨oc13, od13, .func (PySem.W.fnOf "_law_room" "_law_room" (defArgs s__law_room) (defBody s__law_room) (defScope s__law_room) .none kV13 dc13 pm13 an13 cd13 ct13), sl13⟩) (c13 : PySem.W.codeIn K cd13 "_law_room" = true) (k13 : PySem.W.keepIn K (.ref f13) = true)
    (a14 : PySem.W.nsIn K mainGlobals "_law_variants" = some (some (.ref f14))) (l14 : K.lookup f14 = some ⟨oc14, od14, .func (PySem.W.fnOf "_law_variants" "_law_variants" (defArgs s__law_variants) (defBody s__law_variants) (defScope s__law_variants) .none kV14 dc14 pm14 an14 cd14 ct14), sl14⟩) (c14 : PySem.W.codeIn K cd14 "_law_variants" = true) (k14 : PySem.W.keepIn K (.ref f14) = true)
    (a15 : PySem.W.nsIn K mainGlobals "_law_begin" = some (some (.ref f15))) (l15 : K.lookup f15 = some ⟨oc15, od15, .func (PySem.W.fnOf "_law_begin" "_law_begin" (defArgs s__law_begin) (defBody s__law_begin) (defScope s__law_begin) .none kV15 dc15 pm15 an15 cd15 ct15), sl15⟩) (c15 : PySem.W.codeIn K cd15 "_law_begin" = true) (k15 : PySem.W.keepIn K (.ref f15) = true)
    (a16 : PySem.W.nsIn K mainGlobals "law" = some (some (.ref f16))) (l16 : K.lookup f16 = some ⟨oc16, od16, .func (PySem.W.fnOf "law" "law" (defArgs s_law) (defBody s_law) (defScope s_law) .none kV16 dc16 pm16 an16 cd16 ct16), sl16⟩) (c16 : PySem.W.codeIn K cd16 "law" = true) (k16 : PySem.W.keepIn K (.ref f16) = true)
    (z0 : PySem.W.nsIn K mainGlobals "len" = some none)
    (z1 : PySem.W.nsIn K mainGlobals "int" = some none)
    (z2 : PySem.W.nsIn K mainGlobals "abs" = some none)
    (z3 : PySem.W.nsIn K mainGlobals "sum" = some none)
    (z4 : PySem.W.nsIn K mainGlobals "min" = some none)
    (z5 : PySem.W.nsIn K mainGlobals "max" = some none)
    (z6 : PySem.W.nsIn K mainGlobals "all" = some none)
    (z7 : PySem.W.nsIn K mainGlobals "any" = some none)
    (z8 : PySem.W.nsIn K mainGlobals "list" = some none)
    (z9 : PySem.W.nsIn K mainGlobals "tuple" = some none)
    (z10 : PySem.W.nsIn K mainGlobals "sorted" = some none)
    (z11 : PySem.W.nsIn K mainGlobals "range" = some none)
    (z12 : PySem.W.nsIn K mainGlobals "isinstance" = some none)
    (z13 : PySem.W.nsIn K mainGlobals "zip" = some none)
    (z14 : PySem.W.nsIn K mainGlobals "enumerate" = some none)
    (z15 : PySem.W.nsIn K mainGlobals "str" = some none)
    (z16 : PySem.W.nsIn K mainGlobals "bool" = some none)
    (z17 : PySem.W.nsIn K mainGlobals "dict" = some none)
    (z18 : PySem.W.nsIn K mainGlobals "set" = some none)
    : ∃ fd : FuncData, (∀ (s : Shared) (v : Value), BindsTo s fd ⟨[v], []⟩ [("script", v)]) ∧ ∀ base : Heap, K.In base → base.Ns mainGlobals mg → FnOk l.prog w K mg base CX0 4 fa fd ["script"] (spLaw K) := by
  have e := hfa.symm.trans (PySem.W.mg_of X G a16)
  cases e
  have F0 := fun_mk (st := s_mask_of) l0 c0 k0
  have F1 := fun_mk (st := s_grows_and_bends) l1 c1 k1
  have F2 := fun_mk (st := s_is_submodular) l2 c2 k2
  have F3 := fun_mk (st := s__law_draw) l3 c3 k3
  have F4 := fun_mk (st := s__law_rare) l4 c4 k4
  have F5 := fun_mk (st := s__law_is_int) l5 c5 k5
  have F6 := fun_mk (st := s__law_is_set_function) l6 c6 k6
  have F7 := fun_mk (st := s__law_covered) l7 c7 k7
  have F8 := fun_mk (st := s__law_rank) l8 c8 k8
  have F9 := fun_mk (st := s__law_ranks) l9 c9 k9
  have F10 := fun_mk (st := s__law_bent) l10 c10 k10
  have F11 := fun_mk (st := s__law_set_values) l11 c11 k11
  have F12 := fun_mk (st := s__law_with) l12 c12 k12
  have F13 := fun_mk (st := s__law_room) l13 c13 k13
  have F14 := fun_mk (st := s__law_variants) l14 c14 k14
  have F15 := fun_mk (st := s__law_begin) l15 c15 k15
  have F16 := fun_mk (st := s_law) l16 c16 k16
  have b0 := F0.binds (ps := (["columns"] : List Str)) fun _ _ _ _ _ _ us hl => match us, hl with | [_], _ => rfl
  have b1 := F1.binds (ps := (["values", "mask", "x", "y"] : List Str)) fun _ _ _ _ _ _ us hl => match us, hl with | [_, _, _, _], _ => rfl
  have b2 := F2.binds (ps := (["columns", "values"] : List Str)) fun _ _ _ _ _ _ us hl => match us, hl with | [_, _], _ => rfl
  have b3 := F3.binds (ps := (["d", "many"] : List Str)) fun _ _ _ _ _ _ us hl => match us, hl with | [_, _], _ => rfl
  have b4 := F4.binds (ps := (["d", "many"] : List Str)) fun _ _ _ _ _ _ us hl => match us, hl with | [_, _], _ => rfl
  have b5 := F5.binds (ps := (["thing"] : List Str)) fun _ _ _ _ _ _ us hl => match us, hl with | [_], _ => rfl
  have b6 := F6.binds (ps := (["columns", "values"] : List Str)) fun _ _ _ _ _ _ us hl => match us, hl with | [_, _], _ => rfl
  have b7 := F7.binds (ps := (["d", "columns", "most"] : List Str)) fun _ _ _ _ _ _ us hl => match us, hl with | [_, _, _], _ => rfl
  have b8 := F8.binds (ps := (["vectors"] : List Str)) fun _ _ _ _ _ _ us hl => match us, hl with | [_], _ => rfl
  have b9 := F9.binds (ps := (["d", "columns"] : List Str)) fun _ _ _ _ _ _ us hl => match us, hl with | [_, _], _ => rfl
  have b10 := F10.binds (ps := (["d", "columns"] : List Str)) fun _ _ _ _ _ _ us hl => match us, hl with | [_, _], _ => rfl
  have b11 := F11.binds (ps := (["d", "columns"] : List Str)) fun _ _ _ _ _ _ us hl => match us, hl with | [_, _], _ => rfl
  have b12 := F12.binds (ps := (["row", "at", "value"] : List Str)) fun _ _ _ _ _ _ us hl => match us, hl with | [_, _, _], _ => rfl
  have b13 := F13.binds (ps := (["columns", "values"] : List Str)) fun _ _ _ _ _ _ us hl => match us, hl with | [_, _], _ => rfl
  have b14 := F14.binds (ps := (["d", "columns", "values"] : List Str)) fun _ _ _ _ _ _ us hl => match us, hl with | [_, _, _], _ => rfl
  have b15 := F15.binds (ps := (["script"] : List Str)) fun _ _ _ _ _ _ us hl => match us, hl with | [_], _ => rfl
  have M : Mg mg csK := by
    refine ⟨fun x hx => ?_, fun x d hd => ?_⟩
    · unfold bltNames at hx
      rcases List.mem_cons.mp hx with rfl | hx
      · exact PySem.W.mg_none_of X G z0
      rcases List.mem_cons.mp hx with rfl | hx
      · exact PySem.W.mg_none_of X G z1
      rcases List.mem_cons.mp hx with rfl | hx
      · exact PySem.W.mg_none_of X G z2
      rcases List.mem_cons.mp hx with rfl | hx
      · exact PySem.W.mg_none_of X G z3
      rcases List.mem_cons.mp hx with rfl | hx
      · exact PySem.W.mg_none_of X G z4
      rcases List.mem_cons.mp hx with rfl | hx
      · exact PySem.W.mg_none_of X G z5
      rcases List.mem_cons.mp hx with rfl | hx
      · exact PySem.W.mg_none_of X G z6
      rcases List.mem_cons.mp hx with rfl | hx
      · exact PySem.W.mg_none_of X G z7
      rcases List.mem_cons.mp hx with rfl | hx
      · exact PySem.W.mg_none_of X G z8
      rcases List.mem_cons.mp hx with rfl | hx
      · exact PySem.W.mg_none_of X G z9
      rcases List.mem_cons.mp hx with rfl | hx
      · exact PySem.W.mg_none_of X G z10
      rcases List.mem_cons.mp hx with rfl | hx
      · exact PySem.W.mg_none_of X G z11
      rcases List.mem_cons.mp hx with rfl | hx
      · exact PySem.W.mg_none_of X G z12
      rcases List.mem_cons.mp hx with rfl | hx
      · exact PySem.W.mg_none_of X G z13
      rcases List.mem_cons.mp hx with rfl | hx
      · exact PySem.W.mg_none_of X G z14
      rcases List.mem_cons.mp hx with rfl | hx
      · exact PySem.W.mg_none_of X G z15
      rcases List.mem_cons.mp hx with rfl | hx
      · exact PySem.W.mg_none_of X G z16
      rcases List.mem_cons.mp hx with rfl | hx
      · exact PySem.W.mg_none_of X G z17
      rcases List.mem_cons.mp hx with rfl | hx
      · exact PySem.W.mg_none_of X G z18
      exact absurd hx List.not_mem_nil
    · unfold csK at hd
      exact absurd hd List.not_mem_nil
  refine ⟨PySem.W.fnOf "law" "law" (defArgs s_law) (defBody s_law) (defScope s_law) .none kV16 dc16 pm16 an16 cd16 ct16, fun s v => .of_eq rfl, fun base _ _ => ?_⟩
  have K0 : Kn l.prog w K mg base 1 "mask_of" spMask := def_ok (N := N_mask_of) (Γ := []) (np := 0) (n := 0) F0 (PySem.W.mg_of X G a0) b0 M sc_mask_of ck_mask_of (fun p hp => absurd hp List.not_mem_nil) fun _ _ _ h => rd_mask h
  have K1 : Kn l.prog w K mg base 1 "grows_and_bends" spGrow := def_ok (N := N_grows_and_bends) (Γ := []) (np := 0) (n := 0) F1 (PySem.W.mg_of X G a1) b1 M sc_grows_and_bends ck_grows_and_bends (fun p hp => absurd hp List.not_mem_nil) fun _ _ _ h => rd_grow h
  have K3 : Kn l.prog w K mg base 1 "_law_draw" spDraw := def_ok (N := N__law_draw) (Γ := []) (np := 1) (n := 0) F3 (PySem.W.mg_of X G a3) b3 M sc__law_draw ck__law_draw (fun p hp => absurd hp List.not_mem_nil) fun _ _ _ h => rd_draw h
  have K5 : Kn l.prog w K mg base 1 "_law_is_int" spIsInt := def_ok (N := N__law_is_int) (Γ := []) (np := 0) (n := 0) F5 (PySem.W.mg_of X G a5) b5 M sc__law_is_int ck__law_is_int (fun p hp => absurd hp List.not_mem_nil) fun _ _ _ h => rd_isint h
  have K6 : Kn l.prog w K mg base 1 "_law_is_set_function" spSetF := def_ok (N := N__law_is_set_function) (Γ := []) (np := 0) (n := 0) F6 (PySem.W.mg_of X G a6) b6 M sc__law_is_set_function ck__law_is_set_function (fun p hp => absurd hp List.not_mem_nil) fun _ _ _ h => rd_setf h
  have K8 : Kn l.prog w K mg base 1 "_law_rank" spRank := def_ok (N := N__law_rank) (Γ := []) (np := 0) (n := 1) F8 (PySem.W.mg_of X G a8) b8 M sc__law_rank ck__law_rank (fun p hp => absurd hp List.not_mem_nil) fun _ _ _ h => rd_rank h
  have K12 : Kn l.prog w K mg base 1 "_law_with" spWith := def_ok (N := N__law_with) (Γ := []) (np := 0) (n := 1) F12 (PySem.W.mg_of X G a12) b12 M sc__law_with ck__law_with (fun p hp => absurd hp List.not_mem_nil) fun _ _ _ h => rd_with h
  have K13 : Kn l.prog w K mg base 1 "_law_room" spRoom := def_ok (N := N__law_room) (Γ := []) (np := 0) (n := 1) F13 (PySem.W.mg_of X G a13) b13 M sc__law_room ck__law_room (fun p hp => absurd hp List.not_mem_nil) fun _ _ _ h => rd_room h
  have K2 : Kn l.prog w K mg base 2 "is_submodular" spSub := def_ok (N := N_is_submodular) (Γ := [("grows_and_bends", spGrow)]) (np := 0) (n := 0) F2 (PySem.W.mg_of X G a2) b2 M sc_is_submodular ck_is_submodular (List.forall_mem_cons.mpr ⟨K1.mono (by omega), fun p hp => absurd hp List.not_mem_nil⟩) fun _ _ _ h => rd_sub h
  have K4 : Kn l.prog w K mg base 2 "_law_rare" spRare := def_ok (N := N__law_rare) (Γ := [("_law_draw", spDraw)]) (np := 1) (n := 0) F4 (PySem.W.mg_of X G a4) b4 M sc__law_rare ck__law_rare (List.forall_mem_cons.mpr ⟨K3.mono (by omega), fun p hp => absurd hp List.not_mem_nil⟩) fun _ _ _ h => rd_rare h
  have K7 : Kn l.prog w K mg base 2 "_law_covered" spCov := def_ok (N := N__law_covered) (Γ := [("_law_draw", spDraw)]) (np := 1) (n := 1) F7 (PySem.W.mg_of X G a7) b7 M sc__law_covered ck__law_covered (List.forall_mem_cons.mpr ⟨K3.mono (by omega), fun p hp => absurd hp List.not_mem_nil⟩) fun _ _ _ h => rd_cov h
  have K9 : Kn l.prog w K mg base 2 "_law_ranks" spVals := def_ok (N := N__law_ranks) (Γ := [("_law_draw", spDraw), ("_law_rank", spRank)]) (np := 1) (n := 1) F9 (PySem.W.mg_of X G a9) b9 M sc__law_ranks ck__law_ranks (List.forall_mem_cons.mpr ⟨K3.mono (by omega), List.forall_mem_cons.mpr ⟨K8.mono (by omega), fun p hp => absurd hp List.not_mem_nil⟩⟩) fun _ _ _ h => rd_ranks h
  have K10 : Kn l.prog w K mg base 2 "_law_bent" spVals := def_ok (N := N__law_bent) (Γ := [("_law_draw", spDraw)]) (np := 1) (n := 1) F10 (PySem.W.mg_of X G a10) b10 M sc__law_bent ck__law_bent (List.forall_mem_cons.mpr ⟨K3.mono (by omega), fun p hp => absurd hp List.not_mem_nil⟩) fun _ _ _ h => rd_bent h
  have K14 : Kn l.prog w K mg base 2 "_law_variants" spVar := def_ok (N := N__law_variants) (Γ := [("_law_room", spRoom), ("_law_draw", spDraw), ("_law_with", spWith)]) (np := 1) (n := 1) F14 (PySem.W.mg_of X G a14) b14 M sc__law_variants ck__law_variants (List.forall_mem_cons.mpr ⟨K13.mono (by omega), List.forall_mem_cons.mpr ⟨K3.mono (by omega), List.forall_mem_cons.mpr ⟨K12.mono (by omega), fun p hp => absurd hp List.not_mem_nil⟩⟩⟩) fun _ _ _ h => rd_var h
  have K11 : Kn l.prog w K mg base 3 "_law_set_values" spVals := def_ok (N := N__law_set_values) (Γ := [("_law_draw", spDraw), ("_law_ranks", spVals), ("_law_bent", spVals), ("_law_covered", spCov)]) (np := 1) (n := 0) F11 (PySem.W.mg_of X G a11) b11 M sc__law_set_values ck__law_set_values (List.forall_mem_cons.mpr ⟨K3.mono (by omega), List.forall_mem_cons.mpr ⟨K9.mono (by omega), List.forall_mem_cons.mpr ⟨K10.mono (by omega), List.forall_mem_cons.mpr ⟨K7.mono (by omega), fun p hp => absurd hp List.not_mem_nil⟩⟩⟩⟩) fun _ _ _ h => rd_vals h
  have B := beg_ok (P := l.prog) (w := w) (base := base) (k := 2) F15 sc_begin ck_begin (M.blt _ (by decide +kernel))
  exact law_ok (N := N_law) (Γ := [("_law_draw", spDraw), ("_law_rare", spRare), ("mask_of", spMask), ("_law_is_int", spIsInt), ("_law_set_values", spVals), ("_law_variants", spVar), ("is_submodular", spSub), ("_law_is_set_function", spSetF)]) F16 B (PySem.W.mg_of X G a15) F15.kp b15 M sc_law rfl ck_law (List.forall_mem_cons.mpr ⟨K3.mono (by omega), List.forall_mem_cons.mpr ⟨K4.mono (by omega), List.forall_mem_cons.mpr ⟨K0.mono (by omega), List.forall_mem_cons.mpr ⟨K5.mono (by omega), List.forall_mem_cons.mpr ⟨K11.mono (by omega), List.forall_mem_cons.mpr ⟨K14.mono (by omega), List.forall_mem_cons.mpr ⟨K2.mono (by omega), List.forall_mem_cons.mpr ⟨K6.mono (by omega), fun p hp => absurd hp List.not_mem_nil⟩⟩⟩⟩⟩⟩⟩⟩) rd_law
end Pl
open PySem PySem.W PyProof.Rows
set_option maxHeartbeats 0 in
theorem PySem.Challenge.cw_tolledjoins_k16_set_functions_holds : PySem.Challenge.rw_tolledjoins_k16_set_functions.Holds := by
  w_on; o_law; k_head; (case hw => w_witness2)
  k_fill
  refine L2.walk_of (l := PySem.Challenge.rw_tolledjoins_k16_set_functions) (n := 63) (k := 4) (x := "script") (CX := fun _ => L2.CX0) (sp := fun w => Pl.spLaw _) rfl (by decide) rfl ⟨rfl, by decide, by decide⟩ (fun w h Y => PySem.W.kIn_of Y) ?F (fun _ _ a ns hl _ hS => ⟨a, ns, rfl, hS, hl, fun _ => rfl⟩) (fun _ _ _ _ _ h => h)
  case F =>
    intro w mg fa h KX G hmg
    refine' Pl.all_mk KX G hmg ?a0 ?l0 ?c0 ?k0 ?a1 ?l1 ?c1 ?k1 ?a2 ?l2 ?c2 ?k2 ?a3 ?l3 ?c3 ?k3 ?a4 ?l4 ?c4 ?k4 ?a5 ?l5 ?c5 ?k5 ?a6 ?l6 ?c6 ?k6 ?a7 ?l7 ?c7 ?k7 ?a8 ?l8 ?c8 ?k8 ?a9 ?l9 ?c9 ?k9 ?a10 ?l10 ?c10 ?k10 ?a11 ?l11 ?c11 ?k11 ?a12 ?l12 ?c12 ?k12 ?a13 ?l13 ?c13 ?k13 ?a14 ?l14 ?c14 ?k14 ?a15 ?l15 ?c15 ?k15 ?a16 ?l16 ?c16 ?k16 ?z0 ?z1 ?z2 ?z3 ?z4 ?z5 ?z6 ?z7 ?z8 ?z9 ?z10 ?z11 ?z12 ?z13 ?z14 ?z15 ?z16 ?z17 ?z18
    (case a0 => k_is); (case l0 => k_is); (case c0 => k_is); (case k0 => k_is); (case a1 => k_is); (case l1 => k_is); (case c1 => k_is); (case k1 => k_is); (case a2 => k_is); (case l2 => k_is); (case c2 => k_is); (case k2 => k_is); (case a3 => k_is); (case l3 => k_is); (case c3 => k_is); (case k3 => k_is); (case a4 => k_is); (case l4 => k_is); (case c4 => k_is); (case k4 => k_is); (case a5 => k_is); (case l5 => k_is); (case c5 => k_is); (case k5 => k_is); (case a6 => k_is); (case l6 => k_is); (case c6 => k_is); (case k6 => k_is); (case a7 => k_is); (case l7 => k_is); (case c7 => k_is); (case k7 => k_is); (case a8 => k_is); (case l8 => k_is); (case c8 => k_is); (case k8 => k_is); (case a9 => k_is); (case l9 => k_is); (case c9 => k_is); (case k9 => k_is); (case a10 => k_is); (case l10 => k_is); (case c10 => k_is); (case k10 => k_is); (case a11 => k_is); (case l11 => k_is); (case c11 => k_is); (case k11 => k_is); (case a12 => k_is); (case l12 => k_is); (case c12 => k_is); (case k12 => k_is); (case a13 => k_is); (case l13 => k_is); (case c13 => k_is); (case k13 => k_is); (case a14 => k_is); (case l14 => k_is); (case c14 => k_is); (case k14 => k_is); (case a15 => k_is); (case l15 => k_is); (case c15 => k_is); (case k15 => k_is); (case a16 => k_is); (case l16 => k_is); (case c16 => k_is); (case k16 => k_is); (case z0 => k_is); (case z1 => k_is); (case z2 => k_is); (case z3 => k_is); (case z4 => k_is); (case z5 => k_is); (case z6 => k_is); (case z7 => k_is); (case z8 => k_is); (case z9 => k_is); (case z10 => k_is); (case z11 => k_is); (case z12 => k_is); (case z13 => k_is); (case z14 => k_is); (case z15 => k_is); (case z16 => k_is); (case z17 => k_is); (case z18 => k_is)
