import PyProof.Rows.All
import Wide.All
import OpenK.AllK
import Wide.FinOn
import HandS.ForMost
import HandS.Defaults
import HandS.Walk
import HandS.IsInst
import HandS.TupAny
import HandS.HeadNt
import HandS.HeadHook1
import HandS.HeadHook2
import HandS.Property
import HandS.ClsMeth
import KE.KStateDown
import HandS.Head0
import HandS.Head1
import HandS.Head2
import HandS.HeadEnd
import KE.GoesZip
import KE.GoesMore
import KE.GoesNew
import HandS.DictComp
import HandS.DictTup
import HandS.WordsDict
import HandS.Star
import HandS.Zip
import HandS.SortKw
import PyProof.Rows.CallKwBuiltin
import HandS.Style
import KE.SortData
import KE.KCallOwn
import KE.KDictKeyed
import KE.KDictSum
import KE.KDictWalk
import HandS.SetTxt0
import HandS.Set
import PyProof.Rows.SetFrom
import PyProof.WalksMore
import PyProof.P3In
import HandS.TryOnly
import HandS.GenBody
import HandS.GenYield
import HandS.GenCall
import HandS.GenList
import PySem.Challenge.RW_mostkept_k25_whole_closures_and_papers
set_option Elab.async false
set_option linter.all false
set_option maxRecDepth 100000
set_option maxHeartbeats 2000000
-- MkCore
namespace Mk
open PySem PySem.Spec PyProof.Rows L2
def Dice (o : HO) : Prop := ∃ x y z : Int, o = .lst [.int x, .int y, .int z]
def Stable : HO → Prop
  | .tup _ => True
  | .ins _ _ fs => fs.length = 3
  | _ => False
def TLe (H H' : Hp) : Prop := ∀ a o, H a = some o → Stable o → H' a = some o
def Le (d : Option Addr) (H H' : Hp) : Prop := ∀ a o, H a = some o → H' a = some o ∨ (d = some a ∧ Dice o ∧ ∃ o', H' a = some o' ∧ Dice o')
def DiceAt (d : Option Addr) (H : Hp) : Prop := ∀ a, d = some a → ∃ o, H a = some o ∧ Dice o
section
variable {d : Option Addr} {H H' H1 H2 : Hp} {a p : Addr} {o u : HO}
theorem TLe.refl (H : Hp) : TLe H H := fun _ _ h _ => h
theorem TLe.trans (x : TLe H H1) (y : TLe H1 H2) : TLe H H2 := fun a o h s => y a o (x a o h s) s
theorem Le.refl (d : Option Addr) (H : Hp) : Le d H H := fun _ _ h => .inl h
theorem Le.trans (x : Le d H H1) (y : Le d H1 H2) : Le d H H2 := fun a o h => by
  rcases x a o h with q | ⟨e, q, o1, h1, q1⟩
  · exact y a o q
  · rcases y a o1 h1 with z | ⟨_, _, o2, h2, q2⟩
    · exact .inr ⟨e, q, o1, z, q1⟩
    · exact .inr ⟨e, q, o2, h2, q2⟩
theorem Le.tle (x : Le d H H') : TLe H H' := fun a o h s => by
  rcases x a o h with q | ⟨_, ⟨_, _, _, rfl⟩, _⟩
  · exact q
  · exact s.elim
theorem Le.of_none (x : Le none H H') : Le d H H' := fun a o h => by
  rcases x a o h with q | ⟨e, _⟩
  · exact .inl q
  · cases e
theorem Le.of_same (x : Same H H') : Le d H H' := fun a o h => .inl (x a o h)
theorem Le.same (x : Le none H H') : Same H H' := fun a o h => by
  rcases x a o h with q | ⟨e, _⟩
  · exact q
  · cases e
theorem Le.new (h : H p = none) : Le d H (upd H p o) := fun a u e => .inl (by rw [upd_ne (ne_of_none e h)]; exact e)
theorem Le.mut (x : Le d H H1) (h : H p = none) : Le d H (upd H1 p o) := fun a u e => by
  rcases x a u e with q | ⟨e1, q, o1, h1, q1⟩
  · exact .inl (by rw [upd_ne (ne_of_none e h)]; exact q)
  · exact .inr ⟨e1, q, o1, by rw [upd_ne (ne_of_none e h)]; exact h1, q1⟩
theorem Le.keep (x : Le d H H') (h : H a = some o) (n : d ≠ some a) : H' a = some o := by
  rcases x a o h with q | ⟨e, _⟩
  · exact q
  · exact absurd e n
theorem Le.free (x : Le d H H') (h : H' p = none) : H p = none := by
  cases q : H p with
  | none => rfl
  | some o =>
    rcases x p o q with z | ⟨_, _, o', z, _⟩ <;> (rw [z] at h; cases h)
theorem DiceAt.no : DiceAt Option.none H := fun _ e => by cases e
theorem DiceAt.le (x : DiceAt d H) (y : Le d H H') : DiceAt d H' := fun a e => by
  obtain ⟨o, h, q⟩ := x a e
  rcases y a o h with z | ⟨_, _, o', h', q'⟩
  · exact ⟨o, z, q⟩
  · exact ⟨o', h', q'⟩
theorem DiceAt.ne (x : DiceAt d H) (h : H p = none) : d ≠ some p := fun e => by
  obtain ⟨o, z, _⟩ := x p e
  rw [h] at z
  cases z
theorem TLe.upd (h : ∀ o, H p = some o → ¬ Stable o) : TLe H (upd H p u) := fun a o e s => by
  rw [upd_ne (fun z => by subst z; exact h o e s)]
  exact e
end
class Im (α : Type) where
  rep : Hp → V → α → Prop
  keep : ∀ {H H' : Hp} {v : V} {x : α}, TLe H H' → rep H v x → rep H' v x
open Im (rep)
def Reps {α : Type} [Im α] (H : Hp) : List V → List α → Prop
  | [], [] => True
  | v :: vs, x :: xs => rep H v x ∧ Reps H vs xs
  | _, _ => False
section
variable {α β : Type} [Im α] [Im β] {H H' : Hp}
theorem rep_le {d : Option Addr} {v : V} {x : α} (k : Le d H H') (h : rep H v x) : rep H' v x := Im.keep k.tle h
theorem Reps.keep (k : TLe H H') : ∀ {vs : List V} {xs : List α}, Reps H vs xs → Reps H' vs xs
  | [], [], _ => trivial
  | [], _ :: _, h => h
  | _ :: _, [], h => h
  | _ :: _, _ :: _, h => ⟨Im.keep k h.1, Reps.keep k h.2⟩
theorem Reps.len : ∀ {vs : List V} {xs : List α}, Reps H vs xs → vs.length = xs.length
  | [], [], _ => rfl
  | [], _ :: _, h => h.elim
  | _ :: _, [], h => h.elim
  | _ :: vs, _ :: xs, h => by rw [List.length_cons, List.length_cons, Reps.len h.2]
theorem Reps.get : ∀ {vs : List V} {xs : List α} {i : Nat} {v : V}, Reps H vs xs → vs[i]? = some v → ∃ x, xs[i]? = some x ∧ rep H v x
  | [], [], i, v, _, e => by simp at e
  | [], _ :: _, _, _, h, _ => h.elim
  | _ :: _, [], _, _, h, _ => h.elim
  | w :: vs, x :: xs, 0, v, h, e => by
    have e1 : w = v := by simpa using e
    subst e1
    exact ⟨x, rfl, h.1⟩
  | w :: vs, x :: xs, i + 1, v, h, e => by
    obtain ⟨y, h1, h2⟩ := Reps.get (i := i) (v := v) h.2 (by simpa using e)
    exact ⟨y, by simpa using h1, h2⟩
theorem Reps.get' : ∀ {vs : List V} {xs : List α} {i : Nat} {x : α}, Reps H vs xs → xs[i]? = some x → ∃ v, vs[i]? = some v ∧ rep H v x
  | [], [], i, v, _, e => by simp at e
  | [], _ :: _, _, _, h, _ => h.elim
  | _ :: _, [], _, _, h, _ => h.elim
  | w :: vs, x :: xs, 0, v, h, e => by
    have e1 : x = v := by simpa using e
    subst e1
    exact ⟨w, rfl, h.1⟩
  | w :: vs, x :: xs, i + 1, v, h, e => by
    obtain ⟨y, h1, h2⟩ := Reps.get' (i := i) (x := v) h.2 (by simpa using e)
    exact ⟨y, by simpa using h1, h2⟩
theorem Reps.app : ∀ {vs ws : List V} {xs ys : List α}, Reps H vs xs → Reps H ws ys → Reps H (vs ++ ws) (xs ++ ys)
  | [], _, [], _, _, h => h
  | [], _, _ :: _, _, h, _ => h.elim
  | _ :: _, _, [], _, h, _ => h.elim
  | _ :: _, _, _ :: _, _, h, g => ⟨h.1, Reps.app h.2 g⟩
theorem Reps.one {v : V} {x : α} (h : rep H v x) : Reps H [v] [x] := ⟨h, trivial⟩
theorem Reps.take : ∀ {vs : List V} {xs : List α} (n : Nat), Reps H vs xs → Reps H (vs.take n) (xs.take n)
  | [], [], n, _ => by simp [Reps]
  | [], _ :: _, _, h => h.elim
  | _ :: _, [], _, h => h.elim
  | _ :: _, _ :: _, 0, h => by simp [Reps]
  | _ :: _, _ :: _, n + 1, h => ⟨h.1, Reps.take n h.2⟩
theorem Reps.drop : ∀ {vs : List V} {xs : List α} (n : Nat), Reps H vs xs → Reps H (vs.drop n) (xs.drop n)
  | [], [], n, _ => by simp [Reps]
  | [], _ :: _, _, h => h.elim
  | _ :: _, [], _, h => h.elim
  | _ :: _, _ :: _, 0, h => by simpa using h
  | _ :: _, _ :: _, n + 1, h => by simpa using Reps.drop n h.2
theorem Reps.map {γ : Type} (f : γ → V) (g : γ → α) (h : ∀ c, rep H (f c) (g c)) : ∀ cs : List γ, Reps H (cs.map f) (cs.map g)
  | [] => trivial
  | c :: cs => ⟨h c, Reps.map f g h cs⟩
end
instance : Im Str := ⟨fun _ v x => v = .str x, fun _ h => h⟩
instance : Im Int := ⟨fun _ v x => v = .int x, fun _ h => h⟩
instance : Im Bool := ⟨fun _ v x => v = .bl x, fun _ h => h⟩
instance instImList {α : Type} [Im α] : Im (List α) := ⟨fun H v xs => ∃ a vs, v = .ref a ∧ H a = some (.tup vs) ∧ Reps H vs xs,
  fun k ⟨a, vs, e, h, r⟩ => ⟨a, vs, e, k a _ h trivial, r.keep k⟩⟩
instance instImProd {α β : Type} [Im α] [Im β] : Im (α × β) := ⟨fun H v x => ∃ a u w, v = .ref a ∧ H a = some (.tup [u, w]) ∧ rep H u x.1 ∧ rep H w x.2,
  fun k ⟨a, u, w, e, h, r, s⟩ => ⟨a, u, w, e, k a _ h trivial, Im.keep k r, Im.keep k s⟩⟩
theorem rep_str {H : Hp} {v : V} {x : Str} : rep H v x ↔ v = .str x := Iff.rfl
theorem rep_int {H : Hp} {v : V} {x : Int} : rep H v x ↔ v = .int x := Iff.rfl
theorem rep_bl {H : Hp} {v : V} {x : Bool} : rep H v x ↔ v = .bl x := Iff.rfl
theorem reps_str {H : Hp} : ∀ {vs : List V} {xs : List Str}, Reps H vs xs ↔ vs = xs.map V.str
  | [], [] => by simp [Reps]
  | [], _ :: _ => by simp [Reps]
  | _ :: _, [] => by simp [Reps]
  | v :: vs, x :: xs => by
    rw [List.map_cons, List.cons.injEq]
    exact and_congr Iff.rfl reps_str
theorem reps_int {H : Hp} : ∀ {vs : List V} {xs : List Int}, Reps H vs xs ↔ vs = xs.map V.int
  | [], [] => by simp [Reps]
  | [], _ :: _ => by simp [Reps]
  | _ :: _, [] => by simp [Reps]
  | v :: vs, x :: xs => by
    rw [List.map_cons, List.cons.injEq]
    exact and_congr Iff.rfl reps_int
theorem reps_bl {H : Hp} : ∀ {vs : List V} {xs : List Bool}, Reps H vs xs ↔ vs = xs.map V.bl
  | [], [] => by simp [Reps]
  | [], _ :: _ => by simp [Reps]
  | _ :: _, [] => by simp [Reps]
  | v :: vs, x :: xs => by
    rw [List.map_cons, List.cons.injEq]
    exact and_congr Iff.rfl reps_bl
inductive Slot : Type 1 where
  | no
  | im {α : Type} [i : Im α] (x : α)
  | ro {α : Type} [i : Im α] (xs : List α)
  | ls {α : Type} [i : Im α] (xs : List α)
  | dk {β : Type} [i : Im β] (kvs : List (Str × β))
  | rk {β : Type} [i : Im β] (kvs : List (Str × β))
  | dt {β : Type} [i : Im β] (kvs : List (List Str × β))
  | di
  | ob (a C dx : Addr) (fs : List (Str × V)) (P : Hp → Prop)
  | fz (a : Addr) (u : HO) (P : Hp → Prop)
def RepK {β : Type} [Im β] (H : Hp) : List (Key × V) → List (Str × β) → Prop
  | [], [] => True
  | q :: ks, p :: kvs => q.1 = Sum.inr p.1 ∧ rep H q.2 p.2 ∧ RepK H ks kvs
  | _, _ => False
def RepT {β : Type} [Im β] (H : Hp) : List (List Key × V) → List (List Str × β) → Prop
  | [], [] => True
  | q :: ks, p :: kvs => q.1 = p.1.map Sum.inr ∧ rep H q.2 p.2 ∧ RepT H ks kvs
  | _, _ => False
theorem RepK.keep {β : Type} [Im β] {H H' : Hp} (k : TLe H H') : ∀ {ks : List (Key × V)} {kvs : List (Str × β)}, RepK H ks kvs → RepK H' ks kvs
  | [], [], _ => trivial
  | [], _ :: _, h => h
  | _ :: _, [], h => h
  | _ :: _, _ :: _, h => ⟨h.1, Im.keep k h.2.1, RepK.keep k h.2.2⟩
theorem RepT.keep {β : Type} [Im β] {H H' : Hp} (k : TLe H H') : ∀ {ks : List (List Key × V)} {kvs : List (List Str × β)}, RepT H ks kvs → RepT H' ks kvs
  | [], [], _ => trivial
  | [], _ :: _, h => h
  | _ :: _, [], h => h
  | _ :: _, _ :: _, h => ⟨h.1, Im.keep k h.2.1, RepT.keep k h.2.2⟩
def slotIs (d : Option Addr) (B H : Hp) (own : Addr → Option Nat) (i : Nat) (o : Option V) : Slot → Prop
  | .no => True
  | @Slot.im α _ x => ∃ v, o = some v ∧ rep H v x
  | @Slot.ro α _ xs => ∃ a vs, o = some (.ref a) ∧ own a = none ∧ d ≠ some a ∧ H a = some (.lst vs) ∧ Reps H vs xs
  | @Slot.ls α _ xs => ∃ p vs, o = some (.ref p) ∧ B p = none ∧ own p = some i ∧ H p = some (.lst vs) ∧ Reps H vs xs
  | @Slot.dk β _ kvs => ∃ p ks, o = some (.ref p) ∧ B p = none ∧ own p = some i ∧ H p = some (.dK ks) ∧ RepK H ks kvs
  | @Slot.rk β _ kvs => ∃ a ks, o = some (.ref a) ∧ own a = none ∧ d ≠ some a ∧ H a = some (.dK ks) ∧ RepK H ks kvs
  | @Slot.dt β _ kvs => ∃ p ks, o = some (.ref p) ∧ B p = none ∧ own p = some i ∧ H p = some (.dT ks) ∧ RepT H ks kvs
  | .di => ∃ a, o = some (.ref a) ∧ d = some a
  | .ob a C dx fs P => o = some (.ref a) ∧ B a = none ∧ own a = some i ∧ H a = some (.ins C dx fs) ∧ fs.length ≠ 3 ∧ (∀ H1 H2, TLe H1 H2 → P H1 → P H2) ∧ P H
  | .fz a u P => o = some (.ref a) ∧ own a = none ∧ d ≠ some a ∧ H a = some u ∧ (∀ H1 H2, TLe H1 H2 → P H1 → P H2) ∧ P H
structure Owns (d : Option Addr) (B H : Hp) (G : List Slot) (σ : L2.St) (own : Addr → Option Nat) : Prop where
  free : ∀ a, H a = none → own a = none
  cell : ∀ a i, own a = some i → B a = none ∧ ∀ o, H a = some o → ¬ Stable o
  slots : ∀ i s, G[i]? = some s → slotIs d B H own i (σ[i]?.join) s
structure Env (d : Option Addr) (B : Hp) (G : List Slot) (σ : L2.St) (H : Hp) : Prop where
  le : Le d B H
  dice : DiceAt d B
  len : σ.length = G.length
  owns : ∃ own : Addr → Option Nat, Owns d B H G σ own
section
variable {d : Option Addr} {B H H1 H2 : Hp} {G : List Slot} {σ : L2.St} {own : Addr → Option Nat} {i : Nat} {o : Option V} {s : Slot}
theorem slotIs.le (D : DiceAt d B) (k : Le d H H1) (h : slotIs d B H own i o s) : slotIs d B H1 own i o s := by
  cases s with
  | no => exact h
  | im x => obtain ⟨v, e, r⟩ := h; exact ⟨v, e, rep_le k r⟩
  | ro xs => obtain ⟨a, vs, e, n, nd, h1, r⟩ := h; exact ⟨a, vs, e, n, nd, k.keep h1 nd, r.keep k.tle⟩
  | ls xs => obtain ⟨p, vs, e, n, w, h1, r⟩ := h; exact ⟨p, vs, e, n, w, k.keep h1 (D.ne n), r.keep k.tle⟩
  | dk kvs => obtain ⟨p, vs, e, n, w, h1, r⟩ := h; exact ⟨p, vs, e, n, w, k.keep h1 (D.ne n), r.keep k.tle⟩
  | rk kvs => obtain ⟨a, vs, e, n, nd, h1, r⟩ := h; exact ⟨a, vs, e, n, nd, k.keep h1 nd, r.keep k.tle⟩
  | dt kvs => obtain ⟨p, vs, e, n, w, h1, r⟩ := h; exact ⟨p, vs, e, n, w, k.keep h1 (D.ne n), r.keep k.tle⟩
  | di => exact h
  | ob a C dx fs P => obtain ⟨e, n, w, h1, hl, hm, r⟩ := h; exact ⟨e, n, w, k.keep h1 (D.ne n), hl, hm, hm _ _ k.tle r⟩
  | fz a u P => obtain ⟨e, n, nd, h1, hm, r⟩ := h; exact ⟨e, n, nd, k.keep h1 nd, hm, hm _ _ k.tle r⟩
end
end Mk
-- MkLog
namespace Mk
open Im (rep)
open PySem PySem.Spec PyProof.Rows L2
section
variable {d : Option Addr} {B H H1 H2 : Hp} {G : List Slot} {σ : L2.St}
theorem Owns.go {own : Addr → Option Nat} (D : DiceAt d B) (E : Owns d B H G σ own) (k : Le d H H1) : Owns d B H1 G σ own := by
  refine ⟨fun a e => E.free a (k.free e), fun a i e => ⟨(E.cell a i e).1, fun o ho st => ?_⟩, fun i s e => (E.slots i s e).le D k⟩
  cases q : H a with
  | none => rw [E.free a q] at e; cases e
  | some u =>
    rcases k a u q with z | ⟨_, _, o', z, x, y, w, rfl⟩
    · rw [ho] at z; cases z; exact (E.cell a i e).2 _ q st
    · rw [ho] at z; cases z; exact st
theorem Env.go (E : Env d B G σ H) (k : Le d H H1) : Env d B G σ H1 := by
  obtain ⟨le, D, ln, own, h⟩ := E
  exact ⟨le.trans k, D, ln, own, h.go D k⟩
theorem Env.diceH (E : Env d B G σ H) : DiceAt d H := E.dice.le E.le
theorem join_some {o : Option (Option V)} {v : V} : o.join = some v ↔ o = some (some v) := by
  cases o with
  | none => simp
  | some o => cases o <;> simp
theorem Env.im {α : Type} [Im α] {x : α} {i : Nat} (E : Env d B G σ H) (e : G[i]? = some (.im x)) : ∃ v, σ[i]? = some (some v) ∧ rep H v x := by
  obtain ⟨_, _, _, own, h⟩ := E
  obtain ⟨v, h1, h2⟩ := h.slots i _ e
  exact ⟨v, join_some.mp h1, h2⟩
theorem slot_other {i j : Nat} {s s' : Slot} (h : (G.set i s')[j]? = some s) : (j = i ∧ s = s' ∧ i < G.length) ∨ (j ≠ i ∧ G[j]? = some s) := by
  by_cases e : j = i
  · subst e
    rw [List.getElem?_set] at h
    simp only [if_true] at h
    split at h
    · rename_i hl
      exact .inl ⟨rfl, (Option.some.inj h).symm, hl⟩
    · cases h
  · rw [List.getElem?_set_ne (Ne.symm e)] at h
    exact .inr ⟨e, h⟩
theorem sig_other {i j : Nat} {o : Option V} (h : j ≠ i) : (σ.set i o)[j]? = σ[j]? := List.getElem?_set_ne (Ne.symm h)
theorem Env.set_no {i : Nat} {o : Option V} (E : Env d B G σ H) : Env d B (G.set i .no) (σ.set i o) H := by
  obtain ⟨le, D, ln, own, h⟩ := E
  refine ⟨le, D, by rw [List.length_set, List.length_set]; exact ln, own, h.free, h.cell, fun j s e => ?_⟩
  rcases slot_other e with ⟨rfl, rfl, _⟩ | ⟨hj, e⟩
  · trivial
  · rw [sig_other hj]
    exact h.slots j s e
theorem Env.set_im {α : Type} [Im α] {x : α} {v : V} {i : Nat} (E : Env d B G σ H) (hi : i < G.length) (r : rep H v x) : Env d B (G.set i (.im x)) (σ.set i (some v)) H := by
  obtain ⟨le, D, ln, own, h⟩ := E
  refine ⟨le, D, by rw [List.length_set, List.length_set]; exact ln, own, h.free, h.cell, fun j s e => ?_⟩
  rcases slot_other e with ⟨rfl, rfl, _⟩ | ⟨hj, e⟩
  · exact ⟨v, by rw [List.getElem?_set_self (by rw [ln]; exact hi)]; rfl, r⟩
  · rw [sig_other hj]
    exact h.slots j s e
def cellIs (H : Hp) (p : Addr) : Slot → Prop
  | @Slot.ls α _ xs => ∃ vs, H p = some (.lst vs) ∧ Reps H vs xs
  | @Slot.dk β _ kvs => ∃ ks, H p = some (.dK ks) ∧ RepK H ks kvs
  | @Slot.dt β _ kvs => ∃ ks, H p = some (.dT ks) ∧ RepT H ks kvs
  | .ob a C dx fs P => p = a ∧ H p = some (.ins C dx fs) ∧ fs.length ≠ 3 ∧ (∀ H1 H2, TLe H1 H2 → P H1 → P H2) ∧ P H
  | _ => False
theorem cellIs.un {p : Addr} {s : Slot} (h : cellIs H p s) : (∃ o, H p = some o) ∧ ∀ o, H p = some o → ¬ Stable o := by
  cases s with
  | ls xs => obtain ⟨vs, h1, h2⟩ := h; exact ⟨⟨_, h1⟩, fun o e => by rw [h1] at e; cases e; exact id⟩
  | dk kvs => obtain ⟨vs, h1, h2⟩ := h; exact ⟨⟨_, h1⟩, fun o e => by rw [h1] at e; cases e; exact id⟩
  | dt kvs => obtain ⟨vs, h1, h2⟩ := h; exact ⟨⟨_, h1⟩, fun o e => by rw [h1] at e; cases e; exact id⟩
  | ob a C dx fs P => obtain ⟨_, h1, hl, _⟩ := h; exact ⟨⟨_, h1⟩, fun o e => by rw [h1] at e; cases e; exact hl⟩
  | fz a u P => exact h.elim
  | no => exact h.elim
  | im x => exact h.elim
  | ro x => exact h.elim
  | rk x => exact h.elim
  | di => exact h.elim
theorem cell_slot {own : Addr → Option Nat} {i : Nat} {p : Addr} {o : Option V} {s : Slot} (h : cellIs H p s) (ho : o = some (.ref p)) (hB : B p = none) (hw : own p = some i) : slotIs d B H own i o s := by
  cases s with
  | ls xs => obtain ⟨vs, h1, h2⟩ := h; exact ⟨p, vs, ho, hB, hw, h1, h2⟩
  | dk kvs => obtain ⟨vs, h1, h2⟩ := h; exact ⟨p, vs, ho, hB, hw, h1, h2⟩
  | dt kvs => obtain ⟨vs, h1, h2⟩ := h; exact ⟨p, vs, ho, hB, hw, h1, h2⟩
  | ob a C dx fs P => obtain ⟨e, h1, hl, hm, r⟩ := h; subst e; exact ⟨ho, hB, hw, h1, hl, hm, r⟩
  | fz a u P => exact h.elim
  | no => exact h.elim
  | im x => exact h.elim
  | ro x => exact h.elim
  | rk x => exact h.elim
  | di => exact h.elim
theorem slot_own {own own' : Addr → Option Nat} {i : Nat} {p : Addr} {o : Option V} {s : Slot} (h : slotIs d B H own i o s) (hk : ∀ a, a ≠ p → own' a = own a) (hp : H p = none) : slotIs d B H own' i o s := by
  have ne : ∀ {a u}, H a = some u → a ≠ p := fun e => ne_of_none e hp
  cases s with
  | no => exact h
  | im x => exact h
  | ro xs => obtain ⟨a, vs, e, n, nd, h1, r⟩ := h; exact ⟨a, vs, e, by rw [hk a (ne h1)]; exact n, nd, h1, r⟩
  | ls xs => obtain ⟨a, vs, e, n, w, h1, r⟩ := h; exact ⟨a, vs, e, n, by rw [hk a (ne h1)]; exact w, h1, r⟩
  | dk kvs => obtain ⟨a, vs, e, n, w, h1, r⟩ := h; exact ⟨a, vs, e, n, by rw [hk a (ne h1)]; exact w, h1, r⟩
  | rk kvs => obtain ⟨a, vs, e, n, nd, h1, r⟩ := h; exact ⟨a, vs, e, by rw [hk a (ne h1)]; exact n, nd, h1, r⟩
  | dt kvs => obtain ⟨a, vs, e, n, w, h1, r⟩ := h; exact ⟨a, vs, e, n, by rw [hk a (ne h1)]; exact w, h1, r⟩
  | di => exact h
  | ob a C dx fs P => obtain ⟨e, n, w, h1, r⟩ := h; exact ⟨e, n, by rw [hk a (ne h1)]; exact w, h1, r⟩
  | fz a u P => obtain ⟨e, n, nd, h1, r⟩ := h; exact ⟨e, by rw [hk a (ne h1)]; exact n, nd, h1, r⟩
theorem Env.set_new {s' : Slot} {p : Addr} {i : Nat} (E : Env d B G σ H) (hi : i < G.length) (hp : H p = none) (k : Le d H H1) (c : cellIs H1 p s') : Env d B (G.set i s') (σ.set i (some (.ref p))) H1 := by
  obtain ⟨le, D, ln, own, h⟩ := E
  obtain ⟨⟨oc, hoc⟩, hun⟩ := c.un
  have h1 := h.go D k
  refine ⟨le.trans k, D, by rw [List.length_set, List.length_set]; exact ln, fun a => if a = p then some i else own a, fun a e => ?_, fun a j e => ?_, fun j s e => ?_⟩
  · show (if a = p then some i else own a) = none
    rw [if_neg (fun z => by rw [z, hoc] at e; cases e)]
    exact h1.free a e
  · have e : (if a = p then some i else own a) = some j := e
    by_cases hap : a = p
    · subst hap
      exact ⟨le.free hp, hun⟩
    · rw [if_neg hap] at e
      exact h1.cell a j e
  · rcases slot_other e with ⟨rfl, rfl, _⟩ | ⟨hj, e⟩
    · exact cell_slot c (by rw [List.getElem?_set_self (by rw [ln]; exact hi)]; rfl) (le.free hp) (if_pos rfl)
    · rw [sig_other hj]
      refine slotIs.le D k (slot_own (h.slots j s e) (fun a ha => if_neg ha) hp)
theorem Env.put {s s' : Slot} {p : Addr} {i : Nat} {o u : HO} (E : Env d B G σ H) (hσ : σ[i]? = some (some (.ref p))) (hB : B p = none) (hw : ∀ own : Addr → Option Nat, Owns d B H G σ own → own p = some i)
    (ho : H p = some o) (hst : ¬ Stable o) (c : cellIs (upd H p u) p s') : Env d B (G.set i s') σ (upd H p u) := by
  obtain ⟨le, D, ln, own, h⟩ := E
  have hwp := hw own h
  have tl : TLe H (upd H p u) := TLe.upd fun o' e => by rw [ho] at e; cases e; exact hst
  refine ⟨le.mut hB, D, by rw [List.length_set]; exact ln, own, fun a e => ?_, fun a j e => ?_, fun j s e => ?_⟩
  · by_cases hap : a = p
    · subst hap; rw [upd_same] at e; cases e
    · rw [upd_ne hap] at e; exact h.free a e
  · by_cases hap : a = p
    · subst hap; exact ⟨hB, c.un.2⟩
    · rw [upd_ne hap]; exact h.cell a j e
  · rcases slot_other e with ⟨rfl, rfl, _⟩ | ⟨hj, e⟩
    · exact cell_slot c (join_some.mpr hσ) hB hwp
    · have hs := h.slots j s e
      have ne1 : ∀ {a}, own a = none → a ≠ p := fun z q => by rw [q, hwp] at z; cases z
      have ne2 : ∀ {a}, own a = some j → a ≠ p := fun z q => by rw [q, hwp] at z; exact hj (Option.some.inj z).symm
      cases s with
      | no => exact hs
      | im x => obtain ⟨v, e, r⟩ := hs; exact ⟨v, e, Im.keep tl r⟩
      | ro xs => obtain ⟨a, vs, e, n, nd, h1, r⟩ := hs; exact ⟨a, vs, e, n, nd, by rw [upd_ne (ne1 n)]; exact h1, r.keep tl⟩
      | ls xs => obtain ⟨a, vs, e, n, w, h1, r⟩ := hs; exact ⟨a, vs, e, n, w, by rw [upd_ne (ne2 w)]; exact h1, r.keep tl⟩
      | dk kvs => obtain ⟨a, vs, e, n, w, h1, r⟩ := hs; exact ⟨a, vs, e, n, w, by rw [upd_ne (ne2 w)]; exact h1, r.keep tl⟩
      | rk kvs => obtain ⟨a, vs, e, n, nd, h1, r⟩ := hs; exact ⟨a, vs, e, n, nd, by rw [upd_ne (ne1 n)]; exact h1, r.keep tl⟩
      | dt kvs => obtain ⟨a, vs, e, n, w, h1, r⟩ := hs; exact ⟨a, vs, e, n, w, by rw [upd_ne (ne2 w)]; exact h1, r.keep tl⟩
      | di => exact hs
      | ob a C dx fs P => obtain ⟨e, n, w, h1, hl, hm, r⟩ := hs; exact ⟨e, n, w, by rw [upd_ne (ne2 w)]; exact h1, hl, hm, hm _ _ tl r⟩
      | fz a u P => obtain ⟨e, n, nd, h1, hm, r⟩ := hs; exact ⟨e, n, nd, by rw [upd_ne (ne1 n)]; exact h1, hm, hm _ _ tl r⟩
theorem Env.ls {α : Type} [Im α] {xs : List α} {i : Nat} (E : Env d B G σ H) (e : G[i]? = some (.ls xs)) : ∃ p vs, σ[i]? = some (some (.ref p)) ∧ B p = none ∧ d ≠ some p ∧ H p = some (.lst vs) ∧ Reps H vs xs ∧
    ∀ own : Addr → Option Nat, Owns d B H G σ own → own p = some i := by
  obtain ⟨_, D, _, own, h⟩ := E
  obtain ⟨p, vs, h1, h2, h3, h4, h5⟩ := h.slots i _ e
  refine ⟨p, vs, join_some.mp h1, h2, D.ne h2, h4, h5, fun own' h' => ?_⟩
  obtain ⟨p', vs', g1, g2, g3, g4, g5⟩ := h'.slots i _ e
  rw [h1] at g1
  cases g1
  exact g3
theorem Env.ro {α : Type} [Im α] {xs : List α} {i : Nat} (E : Env d B G σ H) (e : G[i]? = some (.ro xs)) : ∃ p vs, σ[i]? = some (some (.ref p)) ∧ d ≠ some p ∧ H p = some (.lst vs) ∧ Reps H vs xs ∧
    ∀ own : Addr → Option Nat, Owns d B H G σ own → own p = none := by
  obtain ⟨_, D, _, own, h⟩ := E
  obtain ⟨p, vs, h1, h2, h3, h4, h5⟩ := h.slots i _ e
  refine ⟨p, vs, join_some.mp h1, h3, h4, h5, fun own' h' => ?_⟩
  obtain ⟨p', vs', g1, g2, g3, g4, g5⟩ := h'.slots i _ e
  rw [h1] at g1
  cases g1
  exact g2
theorem Env.dk {β : Type} [Im β] {xs : List (Str × β)} {i : Nat} (E : Env d B G σ H) (e : G[i]? = some (.dk xs)) : ∃ p vs, σ[i]? = some (some (.ref p)) ∧ B p = none ∧ d ≠ some p ∧ H p = some (.dK vs) ∧ RepK H vs xs ∧
    ∀ own : Addr → Option Nat, Owns d B H G σ own → own p = some i := by
  obtain ⟨_, D, _, own, h⟩ := E
  obtain ⟨p, vs, h1, h2, h3, h4, h5⟩ := h.slots i _ e
  refine ⟨p, vs, join_some.mp h1, h2, D.ne h2, h4, h5, fun own' h' => ?_⟩
  obtain ⟨p', vs', g1, g2, g3, g4, g5⟩ := h'.slots i _ e
  rw [h1] at g1
  cases g1
  exact g3
theorem Env.rk {β : Type} [Im β] {xs : List (Str × β)} {i : Nat} (E : Env d B G σ H) (e : G[i]? = some (.rk xs)) : ∃ p vs, σ[i]? = some (some (.ref p)) ∧ d ≠ some p ∧ H p = some (.dK vs) ∧ RepK H vs xs := by
  obtain ⟨_, D, _, own, h⟩ := E
  obtain ⟨p, vs, h1, h2, h3, h4, h5⟩ := h.slots i _ e
  exact ⟨p, vs, join_some.mp h1, h3, h4, h5⟩
theorem Env.dt {β : Type} [Im β] {xs : List (List Str × β)} {i : Nat} (E : Env d B G σ H) (e : G[i]? = some (.dt xs)) : ∃ p vs, σ[i]? = some (some (.ref p)) ∧ B p = none ∧ d ≠ some p ∧ H p = some (.dT vs) ∧ RepT H vs xs ∧
    ∀ own : Addr → Option Nat, Owns d B H G σ own → own p = some i := by
  obtain ⟨_, D, _, own, h⟩ := E
  obtain ⟨p, vs, h1, h2, h3, h4, h5⟩ := h.slots i _ e
  refine ⟨p, vs, join_some.mp h1, h2, D.ne h2, h4, h5, fun own' h' => ?_⟩
  obtain ⟨p', vs', g1, g2, g3, g4, g5⟩ := h'.slots i _ e
  rw [h1] at g1
  cases g1
  exact g3
theorem Env.di {i : Nat} (E : Env d B G σ H) (e : G[i]? = some .di) : ∃ p x y z, σ[i]? = some (some (.ref p)) ∧ d = some p ∧ H p = some (.lst [.int x, .int y, .int z]) := by
  have D := E.diceH
  obtain ⟨_, _, _, own, h⟩ := E
  obtain ⟨a, h1, h2⟩ := h.slots i _ e
  obtain ⟨o, h3, x, y, z, rfl⟩ := D a h2
  exact ⟨a, x, y, z, join_some.mp h1, h2, h3⟩
def frame (H : Hp) (own : Addr → Option Nat) : Hp := fun a => match own a with
  | none => H a
  | some _ => none
theorem frame_none {own : Addr → Option Nat} {a : Addr} (h : own a = none) : frame H own a = H a := by unfold frame; rw [h]
theorem frame_some {own : Addr → Option Nat} {a : Addr} {i : Nat} (h : own a = some i) : frame H own a = none := by unfold frame; rw [h]
theorem frame_of {own : Addr → Option Nat} {a : Addr} {o : HO} (h : frame H own a = some o) : H a = some o ∧ own a = none := by
  cases q : own a with
  | none => rw [frame_none q] at h; exact ⟨h, rfl⟩
  | some i => rw [frame_some q] at h; cases h
theorem Env.rebase {own : Addr → Option Nat} (le : Le d B H) (D : DiceAt d B) (ln : σ.length = G.length) (h : Owns d B H G σ own) : Le d B (frame H own) ∧ Env d (frame H own) G σ H := by
  have lB : Le d B (frame H own) := fun a o e => by
    have hn : own a = none := by
      cases q : own a with
      | none => rfl
      | some i => rw [(h.cell a i q).1] at e; cases e
    rw [frame_none hn]
    exact le a o e
  refine ⟨lB, ⟨fun a o e => .inl (frame_of e).1, D.le lB, ln, own, h.free, fun a i e => ⟨frame_some e, (h.cell a i e).2⟩, fun i s e => ?_⟩⟩
  have hs := h.slots i s e
  cases s with
  | no => exact hs
  | im x => exact hs
  | ro xs => exact hs
  | ls xs => obtain ⟨p, vs, e, n, w, h1, r⟩ := hs; exact ⟨p, vs, e, frame_some w, w, h1, r⟩
  | dk kvs => obtain ⟨p, vs, e, n, w, h1, r⟩ := hs; exact ⟨p, vs, e, frame_some w, w, h1, r⟩
  | rk kvs => exact hs
  | dt kvs => obtain ⟨p, vs, e, n, w, h1, r⟩ := hs; exact ⟨p, vs, e, frame_some w, w, h1, r⟩
  | di => exact hs
  | ob a C dx fs P => obtain ⟨e, n, w, h1, r⟩ := hs; exact ⟨e, frame_some w, w, h1, r⟩
  | fz a u P => exact hs
theorem Env.back {B1 : Hp} (k : Le d B B1) (D : DiceAt d B) (E : Env d B1 G σ H) : Env d B G σ H := by
  obtain ⟨le, D1, ln, own, h⟩ := E
  refine ⟨k.trans le, D, ln, own, h.free, fun a i e => ⟨k.free (h.cell a i e).1, (h.cell a i e).2⟩, fun i s e => ?_⟩
  have hs := h.slots i s e
  cases s with
  | no => exact hs
  | im x => exact hs
  | ro xs => exact hs
  | ls xs => obtain ⟨p, vs, e, n, w, h1, r⟩ := hs; exact ⟨p, vs, e, k.free n, w, h1, r⟩
  | dk kvs => obtain ⟨p, vs, e, n, w, h1, r⟩ := hs; exact ⟨p, vs, e, k.free n, w, h1, r⟩
  | rk kvs => exact hs
  | dt kvs => obtain ⟨p, vs, e, n, w, h1, r⟩ := hs; exact ⟨p, vs, e, k.free n, w, h1, r⟩
  | di => exact hs
  | ob a C dx fs P => obtain ⟨e, n, w, h1, r⟩ := hs; exact ⟨e, k.free n, w, h1, r⟩
  | fz a u P => exact hs
end
structure Tx where
  P : Program
  w : World
  K : PySem.W.Frag
  mg : Str → Option Value
  base : Heap
structure Cg where
  T : Tx
  N : List Str
  sc : Scope
  k : Nat
  d : Option Addr
  fn : Str → Bool
structure Cok (C : Cg) (X : Cx) : Prop where
  prog : X.prog = C.T.P
  w : X.w = C.T.w
  K : X.K = C.T.K
  mg : X.mg = C.T.mg
  base : X.base = C.T.base
  N : X.N = C.N
  nd : C.N.Nodup
  sc : X.env.scope = C.sc
  calm : X.calm = true
  room : Room C.k X.A
  xe : X.xe = fun _ _ => False
  fn : ∀ x, C.fn x = true → X.fn x = true
def Sto (C : Cg) (x : Str) : Prop := C.sc.names.lookup x = some .local ∨ (C.sc.names.lookup x = some .cell ∧ C.fn x = true)
theorem Sto.loc {C : Cg} {X : Cx} {x : Str} (h : Sto C x) (ok : Cok C X) : Loc X.env.scope x := by
  rw [ok.sc]
  exact h.elim .inl fun z => .inr z.1
theorem Sto.fn {C : Cg} {X : Cx} {x : Str} (h : Sto C x) (ok : Cok C X) : X.fn x = true ∨ X.env.scope.names.lookup x = some .local := h.elim (fun z => .inr (by rw [ok.sc]; exact z)) fun z => .inl (ok.fn x z.2)
inductive Ret : Type 1 where
  | im {α : Type} [i : Im α] (P : α → Prop)
  | ls {α : Type} [i : Im α] (P : List α → Prop)
  | dk {β : Type} [i : Im β] (P : List (Str × β) → Prop)
  | dt {β : Type} [i : Im β] (P : List (List Str × β) → Prop)
  | non
def valIs (H : Hp) (v : V) (H2 : Hp) : Ret → Prop
  | @Ret.im α _ P => ∃ x, P x ∧ rep H2 v x
  | @Ret.ls α _ P => ∃ p vs xs, v = .ref p ∧ H p = none ∧ H2 p = some (.lst vs) ∧ Reps H2 vs xs ∧ P xs
  | @Ret.dk β _ P => ∃ p ks kvs, v = .ref p ∧ H p = none ∧ H2 p = some (.dK ks) ∧ RepK H2 ks kvs ∧ P kvs
  | @Ret.dt β _ P => ∃ p ks kvs, v = .ref p ∧ H p = none ∧ H2 p = some (.dT ks) ∧ RepT H2 ks kvs ∧ P kvs
  | .non => v = .non
def retIs (d : Option Addr) (H : Hp) (r : Ret) (v : V) (H2 : Hp) : Prop := Le d H H2 ∧ valIs H v H2 r
abbrev tM (C : Cg) {α : Type} (m : PySem.Env → Sem α) (Q : Cx → List (Addr × Obj) → α → Shared → Prop) (σ : L2.St) (H : Hp) : Prop :=
  ∀ X, Cok C X → ∀ (pins : List (Addr × Obj)) (s : Shared), Inv X pins σ H s → wpAny (model X.prog X.w) X.A (m X.env) (Q X pins) X.xe s
def tE (C : Cg) (e : Expr) : TE := fun σ H Q => tM C (eval e) (fun X pins => EP X pins σ Q) σ H
def tT (C : Cg) (e : Expr) : TT := fun σ H Q => tM C (fun env => PySem.isTrue e env (eval e env)) (fun X pins => TP X pins σ Q) σ H
def tA (C : Cg) (es : List Expr) : TA := fun σ H Q => ∀ pos : Pos, tM C (fun env => spliced (backTo pos (starEach es env))) (fun X pins => AP X pins σ Q) σ H
def tSt (C : Cg) (st : Stmt) : TS := fun D σ H => tM C (exec st) (fun X pins => SP X pins D) σ H
def tSs (C : Cg) (st : List Stmt) : TS := fun D σ H => tM C (execs st) (fun X pins => SP X pins D) σ H
section
variable {C : Cg} {X : Cx} {e : Expr} {es : List Expr} {st : Stmt} {sts : List Stmt}
theorem pe_tE (ok : Cok C X) : PE X e (tE C e) := ⟨fun pins s _ _ _ I h => h X ok pins s I⟩
theorem pt_tT (ok : Cok C X) : PT X e (tT C e) := ⟨fun pins s _ _ _ I h => h X ok pins s I⟩
theorem pa_tA (ok : Cok C X) : PA X es (tA C es) := ⟨fun pos pins s _ _ _ I h => h pos X ok pins s I⟩
theorem ps_tS (ok : Cok C X) : PS X st (tSt C st) := ⟨fun pins s _ _ _ I h => h X ok pins s I⟩
theorem pss_tS (ok : Cok C X) : PSs X sts (tSs C sts) := ⟨fun pins s _ _ _ I h => h X ok pins s I⟩
theorem tE_of {t : TE} {σ : L2.St} {H : Hp} {Q : VK} (h : ∀ X, Cok C X → PE X e t) (q : t σ H Q) : tE C e σ H Q := fun X ok pins s I => (h X ok).run pins s σ H Q I q
theorem tT_of {t : TT} {σ : L2.St} {H : Hp} {Q : Bool → Hp → Prop} (h : ∀ X, Cok C X → PT X e t) (q : t σ H Q) : tT C e σ H Q := fun X ok pins s I => (h X ok).run pins s σ H Q I q
theorem tA_of {t : TA} {σ : L2.St} {H : Hp} {Q : List V → Hp → Prop} (h : ∀ X, Cok C X → PA X es t) (q : t σ H Q) : tA C es σ H Q := fun pos X ok pins s I => (h X ok).run pos pins s σ H Q I q
theorem tS_of {t : TS} {σ : L2.St} {H : Hp} {D : Ends} (h : ∀ X, Cok C X → PS X st t) (q : t D σ H) : tSt C st D σ H := fun X ok pins s I => (h X ok).run pins s σ H D I q
theorem tSs_of {t : TS} {σ : L2.St} {H : Hp} {D : Ends} (h : ∀ X, Cok C X → PSs X sts t) (q : t D σ H) : tSs C sts D σ H := fun X ok pins s I => (h X ok).run pins s σ H D I q
end
def EvR (C : Cg) (G : List Slot) (e : Expr) (r : Ret) : Prop := ∀ B σ H, Env C.d B G σ H → ∀ Q : VK, (∀ v H2, retIs C.d H r v H2 → Q v H2) → tE C e σ H Q
def EvT (C : Cg) (G : List Slot) (e : Expr) (P : Bool → Prop) : Prop := ∀ B σ H, Env C.d B G σ H → ∀ Q : Bool → Hp → Prop, (∀ b H2, Le C.d H H2 → P b → Q b H2) → tT C e σ H Q
def argIs (d : Option Addr) (H : Hp) (v : V) (s : Slot) : Prop := slotIs d H H (fun _ => none) 0 (some v) s
def ArgsOk (d : Option Addr) (H : Hp) : List V → List Slot → Prop
  | [], [] => True
  | v :: vs, s :: ss => argIs d H v s ∧ ArgsOk d H vs ss
  | _, _ => False
def EvA (C : Cg) (G : List Slot) (es : List Expr) (P : List Slot → Prop) : Prop := ∀ B σ H, Env C.d B G σ H → ∀ Q : List V → Hp → Prop, (∀ vs H2 ss, Le C.d H H2 → P ss → ArgsOk C.d H2 vs ss → Q vs H2) → tA C es σ H Q
structure GEnds where
  nx : List Slot → Prop
  rt : Ret
  bk : List Slot → Prop := fun _ => False
  ct : List Slot → Prop := fun _ => False
def ends (d : Option Addr) (B : Hp) (D : GEnds) : Ends where
  nx := fun σ H => ∃ G, D.nx G ∧ Env d B G σ H
  rt := fun v H => retIs d B D.rt v H
  bk := fun σ H => ∃ G, D.bk G ∧ Env d B G σ H
  ct := fun σ H => ∃ G, D.ct G ∧ Env d B G σ H
def Run (C : Cg) (G : List Slot) (sts : List Stmt) (D : GEnds) : Prop := ∀ B σ H, Env C.d B G σ H → tSs C sts (ends C.d B D) σ H
theorem retIs.pre {d : Option Addr} {H H1 H2 : Hp} {r : Ret} {v : V} (k : Le d H H1) (h : retIs d H1 r v H2) : retIs d H r v H2 := by
  refine ⟨k.trans h.1, ?_⟩
  have h2 := h.2
  cases r with
  | im P => exact h2
  | ls P => obtain ⟨p, vs, xs, e, n, q⟩ := h2; exact ⟨p, vs, xs, e, k.free n, q⟩
  | dk P => obtain ⟨p, vs, xs, e, n, q⟩ := h2; exact ⟨p, vs, xs, e, k.free n, q⟩
  | dt P => obtain ⟨p, vs, xs, e, n, q⟩ := h2; exact ⟨p, vs, xs, e, k.free n, q⟩
  | non => exact h2
end Mk
-- MkRul
namespace Mk
open Im (rep)
open PySem PySem.Spec PyProof.Rows L2
variable {C : Cg} {G : List Slot}
class Dat (α : Type) extends Im α where
  data : α → PyData
  dep : Nat
  depth : ∀ x, (data x).depth ≤ dep
  lay : ∀ x, (data x).canLay0 = true
  dp : ∀ {K : PySem.W.Frag} {H : Hp} {v : V} {x : α}, rep H v x → Dp K H v (data x)
  inj : ∀ {x y}, PyData.eqv (data x) (data y) = true ↔ x = y
theorem Dat.eqv {α : Type} [Dat α] [DecidableEq α] (x y : α) : PyData.eqv (Dat.data x) (Dat.data y) = decide (x = y) := by
  by_cases e : x = y
  · rw [decide_eq_true e]; exact Dat.inj.mpr e
  · rw [decide_eq_false e]
    cases q : PyData.eqv (Dat.data x) (Dat.data y) with
    | false => rfl
    | true => exact absurd (Dat.inj.mp q) e
theorem Dat.shaped {α : Type} [Dat α] (h : Dat.dep α ≤ 64) (x : α) : SeqAt.shaped (Dat.data x) = true := by
  unfold SeqAt.shaped
  rw [Dat.lay x, Bool.true_and]
  exact decide_eq_true (Nat.le_trans (Dat.depth x) h)
instance : Dat Int where
  data := .int
  dep := 0
  depth x := by simp [PyData.depth]
  lay x := by simp [PyData.canLay0]
  dp h := by cases h; exact .int _
  inj := by simp [PyData.eqv]
instance : Dat Bool where
  data := .bool
  dep := 0
  depth x := by simp [PyData.depth]
  lay x := by simp [PyData.canLay0]
  dp h := by cases h; exact .bl _
  inj := by simp [PyData.eqv]
theorem depthAll_le {α : Type} [Dat α] : ∀ xs : List α, PyData.depthAll (xs.map Dat.data) ≤ Dat.dep α
  | [] => by simp [PyData.depthAll]
  | x :: xs => by
    rw [List.map_cons, PyData.depthAll]
    exact Nat.max_le.mpr ⟨Dat.depth x, depthAll_le xs⟩
theorem layAll {α : Type} [Dat α] : ∀ xs : List α, PyData.canLayAll0 (xs.map Dat.data) = true
  | [] => by simp [PyData.canLayAll0]
  | x :: xs => by
    rw [List.map_cons, PyData.canLayAll0, Dat.lay x, layAll xs]
    rfl
theorem dpAll {α : Type} [Dat α] {K : PySem.W.Frag} {H : Hp} : ∀ {vs : List V} {xs : List α}, Reps H vs xs → DpAll K H vs (xs.map Dat.data)
  | [], [], _ => .nil
  | [], _ :: _, h => h.elim
  | _ :: _, [], h => h.elim
  | _ :: _, _ :: _, h => .cons (Dat.dp h.1) (dpAll h.2)
theorem eqvAll_inj {α : Type} [Dat α] : ∀ {xs ys : List α}, PyData.eqvAll (xs.map Dat.data) (ys.map Dat.data) = true ↔ xs = ys
  | [], [] => by simp [PyData.eqvAll]
  | [], _ :: _ => by simp [PyData.eqvAll]
  | _ :: _, [] => by simp [PyData.eqvAll]
  | x :: xs, y :: ys => by
    rw [List.map_cons, List.map_cons, PyData.eqvAll, Bool.and_eq_true, Dat.inj, eqvAll_inj, List.cons.injEq]
instance instDatList {α : Type} [Dat α] : Dat (List α) where
  data xs := .tuple (xs.map Dat.data)
  dep := Dat.dep α + 1
  depth xs := by
    rw [PyData.depth]
    exact Nat.add_le_add_right (depthAll_le xs) 1
  lay xs := by
    rw [PyData.canLay0]
    exact layAll xs
  dp h := by
    obtain ⟨a, vs, rfl, h1, h2⟩ := h
    exact .tup (.inl (.inl h1)) (dpAll h2)
  inj := by
    intro xs ys
    rw [PyData.eqv]
    exact eqvAll_inj
instance instDatProd {α β : Type} [Dat α] [Dat β] : Dat (α × β) where
  data x := .tuple [Dat.data x.1, Dat.data x.2]
  dep := max (Dat.dep α) (Dat.dep β) + 1
  depth x := by
    rw [PyData.depth]
    simp only [PyData.depthAll]
    have h1 := Dat.depth x.1
    have h2 := Dat.depth x.2
    omega
  lay x := by
    rw [PyData.canLay0]
    simp only [PyData.canLayAll0, Dat.lay]
    rfl
  dp h := by
    obtain ⟨a, u, w, rfl, h1, h2, h3⟩ := h
    exact .tup (.inl (.inl h1)) (.cons (Dat.dp h2) (.cons (Dat.dp h3) .nil))
  inj := by
    rintro ⟨a, b⟩ ⟨c, d⟩
    rw [PyData.eqv]
    simp only [PyData.eqvAll, Bool.and_true, Bool.and_eq_true, Dat.inj, Prod.mk.injEq]
theorem EvR.imp {e : Expr} {α : Type} [Im α] {P P' : α → Prop} (h : EvR C G e (.im P)) (k : ∀ x, P x → P' x) : EvR C G e (.im P') := fun B σ H E Q q =>
  h B σ H E Q fun v H2 ⟨l, x, p, r⟩ => q v H2 ⟨l, x, k x p, r⟩
theorem EvR.to {e : Expr} {α : Type} [Im α] {x y : α} (h : EvR C G e (.im (· = x))) (k : x = y) : EvR C G e (.im (· = y)) := h.imp fun _ p => p.trans k
theorem EvR.impL {e : Expr} {α : Type} [Im α] {P P' : List α → Prop} (h : EvR C G e (.ls P)) (k : ∀ x, P x → P' x) : EvR C G e (.ls P') := fun B σ H E Q q =>
  h B σ H E Q fun v H2 ⟨l, p, vs, xs, e, n, h1, r, px⟩ => q v H2 ⟨l, p, vs, xs, e, n, h1, r, k xs px⟩
theorem EvR.toL {e : Expr} {α : Type} [Im α] {x y : List α} (h : EvR C G e (.ls (· = x))) (k : x = y) : EvR C G e (.ls (· = y)) := h.impL fun _ p => p.trans k
theorem EvT.imp {e : Expr} {P P' : Bool → Prop} (h : EvT C G e P) (k : ∀ b, P b → P' b) : EvT C G e P' := fun B σ H E Q q => h B σ H E Q fun b H2 l p => q b H2 l (k b p)
theorem EvT.to {e : Expr} {b b' : Bool} (h : EvT C G e (· = b)) (k : b = b') : EvT C G e (· = b') := h.imp fun _ p => p.trans k
theorem EvR.as {e : Expr} {α β : Type} [Im α] [Im β] {x : α} {y : β} (h : EvR C G e (.im (· = x))) (k : ∀ H v, rep H v x → rep H v y) : EvR C G e (.im (· = y)) := fun B σ H E Q q =>
  h B σ H E Q fun v H2 ⟨l, z, p, r⟩ => q v H2 ⟨l, y, rfl, k H2 v (p ▸ r)⟩
theorem ev_var {i : Nat} {x : Str} {pos : Pos} {α : Type} [Im α] {a : α} (hG : G[i]? = some (.im a)) (hN : C.N[i]? = some x := by rfl)
    (hv : Vis C.sc x := by first | exact Or.inl rfl | exact Or.inr (Or.inl rfl) | exact Or.inr (Or.inr rfl)) (hd : (x == ("__debug__" : Str)) = false := by decide) (hcd : (x == ("__classdict__" : Str)) = false := by decide) :
    EvR C G (.Name x pos) (.im (· = a)) := fun B σ H E Q q => by
  obtain ⟨v, h1, h2⟩ := E.im hG
  exact tE_of (fun X ok => pe_var (i := i) (by rw [ok.N]; exact hN) (by rw [ok.sc]; exact hv) hd hcd) ⟨v, h1, q v H ⟨Le.refl _ _, a, rfl, h2⟩⟩
theorem ev_int {i : Int} {j pos} : EvR C G (.Constant (.int i) j pos) (.im (· = i)) := fun B σ H E Q q => tE_of (fun X ok => pe_int) (q _ H ⟨Le.refl _ _, i, rfl, rfl⟩)
theorem ev_bl {b : Bool} {j pos} : EvR C G (.Constant (.bool b) j pos) (.im (· = b)) := fun B σ H E Q q => tE_of (fun X ok => pe_bl) (q _ H ⟨Le.refl _ _, b, rfl, rfl⟩)
theorem ev_str {x : Str} {j pos} : EvR C G (.Constant (.str x) j pos) (.im (· = x)) := fun B σ H E Q q => tE_of (fun X ok => pe_str) (q _ H ⟨Le.refl _ _, x, rfl, rfl⟩)
theorem gl_of {X : Cx} {x : Str} (ok : Cok C X) (h : C.sc.names.lookup x = some .globalImplicit) : Gl X x := by
  show X.env.scope.names.lookup x = _
  rw [ok.sc]
  exact h
theorem ev_glob {x : Str} {v : V} {pos : Pos} {α : Type} [Im α] {a : α} (hm : ∃ u, C.T.mg x = some u ∧ RelV v u) (hr : ∀ H, rep H v a) (hg : C.sc.names.lookup x = some .globalImplicit := by rfl) (hd : (x == ("__debug__" : Str)) = false := by decide) :
    EvR C G (.Name x pos) (.im (· = a)) := fun B σ H E Q q => by
  obtain ⟨u, h1, h2⟩ := hm
  exact tE_of (fun X ok => pe_glob (v := v) (gl_of ok hg) (by rw [ok.mg]; exact h1) h2 hd) (q v H ⟨Le.refl _ _, a, rfl, hr H⟩)
theorem argIs.le {d : Option Addr} {H H1 : Hp} {v : V} {s : Slot} (D : DiceAt d H) (k : Le d H H1) (h : argIs d H v s) : argIs d H1 v s := by
  cases s with
  | no => exact h
  | im x => obtain ⟨v, e, r⟩ := h; exact ⟨v, e, rep_le k r⟩
  | ro xs => obtain ⟨a, vs, e, n, nd, h1, r⟩ := h; exact ⟨a, vs, e, n, nd, k.keep h1 nd, r.keep k.tle⟩
  | ls xs => obtain ⟨p, vs, e, n, w, h1, r⟩ := h; rw [n] at h1; cases h1
  | dk kvs => obtain ⟨p, vs, e, n, w, h1, r⟩ := h; rw [n] at h1; cases h1
  | rk kvs => obtain ⟨a, vs, e, n, nd, h1, r⟩ := h; exact ⟨a, vs, e, n, nd, k.keep h1 nd, r.keep k.tle⟩
  | dt kvs => obtain ⟨p, vs, e, n, w, h1, r⟩ := h; rw [n] at h1; cases h1
  | di => exact h
  | ob a C dx fs P => obtain ⟨e, n, w, h1, r⟩ := h; rw [n] at h1; cases h1
  | fz a u P => obtain ⟨e, n, nd, h1, hm, r⟩ := h; exact ⟨e, n, nd, k.keep h1 nd, hm, hm _ _ k.tle r⟩
theorem ArgsOk.le {d : Option Addr} {H H1 : Hp} (D : DiceAt d H) (k : Le d H H1) : ∀ {vs : List V} {ss : List Slot}, ArgsOk d H vs ss → ArgsOk d H1 vs ss
  | [], [], _ => trivial
  | [], _ :: _, h => h
  | _ :: _, [], h => h
  | _ :: _, _ :: _, h => ⟨h.1.le D k, ArgsOk.le D k h.2⟩
def noDi : List Slot → Bool
  | [] => true
  | .di :: _ => false
  | _ :: ss => noDi ss
theorem argIs.pure {d : Option Addr} {H : Hp} {v : V} {s : Slot} (n : ∀ ss, noDi (s :: ss) = true → s ≠ .di) (h : argIs d H v s) (hn : noDi [s] = true) : argIs none H v s := by
  cases s with
  | no => exact h
  | im x => exact h
  | ro xs => obtain ⟨a, vs, e, w, nd, h1, r⟩ := h; exact ⟨a, vs, e, w, (fun z => by cases z), h1, r⟩
  | ls xs => obtain ⟨p, vs, e, n, w, h1, r⟩ := h; rw [n] at h1; cases h1
  | dk kvs => obtain ⟨p, vs, e, n, w, h1, r⟩ := h; rw [n] at h1; cases h1
  | rk kvs => obtain ⟨a, vs, e, w, nd, h1, r⟩ := h; exact ⟨a, vs, e, w, (fun z => by cases z), h1, r⟩
  | dt kvs => obtain ⟨p, vs, e, n, w, h1, r⟩ := h; rw [n] at h1; cases h1
  | di => cases hn
  | ob a C dx fs P => obtain ⟨e, n, w, h1, r⟩ := h; rw [n] at h1; cases h1
  | fz a u P => obtain ⟨e, n, nd, h1, hm, r⟩ := h; exact ⟨e, n, (fun z => by cases z), h1, hm, r⟩
theorem noDi_cons {s : Slot} {ss : List Slot} (h : noDi (s :: ss) = true) : noDi [s] = true ∧ noDi ss = true := by
  cases s <;> first | exact ⟨rfl, h⟩ | cases h
theorem ArgsOk.pure {d : Option Addr} {H : Hp} : ∀ {vs : List V} {ss : List Slot}, noDi ss = true → ArgsOk d H vs ss → ArgsOk none H vs ss
  | [], [], _, _ => trivial
  | [], _ :: _, _, h => h
  | _ :: _, [], _, h => h
  | _ :: _, s :: _, n, h => ⟨h.1.pure (fun ss z => by rintro rfl; cases z) (noDi_cons n).1, ArgsOk.pure (noDi_cons n).2 h.2⟩
theorem ea_nil : EvA C G [] (· = []) := fun B σ H E Q q => tA_of (fun X ok => pa_nil) (q [] H [] (Le.refl _ _) rfl trivial)
theorem ea_step {e : Expr} {es : List Expr} {r : Ret} {P R : List Slot → Prop} (he : EvR C G e r) (hes : EvA C G es P) (h : ∀ H v H2, DiceAt C.d H → valIs H v H2 r → Le C.d H H2 → ∃ s, argIs C.d H2 v s ∧ ∀ ss, P ss → R (s :: ss))
    (hs : ∀ env, starEach (e :: es) env = (false, eval e env) :: starEach es env := by intro _; rfl) : EvA C G (e :: es) R := fun B σ H E Q q => by
  refine tA_of (t := tCons (tE C e) (tA C es)) (fun X ok => pa_cons (pe_tE ok) (pa_tA ok) (hs _)) ?_
  refine he B σ H E _ fun v H1 ⟨l, hv⟩ => ?_
  refine hes B σ H1 (E.go l) _ fun vs H2 ss l2 p a => ?_
  obtain ⟨s, h1, h2⟩ := h H v H1 E.diceH hv l
  exact q _ H2 (s :: ss) (l.trans l2) (h2 ss p) ⟨h1.le (E.diceH.le l) l2, a⟩
theorem ea_im {e : Expr} {es : List Expr} {α : Type} [Im α] {x : α} {ss : List Slot} (he : EvR C G e (.im (· = x))) (hes : EvA C G es (· = ss)) (hs : ∀ env, starEach (e :: es) env = (false, eval e env) :: starEach es env := by intro _; rfl) :
    EvA C G (e :: es) (· = .im x :: ss) := ea_step he hes (fun H v H2 _ ⟨y, p, r⟩ _ => ⟨.im x, ⟨v, rfl, p ▸ r⟩, fun _ p => p ▸ rfl⟩) hs
theorem ea_imP {e : Expr} {es : List Expr} {α : Type} [Im α] {P : α → Prop} {R : List Slot → Prop} (he : EvR C G e (.im P)) (hes : EvA C G es R) (hs : ∀ env, starEach (e :: es) env = (false, eval e env) :: starEach es env := by intro _; rfl) :
    EvA C G (e :: es) (fun s => ∃ x ss, P x ∧ R ss ∧ s = .im x :: ss) := ea_step he hes (fun H v H2 _ ⟨y, p, r⟩ _ => ⟨.im y, ⟨v, rfl, r⟩, fun ss q => ⟨y, ss, p, q, rfl⟩⟩) hs
theorem ea_ls {e : Expr} {es : List Expr} {α : Type} [Im α] {x : List α} {ss : List Slot} (he : EvR C G e (.ls (· = x))) (hes : EvA C G es (· = ss)) (hs : ∀ env, starEach (e :: es) env = (false, eval e env) :: starEach es env := by intro _; rfl) :
    EvA C G (e :: es) (· = .ro x :: ss) := ea_step he hes (fun H v H2 D ⟨a, vs, y, e, n, h1, r, p⟩ _ => ⟨.ro x, ⟨a, vs, by rw [e], rfl, D.ne n, h1, p ▸ r⟩, fun _ p => p ▸ rfl⟩) hs
def Slot.view : Slot → Slot
  | @Slot.ls α i xs => @Slot.ro α i xs
  | @Slot.dk β i xs => @Slot.rk β i xs
  | @Slot.dt β i xs => .no
  | .ob _ _ _ _ _ => .no
  | .fz _ _ _ => .no
  | s => s
theorem ea_v {i : Nat} {x : Str} {pos : Pos} {es : List Expr} {s : Slot} {P : List Slot → Prop} (hG : G[i]? = some s) (hno : s ≠ .no) (hdt : s.view ≠ .no) (hes : EvA C G es P) (hN : C.N[i]? = some x := by rfl)
    (hv : Vis C.sc x := by first | exact Or.inl rfl | exact Or.inr (Or.inl rfl) | exact Or.inr (Or.inr rfl)) (hd : (x == ("__debug__" : Str)) = false := by decide) (hcd : (x == ("__classdict__" : Str)) = false := by decide) :
    EvA C G (.Name x pos :: es) (fun s' => ∃ ss, P ss ∧ s' = s.view :: ss) := fun B σ H E Q q => by
  refine tA_of (t := tCons (tVar i) (tA C es)) (fun X ok => pa_cons (pe_var (i := i) (by rw [ok.N]; exact hN) (by rw [ok.sc]; exact hv) hd hcd) (pa_tA ok) rfl) ?_
  have key : ∃ v, σ[i]? = some (some v) ∧ argIs C.d H v s.view := by
    cases s with
    | no => exact absurd rfl hno
    | im x => obtain ⟨v, h1, h2⟩ := E.im hG; exact ⟨v, h1, v, rfl, h2⟩
    | ro xs => obtain ⟨p, vs, h1, h2, h3, h4, _⟩ := E.ro hG; exact ⟨_, h1, p, vs, rfl, rfl, h2, h3, h4⟩
    | ls xs => obtain ⟨p, vs, h1, h2, h3, h4, h5, _⟩ := E.ls hG; exact ⟨_, h1, p, vs, rfl, rfl, h3, h4, h5⟩
    | dk kvs => obtain ⟨p, vs, h1, h2, h3, h4, h5, _⟩ := E.dk hG; exact ⟨_, h1, p, vs, rfl, rfl, h3, h4, h5⟩
    | rk kvs => obtain ⟨p, vs, h1, h2, h3, h4⟩ := E.rk hG; exact ⟨_, h1, p, vs, rfl, rfl, h2, h3, h4⟩
    | dt kvs => exact absurd rfl hdt
    | ob a C dx fs P => exact absurd rfl hdt
    | fz a u P => exact absurd rfl hdt
    | di => obtain ⟨p, _, _, _, h1, h2, _⟩ := E.di hG; exact ⟨_, h1, p, rfl, h2⟩
  obtain ⟨v, h1, h2⟩ := key
  refine ⟨v, h1, ?_⟩
  exact hes B σ H E _ fun vs H2 ss l p a => q _ H2 _ l ⟨ss, p, rfl⟩ ⟨h2.le E.diceH l, a⟩
theorem EvA.imp {es : List Expr} {P P' : List Slot → Prop} (h : EvA C G es P) (k : ∀ ss, P ss → P' ss) : EvA C G es P' := fun B σ H E Q q => h B σ H E Q fun vs H2 ss l p a => q vs H2 ss l (k ss p) a
theorem ea_var {i : Nat} {x : Str} {pos : Pos} {es : List Expr} {s : Slot} {ss : List Slot} (hG : G[i]? = some s) (hes : EvA C G es (· = ss)) (hno : s ≠ .no := by exact fun h => nomatch h) (hdt : s.view ≠ .no := by exact fun h => nomatch h) (hN : C.N[i]? = some x := by rfl)
    (hv : Vis C.sc x := by first | exact Or.inl rfl | exact Or.inr (Or.inl rfl) | exact Or.inr (Or.inr rfl)) (hd : (x == ("__debug__" : Str)) = false := by decide) (hcd : (x == ("__classdict__" : Str)) = false := by decide) :
    EvA C G (.Name x pos :: es) (· = s.view :: ss) := (ea_v hG hno hdt hes hN hv hd hcd).imp fun s' ⟨ss', p, e⟩ => by rw [e, p]
def spC {β : Type} (dice : Bool) (args : β → List Slot) (pre : β → Prop) (post : β → Ret) : Sp := fun vs H Q _ => ∃ (b : β) (d : Option Addr), (dice = false → d = none) ∧ pre b ∧ DiceAt d H ∧ ArgsOk d H vs (args b) ∧ ∀ v H', retIs d H (post b) v H' → Q v H'
def Fn (T : Tx) (k : Nat) (x : Str) (sp : Sp) : Prop := ∃ (f : Addr) (fd : FuncData) (ps : List Str) (ds : List Value) (dvs : List V) (sp0 : Sp),
  FnOk T.P T.w T.K T.mg T.base CX0 k f fd ps sp0 ∧ T.mg x = some (.ref f) ∧ PySem.W.keepIn T.K (.ref f) = true ∧ Binds T.K fd ps ds ∧ Vals dvs ds ∧ ∀ vs H Q E, sp vs H Q E → sp0 (vs ++ dvs) H Q E
theorem ep_call {β : Type} {dice : Bool} {args : β → List Slot} {pre : β → Prop} {post : β → Ret} {j : Nat} {x : Str} {p pos : Pos} {e : Expr} {es : List Expr} {P : List Slot → Prop} {r : Ret} {T : Tx} (F : Fn T j x (spC dice args pre post)) (ha : EvA C G (e :: es) P)
    (h : ∀ ss, P ss → ∃ b, ss = args b ∧ pre b ∧ (dice = true ∨ noDi (args b) = true) ∧ ∀ H v H2, valIs H v H2 (post b) → valIs H v H2 r) (hk : j ≤ C.k) (hg : C.sc.names.lookup x = some .globalImplicit := by rfl) (hT : C.T = T := by rfl)
    (hdb : (x == ("__debug__" : Str)) = false := by decide) (he : ∀ env, starEach (e :: es) env = (false, eval e env) :: starEach es env := by intro _; rfl) (hpl : ∀ env, (backTo pos (starEach es env)).any (·.1) = false := by intro _; rfl) :
    EvR C G (.Call (.Name x p) (e :: es) [] pos) r := fun B σ H E Q q => by
  subst hT
  obtain ⟨f, fd, ps, ds, dvs, sp0, F, hm, kp, b, d, himp⟩ := F
  refine tE_of (t := tCall sp0 dvs E0 (tA C (e :: es))) (fun X ok => pe_call (by rw [ok.prog, ok.w, ok.K, ok.mg, ok.base]; exact F) (ok.room.mono hk) (gl_of ok hg) (by rw [ok.mg]; exact hm) (by rw [ok.K]; exact kp) (by rw [ok.K]; exact b) d pass0 (pa_tA ok) hdb (he _) (hpl _)) ?_
  refine ha B σ H E _ fun vs H1 ss l hp a => himp _ _ _ _ ?_
  obtain ⟨b, rfl, hpre, hd, hr⟩ := h ss hp
  have D1 := E.diceH.le l
  cases dice with
  | true => exact ⟨b, C.d, (fun z => by cases z), hpre, D1, a, fun v H' ⟨l', hv⟩ => q v H' (retIs.pre l ⟨l', hr _ _ _ hv⟩)⟩
  | false =>
    have hn : noDi (args b) = true := by
      rcases hd with z | z
      · cases z
      · exact z
    exact ⟨b, none, fun _ => rfl, hpre, DiceAt.no, ArgsOk.pure hn a, fun v H' ⟨l', hv⟩ => q v H' (retIs.pre l ⟨l'.of_none, hr _ _ _ hv⟩)⟩
theorem ev_call {β : Type} {args : β → List Slot} {pre : β → Prop} {post : β → Ret} {j : Nat} {x : Str} {p pos : Pos} {e : Expr} {es : List Expr} {ss : List Slot} {T : Tx} (F : Fn T j x (spC false args pre post)) (b : β) (ha : EvA C G (e :: es) (· = ss)) (hb : ss = args b) (hp : pre b)
    (hn : noDi (args b) = true := by rfl) (hk : j ≤ C.k := by exact Nat.le_of_ble_eq_true rfl) (hg : C.sc.names.lookup x = some .globalImplicit := by rfl) (hT : C.T = T := by rfl)
    (hdb : (x == ("__debug__" : Str)) = false := by decide) (he : ∀ env, starEach (e :: es) env = (false, eval e env) :: starEach es env := by intro _; rfl) (hpl : ∀ env, (backTo pos (starEach es env)).any (·.1) = false := by intro _; rfl) :
    EvR C G (.Call (.Name x p) (e :: es) [] pos) (post b) := ep_call F ha (fun ss' e' => ⟨b, e'.trans hb, hp, .inr hn, fun _ _ _ z => z⟩) hk hg hT hdb he hpl
theorem ev_callD {β : Type} {args : β → List Slot} {pre : β → Prop} {post : β → Ret} {j : Nat} {x : Str} {p pos : Pos} {e : Expr} {es : List Expr} {ss : List Slot} {T : Tx} (F : Fn T j x (spC true args pre post)) (b : β) (ha : EvA C G (e :: es) (· = ss)) (hb : ss = args b) (hp : pre b)
    (hk : j ≤ C.k := by exact Nat.le_of_ble_eq_true rfl) (hg : C.sc.names.lookup x = some .globalImplicit := by rfl) (hT : C.T = T := by rfl)
    (hdb : (x == ("__debug__" : Str)) = false := by decide) (he : ∀ env, starEach (e :: es) env = (false, eval e env) :: starEach es env := by intro _; rfl) (hpl : ∀ env, (backTo pos (starEach es env)).any (·.1) = false := by intro _; rfl) :
    EvR C G (.Call (.Name x p) (e :: es) [] pos) (post b) := ep_call F ha (fun ss' e' => ⟨b, e'.trans hb, hp, .inl rfl, fun _ _ _ z => z⟩) hk hg hT hdb he hpl
theorem et_val {e : Expr} {b : Bool} (h : EvR C G e (.im (· = b))) (hs : ∀ env whole, PySem.isTrue e env whole = (do let v ← whole; standAt e.pos; holding [v] (truthy v)) := by intro _ _; rfl) : EvT C G e (· = b) := fun B σ H E Q q =>
  tT_of (t := tB (tE C e)) (fun X ok => pt_val (pe_tE ok) (hs _)) (h B σ H E _ fun v H2 ⟨l, z, p, r⟩ => ⟨z, r, q z H2 l p⟩)
theorem et_valP {e : Expr} {P : Bool → Prop} (h : EvR C G e (.im P)) (hs : ∀ env whole, PySem.isTrue e env whole = (do let v ← whole; standAt e.pos; holding [v] (truthy v)) := by intro _ _; rfl) : EvT C G e P := fun B σ H E Q q =>
  tT_of (t := tB (tE C e)) (fun X ok => pt_val (pe_tE ok) (hs _)) (h B σ H E _ fun v H2 ⟨l, z, p, r⟩ => ⟨z, r, q z H2 l p⟩)
theorem et_not {e : Expr} {pos : Pos} {b : Bool} (h : EvT C G e (· = b)) : EvT C G (.UnaryOp .Not e pos) (· = !b) := fun B σ H E Q q =>
  tT_of (t := tNot (tT C e)) (fun X ok => pt_not (pt_tT ok)) (h B σ H E _ fun z H2 l p => q _ H2 l (by rw [p]))
def tW (C : Cg) (e : Expr) : TT := fun σ H Q => ∀ whole, tM C (fun env => PySem.isTrue e env whole) (fun X pins => TP X pins σ Q) σ H
theorem pw_tW {X : Cx} {e : Expr} (ok : Cok C X) : PW X e (tW C e) := ⟨fun whole pins s _ _ _ I h => h whole X ok pins s I⟩
def EvW (C : Cg) (G : List Slot) (e : Expr) (P : Bool → Prop) : Prop := ∀ B σ H, Env C.d B G σ H → ∀ Q : Bool → Hp → Prop, (∀ b H2, Le C.d H H2 → P b → Q b H2) → tW C e σ H Q
theorem tW_of {e : Expr} {t : TT} {σ : L2.St} {H : Hp} {Q : Bool → Hp → Prop} (h : ∀ X, Cok C X → PW X e t) (q : t σ H Q) : tW C e σ H Q := fun whole X ok pins s I => (h X ok).run whole pins s σ H Q I q
theorem ew_and1 {a : Expr} {pos : Pos} {P : Bool → Prop} (h : EvT C G a P) : EvW C G (.BoolOp .And [a] pos) P := fun B σ H E Q q => tW_of (fun X ok => pw_and1 (pt_tT ok)) (h B σ H E Q q)
theorem ew_or1 {a : Expr} {pos : Pos} {P : Bool → Prop} (h : EvT C G a P) : EvW C G (.BoolOp .Or [a] pos) P := fun B σ H E Q q => tW_of (fun X ok => pw_or1 (pt_tT ok)) (h B σ H E Q q)
theorem ew_and {a b : Expr} {rest : List Expr} {pos : Pos} {x y : Bool} (h1 : EvT C G a (· = x)) (h2 : x = true → EvW C G (.BoolOp .And (b :: rest) pos) (· = y)) : EvW C G (.BoolOp .And (a :: b :: rest) pos) (· = (x && y)) := fun B σ H E Q q => by
  refine tW_of (t := tAnd (tT C a) (tW C (.BoolOp .And (b :: rest) pos))) (fun X ok => pw_and (pt_tT ok) (pw_tW ok)) ?_
  refine h1 B σ H E _ fun z H1 l p => ?_
  cases z with
  | true =>
    refine iteT (h2 p.symm B σ H1 (E.go l) _ fun u H2 l2 p2 => q u H2 (l.trans l2) ?_)
    rw [← p, p2]; rfl
  | false => exact iteF (q false H1 l (by rw [← p]; rfl))
theorem ew_or {a b : Expr} {rest : List Expr} {pos : Pos} {x y : Bool} (h1 : EvT C G a (· = x)) (h2 : x = false → EvW C G (.BoolOp .Or (b :: rest) pos) (· = y)) : EvW C G (.BoolOp .Or (a :: b :: rest) pos) (· = (x || y)) := fun B σ H E Q q => by
  refine tW_of (t := tOr (tT C a) (tW C (.BoolOp .Or (b :: rest) pos))) (fun X ok => pw_or (pt_tT ok) (pw_tW ok)) ?_
  refine h1 B σ H E _ fun z H1 l p => ?_
  cases z with
  | false =>
    refine iteF (h2 p.symm B σ H1 (E.go l) _ fun u H2 l2 p2 => q u H2 (l.trans l2) ?_)
    rw [← p, p2]; rfl
  | true => exact iteT (q true H1 l (by rw [← p]; rfl))
theorem ew_orP {a b : Expr} {rest : List Expr} {pos : Pos} {P : Bool → Prop} {x : Bool} (h1 : EvT C G a (· = x)) (hx : x = true → P true) (h2 : x = false → EvW C G (.BoolOp .Or (b :: rest) pos) P) : EvW C G (.BoolOp .Or (a :: b :: rest) pos) P := fun B σ H E Q q => by
  refine tW_of (t := tOr (tT C a) (tW C (.BoolOp .Or (b :: rest) pos))) (fun X ok => pw_or (pt_tT ok) (pw_tW ok)) ?_
  refine h1 B σ H E _ fun z H1 l p => ?_
  cases z with
  | false => exact iteF (h2 p.symm B σ H1 (E.go l) _ fun u H2 l2 p2 => q u H2 (l.trans l2) p2)
  | true => exact iteT (q true H1 l (hx p.symm))
theorem EvW.to' {e : Expr} {b b' : Bool} (h : EvW C G e (· = b)) (k : b = b') : EvW C G e (· = b') := fun B σ H E Q q => h B σ H E Q fun z H2 l p => q z H2 l (p.trans k)
theorem et_w {e : Expr} {P : Bool → Prop} (h : EvW C G e P) : EvT C G e P := fun B σ H E Q q => tT_of (fun X ok => (pw_tW ok).pt) (h B σ H E Q q)
theorem ev_one {a : Expr} {op : BoolOp} {pos : Pos} {r : Ret} (h : EvR C G a r) : EvR C G (.BoolOp op [a] pos) r := fun B σ H E Q q => tE_of (fun X ok => pe_one (pe_tE ok)) (h B σ H E Q q)
theorem ev_and {a b : Expr} {rest : List Expr} {pos : Pos} {x y : Bool} (h1 : EvR C G a (.im (· = x))) (h2 : x = true → EvR C G (.BoolOp .And (b :: rest) pos) (.im (· = y))) : EvR C G (.BoolOp .And (a :: b :: rest) pos) (.im (· = (x && y))) := fun B σ H E Q q => by
  refine tE_of (t := tAndV (tE C a) (tE C (.BoolOp .And (b :: rest) pos))) (fun X ok => pe_and (pe_tE ok) (pe_tE ok)) ?_
  refine h1 B σ H E _ fun v H1 ⟨l, z, p, r⟩ => ⟨z, r, ?_⟩
  cases z with
  | true =>
    refine iteT (h2 p.symm B σ H1 (E.go l) _ fun w H2 ⟨l2, u, p2, r2⟩ => q w H2 ⟨l.trans l2, u, ?_, r2⟩)
    rw [← p, p2]; rfl
  | false => exact iteF (q _ H1 ⟨l, false, by rw [← p]; rfl, rfl⟩)
theorem ev_or {a b : Expr} {rest : List Expr} {pos : Pos} {x y : Bool} (h1 : EvR C G a (.im (· = x))) (h2 : x = false → EvR C G (.BoolOp .Or (b :: rest) pos) (.im (· = y))) : EvR C G (.BoolOp .Or (a :: b :: rest) pos) (.im (· = (x || y))) := fun B σ H E Q q => by
  refine tE_of (t := tOrV (tE C a) (tE C (.BoolOp .Or (b :: rest) pos))) (fun X ok => pe_or (pe_tE ok) (pe_tE ok)) ?_
  refine h1 B σ H E _ fun v H1 ⟨l, z, p, r⟩ => ⟨z, r, ?_⟩
  cases z with
  | false =>
    refine iteF (h2 p.symm B σ H1 (E.go l) _ fun w H2 ⟨l2, u, p2, r2⟩ => q w H2 ⟨l.trans l2, u, ?_, r2⟩)
    rw [← p, p2]; rfl
  | true => exact iteT (q _ H1 ⟨l, true, by rw [← p]; rfl, rfl⟩)
theorem ev_not {a : Expr} {pos : Pos} {x : Bool} (h1 : EvR C G a (.im (· = x))) : EvR C G (.UnaryOp .Not a pos) (.im (· = !x)) := fun B σ H E Q q => by
  refine tE_of (t := tNotV (tE C a)) (fun X ok => pe_not (pe_tE ok)) ?_
  exact h1 B σ H E _ fun v H1 ⟨l, z, p, r⟩ => ⟨z, r, q _ H1 ⟨l, !z, by rw [p], rfl⟩⟩
theorem ev_ifExp {c a b : Expr} {pos : Pos} {x : Bool} {r : Ret} (hc : EvT C G c (· = x)) (h1 : x = true → EvR C G a r) (h2 : x = false → EvR C G b r) : EvR C G (.IfExp c a b pos) r := fun B σ H E Q q => by
  refine tE_of (t := tIf (tT C c) (tE C a) (tE C b)) (fun X ok => pe_ifExp (pt_tT ok) (pe_tE ok) (pe_tE ok)) ?_
  refine hc B σ H E _ fun z H1 l p => ?_
  cases z with
  | true => exact iteT (h1 p.symm B σ H1 (E.go l) _ fun w H2 h => q w H2 (retIs.pre l h))
  | false => exact iteF (h2 p.symm B σ H1 (E.go l) _ fun w H2 h => q w H2 (retIs.pre l h))
theorem ev_op2 {a b : Expr} {op : Operator} {pos : Pos} {f : R2} {α β : Type} [Im α] [Im β] {P : α → Prop} {R : β → Prop} {r : Ret} (ho : ∀ X, Cok C X → OpR X (binaryOp op) f) (ha : EvR C G a (.im P)) (hb : EvR C G b (.im R))
    (h : ∀ x y v w H, P x → R y → rep H v x → rep H w y → ∀ Q : VK, (∀ z H2, retIs C.d H r z H2 → Q z H2) → f v w H Q) : EvR C G (.BinOp a op b pos) r := fun B σ H E Q q => by
  refine tE_of (t := tOp f (tE C a) (tE C b)) (fun X ok => pe_op (ho X ok) (pe_tE ok) (pe_tE ok)) ?_
  refine ha B σ H E _ fun v H1 ⟨l, x, p, r1⟩ => hb B σ H1 (E.go l) _ fun w H2 ⟨l2, y, p2, r2⟩ => ?_
  exact h x y v w H2 p p2 (rep_le l2 r1) r2 Q fun z H3 h3 => q z H3 (retIs.pre (l.trans l2) h3)
structure EvC (C : Cg) (G : List Slot) (e : Expr) (P : Bool → Prop) : Prop where
  v : EvR C G e (.im P)
  t : EvT C G e P
theorem EvC.imp {e : Expr} {P P' : Bool → Prop} (h : EvC C G e P) (k : ∀ b, P b → P' b) : EvC C G e P' := ⟨h.v.imp k, h.t.imp k⟩
theorem EvC.to {e : Expr} {b b' : Bool} (h : EvC C G e (· = b)) (k : b = b') : EvC C G e (· = b') := h.imp fun _ p => p.trans k
theorem mk_evc {e : Expr} {t : TE} {P : Bool → Prop} (h1 : ∀ X, Cok C X → PE X e t) (h2 : ∀ X, Cok C X → PT X e (tTest t)) (h : ∀ B σ H, Env C.d B G σ H → ∀ Q : VK, (∀ z H2, Le C.d H H2 → P z → Q (.bl z) H2) → t σ H Q) : EvC C G e P :=
  ⟨fun B σ H E Q q => tE_of h1 (h B σ H E Q fun z H2 l p => q _ H2 ⟨l, z, p, rfl⟩), fun B σ H E Q q => tT_of h2 (h B σ H E _ fun z H2 l p => ⟨z, rfl, q z H2 l p⟩)⟩
theorem ev_cmp2 {a b : Expr} {op : CmpOp} {pos : Pos} {f : R2} {α β : Type} [Im α] [Im β] {P : α → Prop} {R : β → Prop} {S : Bool → Prop} (ho : ∀ X, Cok C X → OpR X (compareOp op) f) (hm : behindInMarks op b = false) (ha : EvR C G a (.im P)) (hb : EvR C G b (.im R))
    (h : ∀ x y v w H, P x → R y → rep H v x → rep H w y → ∀ Q : VK, (∀ z, S z → Q (.bl z) H) → f v w H Q) : EvC C G (.Compare a [op] [b] pos) S :=
  mk_evc (t := tOp f (tE C a) (tE C b)) (fun X ok => pe_cmpR (ho X ok) (pe_tE ok) (pe_tE ok) hm) (fun X ok => pt_cmpR (ho X ok) (pe_tE ok) (pe_tE ok) hm) fun B σ H E Q q =>
    ha B σ H E _ fun v H1 ⟨l, x, p, r1⟩ => hb B σ H1 (E.go l) _ fun w H2 ⟨l2, y, p2, r2⟩ => h x y v w H2 p p2 (rep_le l2 r1) r2 Q fun z hz => q z H2 (l.trans l2) hz
theorem ev_eqD {a b : Expr} {pos : Pos} {α : Type} [Dat α] [DecidableEq α] {x y : α} (ha : EvR C G a (.im (· = x))) (hb : EvR C G b (.im (· = y))) (hd : Dat.dep α ≤ 64 := by decide) : EvC C G (.Compare a [.Eq] [b] pos) (· = decide (x = y)) :=
  ev_cmp2 (f := rEqD C.T.K) (fun X ok => by rw [← ok.K]; exact op_eqD ok.room.units) (nobehind b (by decide) (by decide)) ha hb fun x' y' v w H p p2 r1 r2 Q q =>
    ⟨_, _, Dat.dp r1, Dat.dp r2, Dat.shaped hd x', Dat.shaped hd y', by rw [Dat.eqv]; exact q _ (by rw [p, p2])⟩
theorem ev_neD {a b : Expr} {pos : Pos} {α : Type} [Dat α] [DecidableEq α] {x y : α} (ha : EvR C G a (.im (· = x))) (hb : EvR C G b (.im (· = y))) (hd : Dat.dep α ≤ 64 := by decide) : EvC C G (.Compare a [.NotEq] [b] pos) (· = !decide (x = y)) :=
  ev_cmp2 (f := rNeD C.T.K) (fun X ok => by rw [← ok.K]; exact op_neD ok.room.units) (nobehind b (by decide) (by decide)) ha hb fun x' y' v w H p p2 r1 r2 Q q =>
    ⟨_, _, Dat.dp r1, Dat.dp r2, Dat.shaped hd x', Dat.shaped hd y', by rw [Dat.eqv]; exact q _ (by rw [p, p2])⟩
theorem ev_eqS {a b : Expr} {pos : Pos} {x y : Str} (ha : EvR C G a (.im (· = x))) (hb : EvR C G b (.im (· = y))) : EvC C G (.Compare a [.Eq] [b] pos) (· = decide (x = y)) :=
  ev_cmp2 (f := rEq) (fun X ok => op_eq) (nobehind b (by decide) (by decide)) ha hb fun x' y' v w H p p2 r1 r2 Q q => by
    cases r1; cases r2
    refine ⟨rfl, ?_⟩
    have e : decide (V.str x' = V.str y') = decide (x' = y') := by
      by_cases h : x' = y'
      · rw [decide_eq_true h, decide_eq_true (by rw [h])]
      · rw [decide_eq_false h, decide_eq_false (fun z => h (by injection z))]
    rw [e]
    exact q _ (by rw [p, p2])
theorem ev_neS {a b : Expr} {pos : Pos} {x y : Str} (ha : EvR C G a (.im (· = x))) (hb : EvR C G b (.im (· = y))) : EvC C G (.Compare a [.NotEq] [b] pos) (· = !decide (x = y)) :=
  ev_cmp2 (f := rNe) (fun X ok => op_ne) (nobehind b (by decide) (by decide)) ha hb fun x' y' v w H p p2 r1 r2 Q q => by
    cases r1; cases r2
    refine ⟨rfl, ?_⟩
    have e : decide (V.str x' = V.str y') = decide (x' = y') := by
      by_cases h : x' = y'
      · rw [decide_eq_true h, decide_eq_true (by rw [h])]
      · rw [decide_eq_false h, decide_eq_false (fun z => h (by injection z))]
    rw [e]
    exact q _ (by rw [p, p2])
theorem run_nil {D : GEnds} (h : D.nx G) : Run C G [] D := fun B σ H E => tSs_of (fun X ok => pss_nil) ⟨G, h, E⟩
theorem run_ret {e : Expr} {pos : Pos} {rest : List Stmt} {D : GEnds} (h : EvR C G e D.rt) : Run C G (.Return (some e) pos :: rest) D := fun B σ H E => by
  refine tSs_of (t := tSeq (tRet (tE C e)) (fun _ _ _ => True)) (fun X ok => ?_) ?_
  · refine ⟨fun pins s σ H D I hh => wpAny_execs_cons (thn ((ps_ret (pos := pos) (pe_tE (e := e) ok)).run pins s σ H { D with nx := fun _ _ => False } I hh) fun f s1 q => ?_)⟩
    cases f with
    | next => obtain ⟨_, _, _, z⟩ := q; exact z.elim
    | ret v => exact q
    | brk => exact q
    | cont => exact q
  · exact h B σ H E _ fun v H2 hv => retIs.pre E.le hv
theorem run_retN {pos : Pos} {rest : List Stmt} {D : GEnds} (h : D.rt = .non) : Run C G (.Return none pos :: rest) D := fun B σ H E => by
  refine tSs_of (t := tSeq tRetN (fun _ _ _ => True)) (fun X ok => ?_) ?_
  · refine ⟨fun pins s σ H D I hh => wpAny_execs_cons (thn ((ps_retN (pos := pos)).run pins s σ H { D with nx := fun _ _ => False } I hh) fun f s1 q => ?_)⟩
    cases f with
    | next => obtain ⟨_, _, _, z⟩ := q; exact z.elim
    | ret v => exact q
    | brk => exact q
    | cont => exact q
  · show retIs C.d B D.rt .non H
    rw [h]
    exact ⟨E.le, rfl⟩
def RunS (C : Cg) (G : List Slot) (st : Stmt) (D : GEnds) : Prop := ∀ B σ H, Env C.d B G σ H → tSt C st (ends C.d B D) σ H
theorem run_cons {st : Stmt} {rest : List Stmt} {D : GEnds} {Mid : List Slot → Prop} (h1 : RunS C G st { D with nx := Mid }) (h2 : ∀ G', Mid G' → Run C G' rest D) : Run C G (st :: rest) D := fun B σ H E => by
  refine tSs_of (t := tSeq (tSt C st) (tSs C rest)) (fun X ok => pss_cons (ps_tS ok) (pss_tS ok)) ?_
  have h := h1 B σ H E
  intro X ok pins s I
  refine thn (h X ok pins s I) fun f s1 q => ?_
  cases f with
  | next =>
    obtain ⟨σ', H', I', G', hG, E'⟩ := q
    exact ⟨σ', H', I', h2 G' hG B σ' H' E'⟩
  | ret v => exact q
  | brk => exact q
  | cont => exact q
end Mk
-- MkLoop
namespace Mk
open Im (rep)
open PySem PySem.Spec PyProof.Rows L2
variable {C : Cg} {G : List Slot}
def LenOk (H : Hp) : Prop := ∀ a xs, (H a = some (.lst xs) ∨ H a = some (.tup xs)) → xs.length ≤ sizeLine
theorem lenOk_of {X : Cx} {pins : List (Addr × Obj)} {σ : L2.St} {H : Hp} {s : Shared} (I : Inv X pins σ H s) : LenOk H := fun a xs h => by
  rcases h with h | h
  · exact (I.hok a _ h).1
  · exact (I.hok a _ h).1
theorem tE_len {e : Expr} {σ : L2.St} {H : Hp} {Q : VK} (h : tE C e σ H (fun v H1 => LenOk H1 → Q v H1)) : tE C e σ H Q := fun X ok pins s I =>
  thn (h X ok pins s I) fun u s1 ⟨v, H1, I1, r, q⟩ => ⟨v, H1, I1, r, q (lenOk_of I1)⟩
def IsWalk {α : Type} [Im α] (J : It) (H1 : Hp) (xs : List α) (cs : List Addr) : Prop :=
  xs.length ≤ sizeLine ∧ ∀ K : Hp → Prop, (∀ H, K H → TLe H1 H ∧ ∀ a ∈ cs, H a = H1 a) →
    Walk J xs.length K (fun i H v H' => Same H H' ∧ ∃ x, xs[i]? = some x ∧ rep H' v x)
def tI (C : Cg) (tg iter : Expr) : TI := fun σ H R => ∀ X, Cok C X → ∀ (pins : List (Addr × Obj)) (s : Shared), Inv X pins σ H s →
  wpAny (model X.prog X.w) X.A (eval iter X.env) (fun v s1 => wpAny (model X.prog X.w) X.A (pyIter v) (PIE X pins σ tg R) X.xe s1) X.xe s
theorem pi_tI {X : Cx} {tg iter : Expr} (ok : Cok C X) : PI X tg iter (tI C tg iter) := ⟨fun pins s _ _ _ I h => h X ok pins s I⟩
theorem tI_of {tg iter : Expr} {wi : TI} {σ : L2.St} {H : Hp} {R : It → Hp → Prop} (h : ∀ X, Cok C X → PI X tg iter wi) (q : wi σ H R) : tI C tg iter σ H R := fun X ok pins s I => (h X ok).run pins s σ H R I q
def EvI (C : Cg) (G : List Slot) (tg iter : Expr) {α : Type} [Im α] (P : List α → Prop) : Prop := ∀ B σ H own, Le C.d B H → DiceAt C.d B → σ.length = G.length → Owns C.d B H G σ own → ∀ R : It → Hp → Prop,
  (∀ J H1 xs cs, Le C.d H H1 → P xs → IsWalk J H1 xs cs → (∀ a ∈ cs, own a = none ∧ C.d ≠ some a ∧ ∃ o, H1 a = some o) → R J H1) → tI C tg iter σ H R
section
variable {α β : Type} [Im α] [Im β] {tg e : Expr}
theorem isWalk_tup {K : PySem.W.Frag} {H1 : Hp} {a : Addr} {vs : List V} {xs : List α} (h : H1 a = some (.tup vs)) (r : Reps H1 vs xs) (hl : vs.length ≤ sizeLine) : IsWalk (Itt K a) H1 xs [] := by
  rw [r.len] at hl
  refine ⟨hl, fun Kp hK => ?_⟩
  have w := walk_tup (K := K) (a := a) (xs := vs)
  rw [r.len] at w
  refine w.mono (fun H k => .inl (.inl ((hK H k).1 a _ h trivial))) fun i H v H' hi k y => ?_
  obtain ⟨e, hv⟩ := y
  subst e
  obtain ⟨x, h1, h2⟩ := r.get hv
  exact ⟨fun _ _ z => z, x, h1, Im.keep (hK _ k).1 h2⟩
theorem isWalk_list {K : PySem.W.Frag} {H1 : Hp} {a : Addr} {vs : List V} {xs : List α} (h : H1 a = some (.lst vs)) (r : Reps H1 vs xs) (hl : vs.length ≤ sizeLine) : IsWalk (Itl K a) H1 xs [a] := by
  rw [r.len] at hl
  refine ⟨hl, fun Kp hK => ?_⟩
  have w := walk_list (K := K) (a := a) (xs := vs)
  rw [r.len] at w
  refine w.mono (fun H k => .inl (.inl (by rw [(hK H k).2 a (by simp)]; exact h))) fun i H v H' hi k y => ?_
  obtain ⟨e, hv⟩ := y
  subst e
  obtain ⟨x, h1, h2⟩ := r.get hv
  exact ⟨fun _ _ z => z, x, h1, Im.keep (hK _ k).1 h2⟩
theorem ei_tup {P : List α → Prop} (h : EvR C G e (.im P)) : EvI C G tg e P := fun B σ H own le D ln ow R q => by
  refine tI_of (wi := iTup C.T.K (tE C e)) (fun X ok => by rw [← ok.K]; exact pi_tup (pe_tE ok)) ?_
  refine tE_len (h B σ H ⟨le, D, ln, own, ow⟩ _ fun v H1 ⟨l, xs, p, a, vs, ev, ha, r⟩ hl => ?_)
  exact ⟨a, ev, ⟨vs, .inl (.inl ha)⟩, q _ H1 xs [] l p (isWalk_tup ha r (hl a vs (.inr ha))) (fun _ z => by simp at z)⟩
theorem ei_new {P : List α → Prop} (h : EvR C G e (.ls P)) : EvI C G tg e P := fun B σ H own le D ln ow R q => by
  refine tI_of (wi := iList C.T.K (tE C e)) (fun X ok => by rw [← ok.K]; exact pi_list (pe_tE ok)) ?_
  refine tE_len (h B σ H ⟨le, D, ln, own, ow⟩ _ fun v H1 ⟨l, a, vs, xs, ev, hn, ha, r, p⟩ hl => ?_)
  refine ⟨a, ev, ⟨vs, .inl (.inl ha)⟩, q _ H1 xs [a] l p (isWalk_list ha r (hl a vs (.inl ha))) (fun b hb => ?_)⟩
  rw [List.mem_singleton.mp hb]
  exact ⟨ow.free a hn, (D.le le).ne hn, _, ha⟩
theorem ei_ro {i : Nat} {x : Str} {pos : Pos} {xs : List α} (hG : G[i]? = some (.ro xs)) (hN : C.N[i]? = some x := by rfl) (hv : Vis C.sc x := by first | exact Or.inl rfl | exact Or.inr (Or.inl rfl) | exact Or.inr (Or.inr rfl))
    (hd : (x == ("__debug__" : Str)) = false := by decide) (hcd : (x == ("__classdict__" : Str)) = false := by decide) : EvI C G tg (.Name x pos) (· = xs) := fun B σ H own le D ln ow R q => by
  refine tI_of (wi := iList C.T.K (tE C (.Name x pos))) (fun X ok => by rw [← ok.K]; exact pi_list (pe_tE ok)) ?_
  obtain ⟨a, vs, h1, h2, h3, h4, h5⟩ := (Env.mk le D ln ⟨own, ow⟩).ro hG
  refine tE_len (tE_of (t := tVar i) (fun X ok => pe_var (i := i) (by rw [ok.N]; exact hN) (by rw [ok.sc]; exact hv) hd hcd) ⟨_, h1, fun hl => ?_⟩)
  refine ⟨a, rfl, ⟨vs, .inl (.inl h3)⟩, q _ H xs [a] (Le.refl _ _) rfl (isWalk_list h3 h4 (hl a vs (.inl h3))) (fun b hb => ?_)⟩
  rw [List.mem_singleton.mp hb]
  exact ⟨h5 own ow, h2, _, h3⟩
theorem isWalk_range {n : Nat} {H1 : Hp} (hn : n ≤ sizeLine) : IsWalk (Itr 0 n) H1 ((List.range n).map fun i : Nat => (i : Int)) [] := by
  have hl : ((List.range n).map fun i : Nat => (i : Int)).length = n := by rw [List.length_map, List.length_range]
  refine ⟨by rw [hl]; exact hn, fun Kp hK => ?_⟩
  rw [hl]
  refine (walk_range (lo := 0) (n := n)).mono (fun _ _ => trivial) fun i H v H' hi k y => ?_
  obtain ⟨e, hv⟩ := y
  subst e
  refine ⟨fun _ _ z => z, (i : Int), ?_, by rw [hv]; show V.int (0 + (i : Int)) = V.int (i : Int); rw [Int.zero_add]⟩
  rw [List.getElem?_map, List.getElem?_range hi]
  rfl
theorem ei_range {a : Expr} {p pos : Pos} {P : Int → Prop} (hm : C.T.mg ("range" : Str) = none) (h : EvR C G a (.im P)) (hb : ∀ n, P n → 0 ≤ n ∧ n ≤ 100000) (hg : C.sc.names.lookup ("range" : Str) = some .globalImplicit := by rfl)
    (hs : ∀ env, starEach [a] env = [(false, eval a env)] := by intro _; rfl) :
    EvI C G tg (.Call (.Name "range" p) [a] [] pos) (fun xs : List Int => ∃ n, P n ∧ xs = (List.range n.toNat).map fun i : Nat => (i : Int)) := fun B σ H own le D ln ow R q => by
  refine tI_of (wi := iRng1 (tCons (tE C a) tNil)) (fun X ok => pi_range1 (gl_of ok hg) (by rw [ok.mg]; exact hm) (pa_cons (pe_tE ok) pa_nil (hs _)) (hs _)) ?_
  refine h B σ H ⟨le, D, ln, own, ow⟩ _ fun v H1 ⟨l, n, p, r⟩ => ?_
  have hn := hb n p
  refine ⟨n, by rw [show v = V.int n from r], by omega, by omega, q _ H1 _ [] l ⟨n, p, rfl⟩ (isWalk_range ?_) (fun _ z => by simp at z)⟩
  rw [sizeLine_eq]
  omega
end
theorem wipe_get {σ : L2.St} : ∀ {vs : List Nat} {j : Nat}, j ∈ vs → (wipe σ vs)[j]? = some none ∨ (wipe σ vs)[j]? = none
  | [], j, h => by simp at h
  | v :: vs, j, h => by
    show ((wipe σ vs).set v none)[j]? = _ ∨ _
    by_cases e : v = j
    · subst e
      by_cases hl : v < (wipe σ vs).length
      · exact .inl (List.getElem?_set_self hl)
      · exact .inr (by rw [List.getElem?_eq_none_iff]; show ((wipe σ vs).set v none).length ≤ v; rw [List.length_set]; omega)
    · have hj : j ∈ vs := (List.mem_cons.mp h).resolve_left (fun z => e z.symm)
      show ((wipe σ vs).set v none)[j]? = some none ∨ ((wipe σ vs).set v none)[j]? = none
      rw [List.getElem?_set_ne e]
      exact wipe_get hj
theorem wipe_set {σ : L2.St} {j : Nat} {o : Option V} : ∀ {vs : List Nat}, j ∈ vs → wipe (σ.set j o) vs = wipe σ vs
  | [], h => by simp at h
  | v :: vs, h => by
    show (wipe (σ.set j o) vs).set v none = (wipe σ vs).set v none
    by_cases hj : j ∈ vs
    · rw [wipe_set hj]
    · have e : j = v := (List.mem_cons.mp h).resolve_right hj
      subst e
      have key : ∀ (ws : List Nat), j ∉ ws → wipe (σ.set j o) ws = (wipe σ ws).set j o := by
        intro ws
        induction ws with
        | nil => intro _; rfl
        | cons w ws ih =>
          intro hw
          show (wipe (σ.set j o) ws).set w none = ((wipe σ ws).set w none).set j o
          rw [ih (fun z => hw (List.mem_cons_of_mem _ z)), List.set_comm _ _ (fun z => hw (by rw [z]; exact List.mem_cons_self))]
      rw [key vs hj, List.set_set]
theorem wipe_wipe {σ : L2.St} {vs : List Nat} : wipe (wipe σ vs) vs = wipe σ vs := by
  have key : ∀ (ws : List Nat), (∀ j ∈ ws, j ∈ vs) → wipe (wipe σ vs) ws = wipe σ vs := by
    intro ws
    induction ws with
    | nil => intro _; rfl
    | cons w ws ih =>
      intro h
      show (wipe (wipe σ vs) ws).set w none = _
      rw [ih fun j hj => h j (List.mem_cons_of_mem _ hj)]
      rcases wipe_get (σ := σ) (h w List.mem_cons_self) with q | q
      · apply List.ext_getElem?
        intro i
        by_cases e : w = i
        · subst e
          rw [List.getElem?_set_self (List.getElem?_eq_some_iff.mp q).1, q]
        · rw [List.getElem?_set_ne e]
      · rw [List.set_eq_of_length_le (List.getElem?_eq_none_iff.mp q)]
  exact key vs fun _ h => h
def Bnd (C : Cg) (tg : Expr) {α : Type} [Im α] (put : α → List Slot → List Slot) (ws : List Nat) : Prop := ∃ g : TG, (∀ X, Cok C X → PG X tg g) ∧ (∀ x G, (put x G).length = G.length) ∧
  ∀ B G σ H v x (Q : L2.St → Hp → Prop), Env C.d B G σ H → G.length = C.N.length → rep H v x → (∀ σ', (∀ B' H', TLe H H' → Env C.d B' G σ H' → Env C.d B' (put x G) σ' H') → (∀ vs, (∀ j ∈ ws, j ∈ vs) → wipe σ' vs = wipe σ vs) → Q σ' H) → g v σ H Q
theorem fn_loc {X : Cx} {x : Str} (ok : Cok C X) (h : C.sc.names.lookup x = some .local) : X.fn x = true ∨ X.env.scope.names.lookup x = some .local := .inr (by rw [ok.sc]; exact h)
section
variable {α β : Type} [Im α] [Im β]
theorem bnd_name {i : Nat} {x : Str} {pos : Pos} (hN : C.N[i]? = some x := by rfl) (hx : Sto C x := by first | exact Or.inl rfl | exact Or.inr ⟨rfl, rfl⟩) : Bnd C (.Name x pos) (fun (a : α) G => G.set i (.im a)) [i] := by
  refine ⟨gName i, fun X ok => pg_name (by rw [ok.N]; exact ok.nd) (by rw [ok.N]; exact hN) (hx.loc ok) (hx.fn ok), fun _ _ => List.length_set .., fun B G σ H v x Q E hl r q => ?_⟩
  have hi : i < C.N.length := (List.getElem?_eq_some_iff.mp hN).1
  exact q _ (fun B' H' tl E' => E'.set_im (by rw [hl]; exact hi) (Im.keep tl r)) fun vs hv => wipe_set (hv i (by simp))
theorem bnd_pair {i j : Nat} {x y : Str} {px py pos : Pos} {k : Nat} (hN : C.N[i]? = some x := by rfl) (hM : C.N[j]? = some y := by rfl) (hx : Sto C x := by first | exact Or.inl rfl | exact Or.inr ⟨rfl, rfl⟩) (hy : Sto C y := by first | exact Or.inl rfl | exact Or.inr ⟨rfl, rfl⟩)
    (h1 : ∀ env, (assignEach [.Name x px, .Name y py] env).length = 2 := by intro _; rfl) (h2 : ∀ env, List.findIdx? (fun x => x.1) (assignEach [.Name x px, .Name y py] env) = none := by intro _; rfl)
    (h3 : ∀ env, (assignEach [.Name x px, .Name y py] env).map (fun x => x.2) = assign (.Name x px) env :: (assignEach [.Name y py] env).map (fun x => x.2) := by intro _; rfl)
    (h4 : ∀ env, (assignEach [.Name y py] env).map (fun x => x.2) = assign (.Name y py) env :: (assignEach [] env).map (fun x => x.2) := by intro _; rfl) :
    Bnd C (.Tuple [.Name x px, .Name y py] k pos) (fun (a : α × β) G => (G.set i (.im a.1)).set j (.im a.2)) [i, j] := by
  refine ⟨gTup C.T.K 2 (gCons (gName i) (gCons (gName j) gNil)), fun X ok => by
    rw [← ok.K]
    exact pg_tup ok.calm (pgs_cons (pg_name (by rw [ok.N]; exact ok.nd) (by rw [ok.N]; exact hN) (hx.loc ok) (hx.fn ok)) (pgs_cons (pg_name (by rw [ok.N]; exact ok.nd) (by rw [ok.N]; exact hM) (hy.loc ok) (hy.fn ok)) pgs_nil (h4 _)) (h3 _)) (h1 _) (h2 _),
    fun _ _ => by rw [List.length_set, List.length_set], fun B G σ H v x Q E hl r q => ?_⟩
  obtain ⟨a, u, w, ev, ha, r1, r2⟩ := r
  have hi : i < C.N.length := (List.getElem?_eq_some_iff.mp hN).1
  have hj : j < C.N.length := (List.getElem?_eq_some_iff.mp hM).1
  refine ⟨a, [u, w], ev, .inl (.inl ha), rfl, u, [w], rfl, w, [], rfl, rfl, q _ (fun B' H' tl E' => (E'.set_im (by rw [hl]; exact hi) (Im.keep tl r1)).set_im (by rw [List.length_set, hl]; exact hj) (Im.keep tl r2)) fun vs hv => ?_⟩
  rw [wipe_set (hv j (by simp)), wipe_set (hv i (by simp))]
end
theorem never {X : Cx} (ok : Cok C X) : PassesOwn (model X.prog X.w) X.A X.env X.xe := by
  rw [ok.xe]
  exact PassesOwn.never
theorem run_for {α : Type} [Im α] {tg iter : Expr} {body rest : List Stmt} {pos : Pos} {D : GEnds} {P : List α → Prop} {put : α → List Slot → List Slot} {ws : List Nat} (hi : EvI C G tg iter P) (hb : Bnd C tg put ws)
    (I : List α → Nat → List Slot → Prop) (h0 : ∀ xs, P xs → I xs 0 G) (hlen : ∀ xs i G', I xs i G' → G'.length = C.N.length)
    (hs : ∀ xs i x G', P xs → xs[i]? = some x → I xs i G' → Run C (put x G') body { nx := I xs (i + 1), ct := I xs (i + 1), rt := D.rt, bk := fun G'' => Run C G'' rest D })
    (hd : ∀ xs G', P xs → I xs xs.length G' → Run C G' rest D) (hf : ∀ env x, foldedSetIterable iter env x = pure x := by intro _ _; rfl) : Run C G (.For tg iter body [] pos :: rest) D := fun B σ H E => by
  obtain ⟨le, Di, ln, own, ow⟩ := E
  obtain ⟨g, hg, _, hbind⟩ := hb
  refine tSs_of (t := tSeq (tFor (tI C tg iter) g (tSs C body)) (tSs C rest)) (fun X ok => pss_cons (ps_for (never ok) ok.calm (pi_tI ok) (hg X ok) (pss_tS ok) (hf _)) (pss_tS ok)) ?_
  refine hi B σ H own le Di ln ow _ fun J H1 xs cs l p w hcs => ?_
  have ow1 := ow.go Di l
  obtain ⟨lF, EF⟩ := Env.rebase (le.trans l) Di ln ow1
  have DF := EF.dice
  have stand : ∀ {H' : Hp}, Le C.d (frame H1 own) H' → TLe H1 H' ∧ ∀ a ∈ cs, H' a = H1 a := fun {H'} k => by
    refine ⟨fun a o e st => ?_, fun a ha => ?_⟩
    · have hn : own a = none := by
        cases q : own a with
        | none => rfl
        | some i => exact absurd st ((ow1.cell a i q).2 o e)
      exact k.tle a o (by rw [frame_none hn]; exact e) st
    · obtain ⟨h1, h2, o, h3⟩ := hcs a ha
      rw [h3]
      exact k.keep (by rw [frame_none h1]; exact h3) h2
  have back : ∀ {σ' : L2.St} {H' : Hp} {G' : List Slot}, Env C.d (frame H1 own) G' σ' H' → Env C.d B G' σ' H' := fun E' => Env.back lF Di E'
  refine for_it (w.2 (fun H' => Le C.d (frame H1 own) H') fun H' k => stand k) (fun i σ' H' => ∃ G', I xs i G' ∧ Env C.d (frame H1 own) G' σ' H') ⟨G, h0 xs p, EF⟩ (fun i σ' H' _ ⟨G', _, E'⟩ => E'.le) ?_ ?_
  · rintro i v σ' H' H'' hlt ⟨G', hI, E'⟩ ⟨sm, x, hx, r⟩
    refine hbind (frame H1 own) G' σ' H'' v x _ (E'.go (Le.of_same sm)) (hlen xs i G' hI) r fun σ2 E2 _ => ?_
    replace E2 := E2 _ _ (TLe.refl _) (E'.go (Le.of_same sm))
    have hr := hs xs i x G' p hx hI (frame H1 own) σ2 H'' E2
    intro X ok pins s Iv
    refine thn (hr X ok pins s Iv) fun f s1 q => ?_
    cases f with
    | next => exact q
    | cont => exact q
    | brk =>
      obtain ⟨σ3, H3, I3, G3, q3, E3⟩ := q
      exact ⟨σ3, H3, I3, q3 B σ3 H3 (back E3)⟩
    | ret u =>
      obtain ⟨v3, σ3, H3, I3, r3, q3⟩ := q
      exact ⟨v3, σ3, H3, I3, r3, retIs.pre lF q3⟩
  · rintro σ' H' ⟨G', hI, E'⟩
    exact hd xs G' p hI B σ' H' (back E')
def Cg.blk (C : Cg) (scope : Scope) : Cg := { C with sc := relS scope C.sc, fn := fun x => scope.names.lookup x == some .cell }
theorem Cok.blk {X : Cx} {s : Shared} {H : Hp} {scope : Scope} {Ca : Addr} {cl : List (Str × Addr)} {fp : List Addr} (ok : Cok C X) : Cok (C.blk scope) (X.blk s H scope (compEnvC scope cl Ca X.env) fp) where
  prog := ok.prog
  w := ok.w
  K := ok.K
  mg := ok.mg
  base := ok.base
  N := ok.N
  nd := ok.nd
  sc := by
    show relS scope X.env.scope = relS scope C.sc
    rw [ok.sc]
  calm := ok.calm
  room := ok.room
  xe := rfl
  fn := fun _ h => h
def wipeG (G : List Slot) : List Nat → List Slot
  | [] => G
  | v :: vs => (wipeG G vs).set v .no
theorem Env.wipe {d : Option Addr} {B H : Hp} {σ : L2.St} (E : Env d B G σ H) : ∀ vs : List Nat, Env d B (wipeG G vs) (wipe σ vs) H
  | [] => E
  | v :: vs => (Env.wipe E vs).set_no
theorem wipeG_length (vs : List Nat) : (wipeG G vs).length = G.length := by
  induction vs with
  | nil => rfl
  | cons v vs ih => show ((wipeG G vs).set v .no).length = _; rw [List.length_set, ih]
inductive Lcr {α γ : Type} (T : α → Bool → Prop) (R : α → γ → Prop) : List α → List γ → Prop
  | nil : Lcr T R [] []
  | yes {xs : List α} {ys : List γ} {x : α} {y : γ} : Lcr T R xs ys → T x true → R x y → Lcr T R (xs ++ [x]) (ys ++ [y])
  | no {xs : List α} {ys : List γ} {x : α} : Lcr T R xs ys → T x false → Lcr T R (xs ++ [x]) ys
theorem Lcr.det {α γ : Type} {p : α → Bool} {f : α → γ} {xs : List α} {ys : List γ} (h : Lcr (fun x b => b = p x) (fun x y => y = f x) xs ys) : ys = (xs.filter p).map f := by
  induction h with
  | nil => rfl
  | yes _ h1 h2 ih => rw [List.filter_append, List.map_append, ih, List.filter_cons, if_pos h1.symm, h2]; rfl
  | no _ h1 ih => rw [List.filter_append, List.map_append, ih, List.filter_cons, if_neg (by rw [← h1]; exact Bool.false_ne_true)]; simp
theorem Lcr.map {α γ : Type} {f : α → γ} {xs : List α} {ys : List γ} (h : Lcr (fun _ b => b = true) (fun x y => y = f x) xs ys) : ys = xs.map f := by
  induction h with
  | nil => rfl
  | yes _ h1 h2 ih => rw [List.map_append, ih, h2]; rfl
  | no _ h1 ih => cases h1
theorem Lcr.sub {α : Type} {xs ys : List α} (h : Lcr (fun _ _ => True) (fun x y => y = x) xs ys) : ys.Sublist xs := by
  induction h with
  | nil => exact List.Sublist.refl _
  | yes _ h1 h2 ih => rw [h2]; exact ih.append (List.Sublist.refl _)
  | no _ h1 ih => exact List.Sublist.trans ih (List.sublist_append_left _ _)
def LcOk (C : Cg) (G : List Slot) (elt tg iter : Expr) (ifs : List Expr) (scope : Scope) (own : List (Str × Nat)) (r : Ret) : Prop := ∃ (g : TG) (tt : TT) (te : TE),
  (∀ X, Cok C X → BlkOk X.N X.env.scope scope own ∧ (∀ s H Ca cl fp, PG (X.blk s H scope (compEnvC scope cl Ca X.env) fp) tg g) ∧ (∀ s H Ca cl fp, PTs (X.blk s H scope (compEnvC scope cl Ca X.env) fp) ifs tt) ∧
    ∀ s H Ca cl fp, PE (X.blk s H scope (compEnvC scope cl Ca X.env) fp) elt te) ∧
  ∀ B σ H, Env C.d B G σ H → ∀ Q : VK, (∀ v H2, retIs C.d H r v H2 → Q v H2) → tLc (tI C tg iter) g tt te (own.map (·.2)) σ H Q
theorem mk_lc {α γ : Type} [Im α] [Im γ] {elt tg iter : Expr} {ifs : List Expr} {scope : Scope} {own : List (Str × Nat)} {P : List α → Prop} {put : α → List Slot → List Slot} {ws : List Nat} {T : α → Bool → Prop} {R : α → γ → Prop} {tt : TT}
    (hl : G.length = C.N.length) (hi : EvI C G tg iter P) (ok : blkC C.N C.sc scope own = true) (hb : Bnd (C.blk scope) tg put ws) (hw : ∀ j ∈ ws, j ∈ own.map (·.2)) (hts : ∀ X, Cok (C.blk scope) X → PTs X ifs tt)
    (ht : ∀ (xs : List α) (i : Nat) (x : α) B σ H, P xs → xs[i]? = some x → Env C.d B (put x (wipeG G (own.map (·.2)))) σ H → ∀ Q : Bool → Hp → Prop, (∀ b H2, Le C.d H H2 → T x b → Q b H2) → tt σ H Q)
    (he : ∀ (xs : List α) (i : Nat) (x : α), P xs → xs[i]? = some x → T x true → EvR (C.blk scope) (put x (wipeG G (own.map (·.2)))) elt (.im (R x))) :
    LcOk C G elt tg iter ifs scope own (.ls fun ys => ∃ xs, P xs ∧ Lcr T R xs ys) := by
  obtain ⟨g, hg, hpl, hbind⟩ := hb
  refine ⟨g, tt, tE (C.blk scope) elt, fun X okX => ⟨by rw [okX.N, okX.sc]; exact blkOk_by ok, fun s H Ca cl fp => hg _ okX.blk, fun s H Ca cl fp => hts _ okX.blk, fun s H Ca cl fp => pe_tE okX.blk⟩, fun B σ H E Q q => ?_⟩
  have E0 := E
  obtain ⟨le, Di, ln, ow0, ow⟩ := E
  refine hi B σ H ow0 le Di ln ow _ fun J H1 xs cs l p w hcs => fun Da hD => ?_
  have kp : ∀ H', Le C.d H1 H' → TLe H1 H' ∧ ∀ a ∈ cs, H' a = H1 a := fun H' k => ⟨k.tle, fun a ha => by
    obtain ⟨h1, h2, o, h3⟩ := hcs a ha
    rw [h3]
    exact k.keep h3 h2⟩
  refine lc_it (w.2 (fun H' => Le C.d H1 H') kp) (fun i H' => Le C.d H1 H' ∧ ∃ acc ys, H' Da = some (.lst acc) ∧ acc.length ≤ i ∧ Reps H' acc ys ∧ Lcr T R (xs.take i) ys) ⟨Le.new hD, [], [], upd_same, Nat.le_refl _, trivial, by rw [List.take_zero]; exact .nil⟩ (fun i H' _ h => h.1) ?_ ?_
  · rintro i v H' H'' hlt ⟨k, acc, ys, hA, hal, hr, hL⟩ ⟨sm, x, hx, r⟩
    have ED : Env C.d B (wipeG G (own.map (·.2))) (wipe σ (own.map (·.2))) H'' := (((E0.go l).go k).go (Le.of_same sm)).wipe _
    have htk : xs.take (i + 1) = xs.take i ++ [x] := by
      rw [List.take_add_one, hx]; rfl
    refine hbind B _ _ H'' v x _ ED (by rw [wipeG_length]; exact hl) r fun σ2 E2 hwp => ⟨by rw [hwp _ hw, wipe_wipe], ?_⟩
    replace E2 := E2 _ _ (TLe.refl _) ED
    have D1 : C.d ≠ some Da := fun z => by
      obtain ⟨o, h1, _⟩ := (Di.le le).le l Da z
      rw [hD] at h1
      cases h1
    have hsz := w.1
    refine ht xs i x B σ2 H'' p hx E2 _ fun b H3 k3 tb => ?_
    cases b with
    | true =>
      refine iteT (he xs i x p hx tb B σ2 H3 (E2.go k3) _ fun y H4 ⟨k4, z, hz, rz⟩ => ?_)
      have k34 : Le C.d H' H4 := ((Le.of_same sm).trans k3).trans k4
      have hA4 : H4 Da = some (.lst acc) := k34.keep hA D1
      refine ⟨acc, hA4, by omega, (k.trans k34).mut hD, acc ++ [y], ys ++ [z], upd_same, by rw [List.length_append]; exact Nat.add_le_add_right hal 1, ?_, by rw [htk]; exact .yes hL tb hz⟩
      have tl : TLe H4 (upd H4 Da (.lst (acc ++ [y]))) := TLe.upd fun o ho => by rw [hA4] at ho; cases ho; exact id
      exact ((hr.keep k34.tle).keep tl).app (.one (Im.keep tl rz))
    | false =>
      refine iteF ?_
      have k3' : Le C.d H' H3 := (Le.of_same sm).trans k3
      exact ⟨k.trans k3', acc, ys, k3'.keep hA D1, Nat.le_succ_of_le hal, hr.keep k3'.tle, by rw [htk]; exact .no hL tb⟩
  · rintro H' ⟨k, acc, ys, hA, hal, hr, hL⟩
    rw [List.take_length] at hL
    exact q _ H' ⟨l.trans k, Da, acc, ys, rfl, l.free hD, hA, hr, xs, p, hL⟩
theorem LcOk.imp {γ : Type} [Im γ] {elt tg iter : Expr} {ifs : List Expr} {scope : Scope} {own : List (Str × Nat)} {P P' : List γ → Prop} (h : LcOk C G elt tg iter ifs scope own (.ls P)) (k : ∀ ys, P ys → P' ys) : LcOk C G elt tg iter ifs scope own (.ls P') := by
  obtain ⟨g, tt, te, h1, h2⟩ := h
  exact ⟨g, tt, te, h1, fun B σ H E Q q => h2 B σ H E Q fun v H2 ⟨l, p, vs, xs, e, n, h1, r, px⟩ => q v H2 ⟨l, p, vs, xs, e, n, h1, r, k xs px⟩⟩
section
variable {α γ : Type} [Im α] [Im γ] {elt tg iter c : Expr} {scope : Scope} {own : List (Str × Nat)} {xs : List α} {put : α → List Slot → List Slot} {ws : List Nat}
theorem lc_map (f : α → γ) (hl : G.length = C.N.length) (hi : EvI C G tg iter (· = xs)) (ok : blkC C.N C.sc scope own = true) (hb : Bnd (C.blk scope) tg put ws) (hw : ∀ j ∈ ws, j ∈ own.map (·.2))
    (he : ∀ x ∈ xs, EvR (C.blk scope) (put x (wipeG G (own.map (·.2)))) elt (.im (· = f x))) : LcOk C G elt tg iter [] scope own (.ls (· = xs.map f)) :=
  (mk_lc (T := fun _ b => b = true) (R := fun x y => y = f x) (tt := tYes) hl hi ok hb hw (fun X _ => pts_nil) (fun xs' i x B σ H _ _ E Q q => q true H (Le.refl _ _) rfl) fun xs' i x p hx _ => he x (by rw [← p]; exact List.mem_of_getElem? hx)).imp
    fun ys ⟨xs', e, h⟩ => by rw [← e]; exact h.map
theorem lc_filter (p : α → Bool) (f : α → γ) (hl : G.length = C.N.length) (hi : EvI C G tg iter (· = xs)) (ok : blkC C.N C.sc scope own = true) (hb : Bnd (C.blk scope) tg put ws) (hw : ∀ j ∈ ws, j ∈ own.map (·.2))
    (ht : ∀ x ∈ xs, EvT (C.blk scope) (put x (wipeG G (own.map (·.2)))) c (· = p x)) (he : ∀ x ∈ xs, p x = true → EvR (C.blk scope) (put x (wipeG G (own.map (·.2)))) elt (.im (· = f x))) : LcOk C G elt tg iter [c] scope own (.ls (· = (xs.filter p).map f)) :=
  (mk_lc (T := fun x b => b = p x) (R := fun x y => y = f x) (tt := tT (C.blk scope) c) hl hi ok hb hw (fun X ok => pts_one (pt_tT ok)) (fun xs' i x B σ H e hx E Q q => ht x (by rw [← e]; exact List.mem_of_getElem? hx) B σ H E Q q)
    fun xs' i x e hx t => he x (by rw [← e]; exact List.mem_of_getElem? hx) t.symm).imp fun ys ⟨xs', e, h⟩ => by rw [← e]; exact h.det
theorem lc_any {xs : List γ} {put : γ → List Slot → List Slot} (hl : G.length = C.N.length) (hi : EvI C G tg iter (· = xs)) (ok : blkC C.N C.sc scope own = true) (hb : Bnd (C.blk scope) tg put ws) (hw : ∀ j ∈ ws, j ∈ own.map (·.2))
    (ht : ∀ x ∈ xs, EvT (C.blk scope) (put x (wipeG G (own.map (·.2)))) c (fun _ => True)) (he : ∀ x ∈ xs, EvR (C.blk scope) (put x (wipeG G (own.map (·.2)))) elt (.im (· = x))) : LcOk C G elt tg iter [c] scope own (.ls fun ys => ys.Sublist xs) :=
  (mk_lc (T := fun x b => True) (R := fun x y => y = x) (tt := tT (C.blk scope) c) hl hi ok hb hw (fun X ok => pts_one (pt_tT ok)) (fun xs' i x B σ H e hx E Q q => ht x (by rw [← e]; exact List.mem_of_getElem? hx) B σ H E Q q)
    fun xs' i x e hx t => he x (by rw [← e]; exact List.mem_of_getElem? hx)).imp fun ys ⟨xs', e, h⟩ => by rw [← e]; exact h.sub
end
theorem ev_lc {elt tg iter : Expr} {ifs : List Expr} {scope : Scope} {own : List (Str × Nat)} {pos : Pos} {r : Ret} (h : LcOk C G elt tg iter ifs scope own r) (hs : ∀ env x, foldedSetIterable iter env x = pure x := by intro _ _; rfl) :
    EvR C G (.ListComp elt [⟨tg, iter, ifs, 0⟩] scope pos) r := fun B σ H E Q q => by
  obtain ⟨g, tt, te, h1, h2⟩ := h
  exact tE_of (t := tLc (tI C tg iter) g tt te (own.map (·.2))) (fun X ok => pe_lc ok.calm (by rw [ok.N]; exact ok.nd) (pi_tI ok) (h1 X ok).1 (h1 X ok).2.1 (h1 X ok).2.2.1 (h1 X ok).2.2.2 (hs _)) (h2 B σ H E Q q)
end Mk
-- MkStm
namespace Mk
open Im (rep)
open PySem PySem.Spec PyProof.Rows L2
variable {C : Cg} {G : List Slot}
section
variable {α : Type} [Im α] {e : Expr} {pos pos' : Pos} {rest : List Stmt} {D : GEnds} {i : Nat} {x : Str}
theorem ps_setC {X : Cx} (ok : Cok C X) (hN : C.N[i]? = some x) (hx : Sto C x) (hs : ∀ env : PySem.Env, env.scope = C.sc → swapsWith e (some (.Name x pos')) pos.line env = pure false) :
    PS X (.Assign [.Name x pos'] e pos) (tAsg (tE C e) (gName i)) := ps_set (by rw [ok.N]; exact ok.nd) (by rw [ok.N]; exact hN) (hx.loc ok) (pe_tE ok) (hs _ ok.sc) (hx.fn ok)
theorem run_asg {r : Ret} {K : List Slot → Prop} (hN : C.N[i]? = some x) (hx : Sto C x) (hs : ∀ env : PySem.Env, env.scope = C.sc → swapsWith e (some (.Name x pos')) pos.line env = pure false) (h : EvR C G e r)
    (hk : ∀ B σ H v H2, Env C.d B G σ H → retIs C.d H r v H2 → ∃ G', K G' ∧ Env C.d B G' (σ.set i (some v)) H2) (k : ∀ G', K G' → Run C G' rest D) : Run C G (.Assign [.Name x pos'] e pos :: rest) D := fun B σ H E => by
  refine tSs_of (t := tSeq (tAsg (tE C e) (gName i)) (tSs C rest)) (fun X ok => pss_cons (ps_setC ok hN hx hs) (pss_tS ok)) ?_
  refine h B σ H E _ fun v H2 hv => ?_
  obtain ⟨G', hG, E'⟩ := hk B σ H v H2 E hv
  exact k G' hG B _ H2 E'
theorem run_setP {P : α → Prop} (h : EvR C G e (.im P)) (k : ∀ a, P a → Run C (G.set i (.im a)) rest D) (hi : i < G.length := by exact Nat.le_of_ble_eq_true rfl) (hN : C.N[i]? = some x := by rfl) (hx : Sto C x := by first | exact Or.inl rfl | exact Or.inr ⟨rfl, rfl⟩)
    (hs : ∀ env : PySem.Env, env.scope = C.sc → swapsWith e (some (.Name x pos')) pos.line env = pure false := by first | (intro _ _; rfl) | (intro env e; cases env; cases e; rfl)) : Run C G (.Assign [.Name x pos'] e pos :: rest) D :=
  run_asg (K := fun G' => ∃ a, P a ∧ G' = G.set i (.im a)) hN hx hs h (fun B σ H v H2 E ⟨l, a, p, r⟩ => ⟨_, ⟨a, p, rfl⟩, (E.go l).set_im hi r⟩) fun G' ⟨a, p, e⟩ => by rw [e]; exact k a p
theorem run_set {a : α} (h : EvR C G e (.im (· = a))) (k : Run C (G.set i (.im a)) rest D) (hi : i < G.length := by exact Nat.le_of_ble_eq_true rfl) (hN : C.N[i]? = some x := by rfl) (hx : Sto C x := by first | exact Or.inl rfl | exact Or.inr ⟨rfl, rfl⟩)
    (hs : ∀ env : PySem.Env, env.scope = C.sc → swapsWith e (some (.Name x pos')) pos.line env = pure false := by first | (intro _ _; rfl) | (intro env e; cases env; cases e; rfl)) : Run C G (.Assign [.Name x pos'] e pos :: rest) D := run_setP h (fun b p => by rw [p]; exact k) hi hN hx hs
theorem run_setL {P : List α → Prop} (h : EvR C G e (.ls P)) (k : ∀ a, P a → Run C (G.set i (.ls a)) rest D) (hi : i < G.length := by exact Nat.le_of_ble_eq_true rfl) (hN : C.N[i]? = some x := by rfl) (hx : Sto C x := by first | exact Or.inl rfl | exact Or.inr ⟨rfl, rfl⟩)
    (hs : ∀ env : PySem.Env, env.scope = C.sc → swapsWith e (some (.Name x pos')) pos.line env = pure false := by first | (intro _ _; rfl) | (intro env e; cases env; cases e; rfl)) : Run C G (.Assign [.Name x pos'] e pos :: rest) D :=
  run_asg (K := fun G' => ∃ a, P a ∧ G' = G.set i (.ls a)) hN hx hs h (fun B σ H v H2 E ⟨l, p, vs, xs, ev, n, h1, r, px⟩ => ⟨_, ⟨xs, px, rfl⟩, by rw [ev]; exact E.set_new hi n l ⟨vs, h1, r⟩⟩) fun G' ⟨a, p, e⟩ => by rw [e]; exact k a p
theorem Env.set_ro {d : Option Addr} {B H H1 : Hp} {σ : L2.St} {p : Addr} {vs : List V} {xs : List α} (E : Env d B G σ H) (hi : i < G.length) (hp : H p = none) (k : Le d H H1) (h1 : H1 p = some (.lst vs)) (r : Reps H1 vs xs) : Env d B (G.set i (.ro xs)) (σ.set i (some (.ref p))) H1 := by
  obtain ⟨le, D, ln, own, h⟩ := E
  have hg := h.go D k
  refine ⟨le.trans k, D, by rw [List.length_set, List.length_set]; exact ln, own, hg.free, hg.cell, fun j s e => ?_⟩
  rcases slot_other e with ⟨rfl, rfl, _⟩ | ⟨hj, e⟩
  · exact ⟨p, vs, by rw [List.getElem?_set_self (by rw [ln]; exact hi)]; rfl, h.free p hp, (D.le le).ne hp, h1, r⟩
  · rw [sig_other hj]
    exact hg.slots j s e
theorem run_setR {P : List α → Prop} (h : EvR C G e (.ls P)) (k : ∀ a, P a → Run C (G.set i (.ro a)) rest D) (hi : i < G.length := by exact Nat.le_of_ble_eq_true rfl) (hN : C.N[i]? = some x := by rfl) (hx : Sto C x := by first | exact Or.inl rfl | exact Or.inr ⟨rfl, rfl⟩)
    (hs : ∀ env : PySem.Env, env.scope = C.sc → swapsWith e (some (.Name x pos')) pos.line env = pure false := by first | (intro _ _; rfl) | (intro env e; cases env; cases e; rfl)) : Run C G (.Assign [.Name x pos'] e pos :: rest) D :=
  run_asg (K := fun G' => ∃ a, P a ∧ G' = G.set i (.ro a)) hN hx hs h (fun B σ H v H2 E ⟨l, p, vs, xs, ev, n, h1, r, px⟩ => ⟨_, ⟨xs, px, rfl⟩, by rw [ev]; exact E.set_ro hi n l h1 r⟩) fun G' ⟨a, p, e⟩ => by rw [e]; exact k a p
theorem run_asgLc {elt tg iter : Expr} {ifs : List Expr} {scope : Scope} {own : List (Str × Nat)} {lpos : Pos} {r : Ret} {K : List Slot → Prop} (hN : C.N[i]? = some x) (hx : C.sc.names.lookup x = some .local) (hk0 : C.sc.kind = .function) (hln : (pos'.line == lpos.line) = true)
    (han : (scope.names.any fun (n, k) => n == x && (k == .local || k == .cell)) = false) (hs : ∀ env x, foldedSetIterable iter env x = pure x) (h : LcOk C G elt tg iter ifs scope own r)
    (hk : ∀ B σ H v H2, Env C.d B G σ H → retIs C.d H r v H2 → ∃ G', K G' ∧ Env C.d B G' (σ.set i (some v)) H2) (k : ∀ G', K G' → Run C G' rest D) : Run C G (.Assign [.Name x pos'] (.ListComp elt [⟨tg, iter, ifs, 0⟩] scope lpos) pos :: rest) D := fun B σ H E => by
  obtain ⟨g, tt, te, h1, h2⟩ := h
  refine tSs_of (t := tSeq (tAsg (tLc (tI C tg iter) g tt te (own.map (·.2))) (gName i)) (tSs C rest)) (fun X ok => pss_cons (ps_setLc ok.calm (by rw [ok.N]; exact ok.nd) (by rw [ok.N]; exact hN) (by rw [ok.sc]; exact hx)
    (sw_true (by rw [ok.sc]; exact hk0) (by rw [ok.sc]; exact hx) hln han) (pi_tI ok) (h1 X ok).1 (h1 X ok).2.1 (h1 X ok).2.2.1 (h1 X ok).2.2.2 (hs _)) (pss_tS ok)) ?_
  refine h2 B σ H E (fun v H2 => tSs C rest (ends C.d B D) (σ.set i (some v)) H2) fun v H2 hv => ?_
  obtain ⟨G', hG, E'⟩ := hk B σ H v H2 E hv
  exact k G' hG B _ H2 E'
theorem run_setLcR {elt tg iter : Expr} {ifs : List Expr} {scope : Scope} {own : List (Str × Nat)} {lpos : Pos} {P : List α → Prop} (h : LcOk C G elt tg iter ifs scope own (.ls P)) (k : ∀ a, P a → Run C (G.set i (.ro a)) rest D) (hi : i < G.length := by exact Nat.le_of_ble_eq_true rfl) (hN : C.N[i]? = some x := by rfl)
    (hx : C.sc.names.lookup x = some .local := by rfl) (hk0 : C.sc.kind = .function := by rfl) (hln : (pos'.line == lpos.line) = true := by rfl) (han : (scope.names.any fun (n, k) => n == x && (k == .local || k == .cell)) = false := by decide +kernel)
    (hs : ∀ env x, foldedSetIterable iter env x = pure x := by intro _ _; rfl) : Run C G (.Assign [.Name x pos'] (.ListComp elt [⟨tg, iter, ifs, 0⟩] scope lpos) pos :: rest) D :=
  run_asgLc (K := fun G' => ∃ a, P a ∧ G' = G.set i (.ro a)) hN hx hk0 hln han hs h (fun B σ H v H2 E ⟨l, p, vs, xs, ev, n, h1, r, px⟩ => ⟨_, ⟨xs, px, rfl⟩, by rw [ev]; exact E.set_ro hi n l h1 r⟩) fun G' ⟨a, p, e⟩ => by rw [e]; exact k a p
theorem run_setLcL {elt tg iter : Expr} {ifs : List Expr} {scope : Scope} {own : List (Str × Nat)} {lpos : Pos} {P : List α → Prop} (h : LcOk C G elt tg iter ifs scope own (.ls P)) (k : ∀ a, P a → Run C (G.set i (.ls a)) rest D) (hi : i < G.length := by exact Nat.le_of_ble_eq_true rfl) (hN : C.N[i]? = some x := by rfl)
    (hx : C.sc.names.lookup x = some .local := by rfl) (hk0 : C.sc.kind = .function := by rfl) (hln : (pos'.line == lpos.line) = true := by rfl) (han : (scope.names.any fun (n, k) => n == x && (k == .local || k == .cell)) = false := by decide +kernel)
    (hs : ∀ env x, foldedSetIterable iter env x = pure x := by intro _ _; rfl) : Run C G (.Assign [.Name x pos'] (.ListComp elt [⟨tg, iter, ifs, 0⟩] scope lpos) pos :: rest) D :=
  run_asgLc (K := fun G' => ∃ a, P a ∧ G' = G.set i (.ls a)) hN hx hk0 hln han hs h (fun B σ H v H2 E ⟨l, p, vs, xs, ev, n, h1, r, px⟩ => ⟨_, ⟨xs, px, rfl⟩, by rw [ev]; exact E.set_new hi n l ⟨vs, h1, r⟩⟩) fun G' ⟨a, p, e⟩ => by rw [e]; exact k a p
end
section
variable {e c : Expr} {pos : Pos} {rest body orelse : List Stmt} {D : GEnds}
theorem run_expr {r : Ret} (h : EvR C G e r) (k : Run C G rest D) (hs : ∀ env, swapsWith e none pos.line env = pure false := by intro _; rfl) : Run C G (.Expr e pos :: rest) D := fun B σ H E => by
  refine tSs_of (t := tSeq (tDrop (tE C e)) (tSs C rest)) (fun X ok => pss_cons (ps_expr (pe_tE ok) (hs _)) (pss_tS ok)) ?_
  exact h B σ H E _ fun v H2 hv => k B σ H2 (E.go hv.1)
theorem run_if {b : Bool} (h : EvT C G c (· = b)) (h1 : b = true → Run C G body { D with nx := fun G' => Run C G' rest D }) (h2 : b = false → Run C G orelse { D with nx := fun G' => Run C G' rest D }) : Run C G (.If c body orelse pos :: rest) D := fun B σ H E => by
  refine tSs_of (t := tSeq (tIfS (tT C c) (tSs C body) (tSs C orelse)) (tSs C rest)) (fun X ok => pss_cons (ps_if (pt_tT ok) (pss_tS ok) (pss_tS ok)) (pss_tS ok)) ?_
  refine h B σ H E _ fun z H1 l p => ?_
  have conv : ∀ {sts : List Stmt}, Run C G sts { D with nx := fun G' => Run C G' rest D } → tSs C sts { ends C.d B D with nx := tSs C rest (ends C.d B D) } σ H1 := fun {sts} hr => by
    have q := hr B σ H1 (E.go l)
    intro X ok pins s I
    refine thn (q X ok pins s I) fun f s1 q => ?_
    cases f with
    | next =>
      obtain ⟨σ', H', I', G', hG, E'⟩ := q
      exact ⟨σ', H', I', hG B σ' H' E'⟩
    | ret v => exact q
    | brk => exact q
    | cont => exact q
  cases z with
  | true => exact iteT (conv (h1 p.symm))
  | false => exact iteF (conv (h2 p.symm))
theorem run_ifP {P : Bool → Prop} (h : EvT C G c P) (h1 : P true → Run C G body { D with nx := fun G' => Run C G' rest D }) (h2 : P false → Run C G orelse { D with nx := fun G' => Run C G' rest D }) : Run C G (.If c body orelse pos :: rest) D := fun B σ H E => by
  refine tSs_of (t := tSeq (tIfS (tT C c) (tSs C body) (tSs C orelse)) (tSs C rest)) (fun X ok => pss_cons (ps_if (pt_tT ok) (pss_tS ok) (pss_tS ok)) (pss_tS ok)) ?_
  refine h B σ H E _ fun z H1 l p => ?_
  have conv : ∀ {sts : List Stmt}, Run C G sts { D with nx := fun G' => Run C G' rest D } → tSs C sts { ends C.d B D with nx := tSs C rest (ends C.d B D) } σ H1 := fun {sts} hr => by
    have q := hr B σ H1 (E.go l)
    intro X ok pins s I
    refine thn (q X ok pins s I) fun f s1 q => ?_
    cases f with
    | next =>
      obtain ⟨σ', H', I', G', hG, E'⟩ := q
      exact ⟨σ', H', I', hG B σ' H' E'⟩
    | ret v => exact q
    | brk => exact q
    | cont => exact q
  cases z with
  | true => exact iteT (conv (h1 p))
  | false => exact iteF (conv (h2 p))
theorem run_while (W : Nat → List Slot → Prop) (h0 : ∃ m, W m G) (hs : ∀ m G', W m G' → ∃ b, EvT C G' c (· = b) ∧ (b = true → Run C G' body { D with nx := fun G'' => ∃ m', m' < m ∧ W m' G'', ct := fun G'' => ∃ m', m' < m ∧ W m' G'', bk := fun G'' => Run C G'' rest D }) ∧ (b = false → Run C G' rest D)) :
    Run C G (.While c body [] pos :: rest) D := fun B σ H E => by
  refine tSs_of (t := tSeq (tWhile (tT C c) (tSs C body)) (tSs C rest)) (fun X ok => pss_cons (ps_while (never ok) (pt_tT ok) (pss_tS ok)) (pss_tS ok)) ?_
  obtain ⟨m0, w0⟩ := h0
  refine ⟨fun m σ' H' => ∃ G', W m G' ∧ Env C.d B G' σ' H', ⟨m0, G, w0, E⟩, ?_⟩
  rintro m σ' H' ⟨G', w, E'⟩
  obtain ⟨b, ht, h1, h2⟩ := hs m G' w
  refine ht B σ' H' E' _ fun z H1 l p => ?_
  cases z with
  | false => exact iteF (h2 p.symm B σ' H1 (E'.go l))
  | true =>
    refine iteT ⟨fun σ2 H2 => ∃ m', m' < m ∧ ∃ G2, W m' G2 ∧ Env C.d B G2 σ2 H2, fun σ2 H2 z => z, ?_⟩
    have q := h1 p.symm B σ' H1 (E'.go l)
    intro X ok pins s I
    refine thn (q X ok pins s I) fun f s1 q => ?_
    cases f with
    | next =>
      obtain ⟨σ3, H3, I3, G3, ⟨m', hm, w3⟩, E3⟩ := q
      exact ⟨σ3, H3, I3, m', hm, G3, w3, E3⟩
    | cont =>
      obtain ⟨σ3, H3, I3, G3, ⟨m', hm, w3⟩, E3⟩ := q
      exact ⟨σ3, H3, I3, m', hm, G3, w3, E3⟩
    | brk =>
      obtain ⟨σ3, H3, I3, G3, w3, E3⟩ := q
      exact ⟨σ3, H3, I3, w3 B σ3 H3 E3⟩
    | ret v => exact q
theorem run_never {sts : List Stmt} (h : False) : Run C G sts D := h.elim
end
theorem args_env {d : Option Addr} {H : Hp} : ∀ {vs : List V} {ss : List Slot}, ArgsOk d H vs ss → vs.length = ss.length ∧ ∀ (i : Nat) (s : Slot), ss[i]? = some s → ∃ v, vs[i]? = some v ∧ argIs d H v s
  | [], [], _ => ⟨rfl, fun i s e => by simp at e⟩
  | [], _ :: _, h => h.elim
  | _ :: _, [], h => h.elim
  | v :: vs, s :: ss, h => by
    obtain ⟨h1, h2⟩ := args_env h.2
    refine ⟨by rw [List.length_cons, List.length_cons, h1], fun i s' e => ?_⟩
    cases i with
    | zero =>
      have e' : s = s' := by simpa using e
      subst e'
      exact ⟨v, rfl, h.1⟩
    | succ i =>
      obtain ⟨w, g1, g2⟩ := h2 i s' (by simpa using e)
      exact ⟨w, by simpa using g1, g2⟩
theorem argIs.slot {d : Option Addr} {H : Hp} {v : V} {s : Slot} {i : Nat} (h : argIs d H v s) : slotIs d H H (fun _ => none) i (some v) s := by
  cases s with
  | ls xs => obtain ⟨p, vs, e, n, w, h1, r⟩ := h; rw [n] at h1; cases h1
  | dk kvs => obtain ⟨p, vs, e, n, w, h1, r⟩ := h; rw [n] at h1; cases h1
  | dt kvs => obtain ⟨p, vs, e, n, w, h1, r⟩ := h; rw [n] at h1; cases h1
  | ob a C dx fs P => obtain ⟨e, n, w, h1, r⟩ := h; rw [n] at h1; cases h1
  | fz a u P => exact h
  | no => exact h
  | im x => exact h
  | ro x => exact h
  | rk x => exact h
  | di => exact h
theorem env_start {d : Option Addr} {H : Hp} {vs : List V} {ss : List Slot} {N : List Str} (D : DiceAt d H) (h : ArgsOk d H vs ss) (hl : ss.length ≤ N.length) : Env d H (ss ++ List.replicate (N.length - ss.length) .no) (start N vs) H := by
  obtain ⟨h1, h2⟩ := args_env h
  refine ⟨Le.refl _ _, D, ?_, fun _ => none, ⟨fun _ _ => rfl, fun a i e => (by cases e), fun i s e => ?_⟩⟩
  · unfold L2.start
    rw [List.length_append, List.length_append, List.length_map, List.length_replicate, List.length_replicate, h1]
  · unfold L2.start
    by_cases hi : i < ss.length
    · rw [List.getElem?_append_left hi] at e
      obtain ⟨v, g1, g2⟩ := h2 i s e
      rw [List.getElem?_append_left (by rw [List.length_map, h1]; exact hi), List.getElem?_map, g1]
      exact g2.slot
    · rw [List.getElem?_append_right (by omega)] at e
      rw [List.getElem?_replicate] at e
      split at e
      · cases e
        trivial
      · cases e
theorem fn_okF {β : Type} {T : Tx} {dice : Bool} {args : β → List Slot} {pre : β → Prop} {post : β → Ret} {k : Nat} {nm q : Str} {N ps : List Str} {params : Arguments} {body : List Stmt} {scope : Scope} {f : Addr} {fd : FuncData}
    (F : FunD T.K nm q params body scope [] [] f fd) (S : FnScope N ps scope) (hl : ∀ b, (args b).length = ps.length)
    (h : ∀ b d, (dice = false → d = none) → pre b → Run ⟨T, N, scope, k, d, fun _ => true⟩ (args b ++ List.replicate (N.length - ps.length) .no) body { nx := fun _ => post b = .non, rt := post b }) : FnOk T.P T.w T.K T.mg T.base CX0 (k + 1) f fd ps (spC dice args pre post) := by
  refine F.ok S (fun vs H Q E hsp => ?_) (fun cdv A outer s H vs Q E hr hsp => ?_)
  · obtain ⟨b, d, _, _, _, ha, _⟩ := hsp
    rw [(args_env ha).1, hl b]
  · obtain ⟨b, d, hd, hp, D, ha, hq⟩ := hsp
    have hpl : ps.length ≤ N.length := by
      have := congrArg List.length S.pre
      rw [List.length_take] at this
      omega
    have E0 := env_start D ha (by rw [hl b]; exact hpl)
    rw [hl b] at E0
    have hrun := h b d hd hp H (start N vs) H E0
    refine ⟨tSs ⟨T, N, scope, k, d, fun _ => true⟩ body, PSs.nox (pss_tS ⟨rfl, rfl, rfl, rfl, rfl, rfl, S.nd, rfl, rfl, hr, rfl, fun _ _ => rfl⟩), ?_⟩
    intro X ok pins s1 I
    refine thn (hrun X ok pins s1 I) fun fl s2 q => ?_
    cases fl with
    | next =>
      obtain ⟨σ', H', I', G', hG, E'⟩ := q
      exact ⟨σ', H', I', hq _ _ ⟨E'.le, by rw [show post b = .non from hG]; rfl⟩⟩
    | ret u =>
      obtain ⟨v, σ', H', I', r, hv⟩ := q
      exact ⟨v, σ', H', I', r, hq _ _ hv⟩
    | brk => obtain ⟨_, _, _, _, z, _⟩ := q; exact z.elim
    | cont => obtain ⟨_, _, _, _, z, _⟩ := q; exact z.elim
theorem fn_ok {β : Type} {T : Tx} {dice : Bool} {args : β → List Slot} {pre : β → Prop} {post : β → Ret} {k : Nat} {x : Str} {N ps : List Str} {params : Arguments} {body : List Stmt} {scope : Scope} {f : Addr} {fd : FuncData}
    (F : FunD T.K x x params body scope [] [] f fd) (hm : T.mg x = some (.ref f)) (S : FnScope N ps scope) (hb : Binds T.K fd ps []) (hl : ∀ b, (args b).length = ps.length)
    (h : ∀ b d, (dice = false → d = none) → pre b → Run ⟨T, N, scope, k, d, fun _ => true⟩ (args b ++ List.replicate (N.length - ps.length) .no) body { nx := fun _ => post b = .non, rt := post b }) : Fn T (k + 1) x (spC dice args pre post) := by
  exact ⟨f, fd, ps, [], [], spC dice args pre post, fn_okF F S hl h, hm, F.kp, hb, .nil, fun vs H Q E z => by rw [List.append_nil]; exact z⟩
end Mk
-- MkBlt
namespace Mk
open Im (rep)
open PySem PySem.Spec PyProof.Rows L2
variable {C : Cg} {G : List Slot}
def nmOk (s : Str) : Bool := decide (1 ≤ s.length) && (decide (s.length ≤ 8) && s.cps.toList.all fun c => decide (97 ≤ c) && decide (c ≤ 122))
structure Nm where
  s : Str
  ok : nmOk s = true
theorem Nm.ext {a b : Nm} (h : a.s = b.s) : a = b := by
  obtain ⟨x, p⟩ := a
  obtain ⟨y, q⟩ := b
  have e : x = y := h
  subst e
  rfl
instance : DecidableEq Nm := fun a b => decidable_of_iff (a.s = b.s) ⟨Nm.ext, fun h => by rw [h]⟩
instance : Im Nm := ⟨fun _ v x => v = .str x.s, fun _ h => h⟩
theorem Nm.strOk (a : Nm) : PyData.strOk a.s = true := by
  have h := a.ok
  unfold nmOk at h
  simp only [Bool.and_eq_true, List.all_eq_true, decide_eq_true_eq] at h
  unfold PyData.strOk
  rw [← Array.all_toList, List.all_eq_true]
  intro c hc
  have := (h.2.2 c hc).2
  exact decide_eq_true (by omega)
instance : Dat Nm where
  data x := .str x.s
  dep := 0
  depth x := by simp [PyData.depth]
  lay x := by simp only [PyData.canLay0]; exact x.strOk
  dp h := by cases h; exact .str _
  inj := by
    intro x y
    simp only [PyData.eqv, beq_iff_eq]
    exact ⟨Nm.ext, fun h => by rw [h]⟩
theorem reps_nm {H : Hp} : ∀ {vs : List V} {xs : List Nm}, Reps H vs xs ↔ vs = xs.map fun n => V.str n.s
  | [], [] => by simp [Reps]
  | [], _ :: _ => by simp [Reps]
  | _ :: _, [] => by simp [Reps]
  | v :: vs, x :: xs => by
    rw [List.map_cons, List.cons.injEq]
    exact and_congr Iff.rfl reps_nm
structure Blt (T : Tx) : Prop where
  all : T.mg ("all" : Str) = none
  any : T.mg ("any" : Str) = none
  len : T.mg ("len" : Str) = none
  tuple : T.mg ("tuple" : Str) = none
  list : T.mg ("list" : Str) = none
  sorted : T.mg ("sorted" : Str) = none
  set : T.mg ("set" : Str) = none
  zip : T.mg ("zip" : Str) = none
  enumerate : T.mg ("enumerate" : Str) = none
  range : T.mg ("range" : Str) = none
  max : T.mg ("max" : Str) = none
  min : T.mg ("min" : Str) = none
  abs : T.mg ("abs" : Str) = none
  int : T.mg ("int" : Str) = none
  dict : T.mg ("dict" : Str) = none
  str : T.mg ("str" : Str) = none
  bool : T.mg ("bool" : Str) = none
  isinstance : T.mg ("isinstance" : Str) = none
def SeqIs {α : Type} [Im α] (d : Option Addr) (H : Hp) (v : V) (xs : List α) : Prop := ∃ a vs, v = .ref a ∧ (H a = some (.lst vs) ∨ H a = some (.tup vs)) ∧ d ≠ some a ∧ Reps H vs xs
def EvSq (C : Cg) (G : List Slot) (e : Expr) {α : Type} [Im α] (P : List α → Prop) : Prop := ∀ B σ H, Env C.d B G σ H → ∀ Q : VK, (∀ v H2 xs, Le C.d H H2 → P xs → SeqIs C.d H2 v xs → Q v H2) → tE C e σ H Q
section
variable {α : Type} [Im α] {e : Expr}
theorem DiceAt.neT {d : Option Addr} {H : Hp} {a : Addr} {vs : List V} (D : DiceAt d H) (h : H a = some (.tup vs)) : d ≠ some a := fun z => by
  obtain ⟨o, h1, _, _, _, e⟩ := D a z
  rw [h] at h1
  cases h1
  cases e
theorem es_im {P : List α → Prop} (h : EvR C G e (.im P)) : EvSq C G e P := fun B σ H E Q q => h B σ H E Q fun v H2 ⟨l, xs, p, a, vs, ev, ha, r⟩ => q v H2 xs l p ⟨a, vs, ev, .inr ha, (E.diceH.le l).neT ha, r⟩
theorem es_ls {P : List α → Prop} (h : EvR C G e (.ls P)) : EvSq C G e P := fun B σ H E Q q => h B σ H E Q fun v H2 ⟨l, a, vs, xs, ev, n, ha, r, p⟩ => q v H2 xs l p ⟨a, vs, ev, .inl ha, E.diceH.ne n, r⟩
theorem es_ro {i : Nat} {x : Str} {pos : Pos} {xs : List α} (hG : G[i]? = some (.ro xs)) (hN : C.N[i]? = some x := by rfl) (hv : Vis C.sc x := by first | exact Or.inl rfl | exact Or.inr (Or.inl rfl) | exact Or.inr (Or.inr rfl))
    (hd : (x == ("__debug__" : Str)) = false := by decide) (hcd : (x == ("__classdict__" : Str)) = false := by decide) : EvSq C G (.Name x pos) (· = xs) := fun B σ H E Q q => by
  obtain ⟨p, vs, h1, h2, h3, h4, _⟩ := E.ro hG
  exact tE_of (t := tVar i) (fun X ok => pe_var (i := i) (by rw [ok.N]; exact hN) (by rw [ok.sc]; exact hv) hd hcd) ⟨_, h1, q _ H xs (Le.refl _ _) rfl ⟨p, vs, rfl, .inl h3, h2, h4⟩⟩
theorem es_own {i : Nat} {x : Str} {pos : Pos} {xs : List α} (hG : G[i]? = some (.ls xs)) (hN : C.N[i]? = some x := by rfl) (hv : Vis C.sc x := by first | exact Or.inl rfl | exact Or.inr (Or.inl rfl) | exact Or.inr (Or.inr rfl))
    (hd : (x == ("__debug__" : Str)) = false := by decide) (hcd : (x == ("__classdict__" : Str)) = false := by decide) : EvSq C G (.Name x pos) (· = xs) := fun B σ H E Q q => by
  obtain ⟨p, vs, h1, h0, h2, h3, h4, _⟩ := E.ls hG
  exact tE_of (t := tVar i) (fun X ok => pe_var (i := i) (by rw [ok.N]; exact hN) (by rw [ok.sc]; exact hv) hd hcd) ⟨_, h1, q _ H xs (Le.refl _ _) rfl ⟨p, vs, rfl, .inl h3, h2, h4⟩⟩
theorem SeqIs.le {d : Option Addr} {H H1 : Hp} {v : V} {xs : List α} (k : Le d H H1) (h : SeqIs d H v xs) : SeqIs d H1 v xs := by
  obtain ⟨a, vs, e, h1, n, r⟩ := h
  refine ⟨a, vs, e, ?_, n, r.keep k.tle⟩
  rcases h1 with h1 | h1
  · exact .inl (k.keep h1 n)
  · exact .inr (k.keep h1 n)
theorem SeqIs.sq {K : PySem.W.Frag} {H : Hp} {a : Addr} {vs : List V} (h : H a = some (.lst vs) ∨ H a = some (.tup vs)) : SqL K H a vs ∨ SqT K H a vs := by
  rcases h with h | h
  · exact .inl (.inl (.inl h))
  · exact .inr (.inl (.inl h))
theorem ev_blt1 {x : Str} {id : String} {p pos : Pos} {f : List V → Hp → VK → Prop} (hc : ∀ X, Cok C X → CallR X (.builtin id) f) (hm : C.T.mg x = none) (hv : bootBuiltins x = some (.builtin id)) {σ : L2.St} {H : Hp} {Q : VK} (h : tE C e σ H (fun v H1 => f [v] H1 Q))
    (hg : C.sc.names.lookup x = some .globalImplicit) (hn : x ≠ ("__name__" : Str)) (hdb : (x == ("__debug__" : Str)) = false) (hs : ∀ env, starEach [e] env = (false, eval e env) :: starEach [] env) : tE C (.Call (.Name x p) [e] [] pos) σ H Q :=
  tE_of (t := tCB f (tCons (tE C e) tNil)) (fun X ok => pe_callB (hc X ok) (gl_of ok hg) (by rw [ok.mg]; exact hm) hv (pa_cons (pe_tE ok) pa_nil (hs _)) hn hdb (hs _) rfl) h
theorem ev_ty1 {x : Str} {id : String} {p pos : Pos} {f : List V → Hp → VK → Prop} (hc : ∀ X, Cok C X → CallR X (.type id) f) (hm : C.T.mg x = none) (hv : bootBuiltins x = some (.type id)) {σ : L2.St} {H : Hp} {Q : VK} (h : tE C e σ H (fun v H1 => f [v] H1 Q))
    (hg : C.sc.names.lookup x = some .globalImplicit) (hn : x ≠ ("__name__" : Str)) (hdb : (x == ("__debug__" : Str)) = false) (hs : ∀ env, starEach [e] env = (false, eval e env) :: starEach [] env) : tE C (.Call (.Name x p) [e] [] pos) σ H Q :=
  tE_of (t := tCB f (tCons (tE C e) tNil)) (fun X ok => pe_callTy (hc X ok) (gl_of ok hg) (by rw [ok.mg]; exact hm) hv (pa_cons (pe_tE ok) pa_nil (hs _)) hn hdb (hs _) rfl) h
theorem ev_all {p pos : Pos} {bs : List Bool} (b : Blt C.T) (h : EvR C G e (.ls (· = bs))) (hg : C.sc.names.lookup ("all" : Str) = some .globalImplicit := by rfl) (hs : ∀ env, starEach [e] env = (false, eval e env) :: starEach [] env := by intro _; rfl) :
    EvR C G (.Call (.Name "all" p) [e] [] pos) (.im (· = bs.all id)) := fun B σ H E Q q => by
  refine ev_blt1 (f := rAll C.T.K) (fun X ok => by rw [← ok.K]; exact cr_all ok.calm) b.all PyProof.Rows.boot_all ?_ hg (by decide) (by decide) hs
  refine h B σ H E _ fun v H1 ⟨l, a, vs, xs, ev, n, ha, r, px⟩ => ?_
  exact ⟨a, xs, by rw [ev], .inl (.inl (by rw [ha, reps_bl.mp r])), q _ H1 ⟨l, _, by rw [px], rfl⟩⟩
theorem ev_any {p pos : Pos} {bs : List Bool} (b : Blt C.T) (h : EvR C G e (.ls (· = bs))) (hg : C.sc.names.lookup ("any" : Str) = some .globalImplicit := by rfl) (hs : ∀ env, starEach [e] env = (false, eval e env) :: starEach [] env := by intro _; rfl) :
    EvR C G (.Call (.Name "any" p) [e] [] pos) (.im (· = bs.any id)) := fun B σ H E Q q => by
  refine ev_blt1 (f := rAny C.T.K) (fun X ok => by rw [← ok.K]; exact cr_any ok.calm) b.any PyProof.Rows.boot_any ?_ hg (by decide) (by decide) hs
  refine h B σ H E _ fun v H1 ⟨l, a, vs, xs, ev, n, ha, r, px⟩ => ?_
  exact ⟨a, xs, by rw [ev], .inl (.inl (by rw [ha, reps_bl.mp r])), q _ H1 ⟨l, _, by rw [px], rfl⟩⟩
theorem ev_len {p pos : Pos} {P : List α → Prop} {n : Int} (b : Blt C.T) (h : EvSq C G e P) (hn : ∀ xs, P xs → (xs.length : Int) = n) (hg : C.sc.names.lookup ("len" : Str) = some .globalImplicit := by rfl) (hs : ∀ env, starEach [e] env = (false, eval e env) :: starEach [] env := by intro _; rfl) :
    EvR C G (.Call (.Name "len" p) [e] [] pos) (.im (· = n)) := fun B σ H E Q q => by
  refine ev_blt1 (f := fun xs H Q => ∃ x n, xs = [x] ∧ LenV C.T.K x H n ∧ Q (V.int n) H) (fun X ok => by rw [← ok.K]; exact call_len) b.len boot_len ?_ hg (by decide) (by decide) hs
  refine h B σ H E _ fun v H1 xs l px ⟨a, vs, ev, ha, nd, r⟩ => ?_
  subst ev
  refine ⟨_, vs.length, rfl, ?_, q _ H1 ⟨l, _, rfl, by rw [r.len, hn xs px]; rfl⟩⟩
  rcases SeqIs.sq (K := C.T.K) ha with z | z
  · exact .inl ⟨vs, z, rfl⟩
  · exact .inr ⟨vs, z, rfl⟩
theorem ev_lenS {p pos : Pos} {z : Str} (b : Blt C.T) (h : EvR C G e (.im (· = z))) (hz : z.length ≤ 100000) (hg : C.sc.names.lookup ("len" : Str) = some .globalImplicit := by rfl) (hs : ∀ env, starEach [e] env = (false, eval e env) :: starEach [] env := by intro _; rfl) :
    EvR C G (.Call (.Name "len" p) [e] [] pos) (.im (· = (z.length : Int))) := fun B σ H E Q q => by
  refine ev_blt1 (f := fun xs H Q => ∃ x n, xs = [x] ∧ LenV C.T.K x H n ∧ Q (V.int n) H) (fun X ok => by rw [← ok.K]; exact call_len) b.len boot_len ?_ hg (by decide) (by decide) hs
  refine h B σ H E _ fun v H1 ⟨l, x, px, r⟩ => ?_
  subst px
  exact ⟨v, _, rfl, by rw [show v = V.str x from r]; exact ⟨Nat.le_trans hz (by rw [sizeLine_eq]; omega), rfl⟩, q _ H1 ⟨l, _, rfl, rfl⟩⟩
theorem ev_tuple {p pos : Pos} {P : List α → Prop} (b : Blt C.T) (h : EvSq C G e P) (hg : C.sc.names.lookup ("tuple" : Str) = some .globalImplicit := by rfl) (hs : ∀ env, starEach [e] env = (false, eval e env) :: starEach [] env := by intro _; rfl) :
    EvR C G (.Call (.Name "tuple" p) [e] [] pos) (.im P) := fun B σ H E Q q => by
  refine ev_ty1 (f := fun xs H Q => ∃ p ys, xs = [V.ref p] ∧ ((SqL C.T.K H p ys ∧ ∀ l, H l = none → Q (V.ref l) (upd H l (.tup ys))) ∨ SqT C.T.K H p ys ∧ Q (V.ref p) H)) (fun X ok => by rw [← ok.K]; exact call_tuple_of) b.tuple PyProof.Rows.boot_tuple ?_ hg (by decide) (by decide) hs
  refine h B σ H E _ fun v H1 xs l px ⟨a, vs, ev, ha, nd, r⟩ => ?_
  refine ⟨a, vs, by rw [ev], ?_⟩
  rcases ha with ha | ha
  · exact .inl ⟨.inl (.inl ha), fun t ht => q _ _ ⟨l.trans (Le.new ht), xs, px, t, vs, rfl, upd_same, r.keep (Le.new (d := none) ht).tle⟩⟩
  · exact .inr ⟨.inl (.inl ha), q _ _ ⟨l, xs, px, a, vs, rfl, ha, r⟩⟩
theorem ev_list {p pos : Pos} {P : List α → Prop} (b : Blt C.T) (h : EvSq C G e P) (hg : C.sc.names.lookup ("list" : Str) = some .globalImplicit := by rfl) (hs : ∀ env, starEach [e] env = (false, eval e env) :: starEach [] env := by intro _; rfl) :
    EvR C G (.Call (.Name "list" p) [e] [] pos) (.ls P) := fun B σ H E Q q => by
  refine ev_ty1 (f := fun xs H Q => ∃ p ys, xs = [V.ref p] ∧ (SqL C.T.K H p ys ∨ SqT C.T.K H p ys) ∧ ∀ l, H l = none → Q (V.ref l) (upd H l (.lst ys))) (fun X ok => by rw [← ok.K]; exact call_list_of) b.list PyProof.Rows.boot_list ?_ hg (by decide) (by decide) hs
  refine h B σ H E _ fun v H1 xs l px ⟨a, vs, ev, ha, nd, r⟩ => ?_
  exact ⟨a, vs, by rw [ev], SeqIs.sq ha, fun t ht => q _ _ ⟨l.trans (Le.new ht), t, vs, xs, rfl, l.free ht, upd_same, r.keep (Le.new (d := none) ht).tle, px⟩⟩
end
theorem inV_nm {H : Hp} {x : Nm} {vs : List V} {xs : List Nm} (r : Reps H vs xs) : inV (.str x.s) vs = decide (x ∈ xs) ∧ vs.all flatV = true := by
  rw [reps_nm.mp r]
  clear r
  induction xs with
  | nil => exact ⟨rfl, rfl⟩
  | cons y ys ih =>
    refine ⟨?_, ?_⟩
    · show (eqV (.str y.s) (.str x.s) || inV (.str x.s) _) = _
      rw [ih.1]
      by_cases e : x = y
      · subst e
        rw [decide_eq_true List.mem_cons_self]
        show ((x.s == x.s) || _) = true
        rw [beq_self_eq_true]; rfl
      · have e2 : (y.s == x.s) = false := by
          rw [beq_eq_false_iff_ne]
          exact fun z => e (Nm.ext z.symm)
        show ((y.s == x.s) || _) = _
        rw [e2, Bool.false_or]
        simp [e]
    · show (true && (ys.map fun n => V.str n.s).all flatV) = true
      rw [ih.2]; rfl
theorem ev_inNm {a b : Expr} {pos : Pos} {x : Nm} {xs : List Nm} (ha : EvR C G a (.im (· = x))) (hb : EvSq C G b (· = xs)) (hm : behindInMarks .In b = false := by rfl) : EvC C G (.Compare a [.In] [b] pos) (· = decide (x ∈ xs)) :=
  mk_evc (t := tOp (rIn C.T.K false) (tE C a) (tE C b)) (fun X ok => by rw [← ok.K]; exact pe_cmpR op_in_seq (pe_tE ok) (pe_tE ok) hm) (fun X ok => by rw [← ok.K]; exact pt_cmpR op_in_seq (pe_tE ok) (pe_tE ok) hm) fun B σ H E Q q =>
    ha B σ H E _ fun v H1 ⟨l, z, p, r⟩ => hb B σ H1 (E.go l) _ fun w H2 ys l2 p2 ⟨c, vs, ew, hc, nd, rs⟩ => by
      subst p2
      have e1 : v = .str x.s := by rw [← p]; exact r
      subst e1
      obtain ⟨i1, i2⟩ := inV_nm (x := x) rs
      exact ⟨c, vs, ew, SeqIs.sq hc, rfl, i2, q _ H2 (l.trans l2) (by rw [i1]; rfl)⟩
theorem ev_niNm {a b : Expr} {pos : Pos} {x : Nm} {xs : List Nm} (ha : EvR C G a (.im (· = x))) (hb : EvSq C G b (· = xs)) (hm : behindInMarks .NotIn b = false := by rfl) : EvC C G (.Compare a [.NotIn] [b] pos) (· = !decide (x ∈ xs)) :=
  mk_evc (t := tOp (rIn C.T.K true) (tE C a) (tE C b)) (fun X ok => by rw [← ok.K]; exact pe_cmpR op_notIn_seq (pe_tE ok) (pe_tE ok) hm) (fun X ok => by rw [← ok.K]; exact pt_cmpR op_notIn_seq (pe_tE ok) (pe_tE ok) hm) fun B σ H E Q q =>
    ha B σ H E _ fun v H1 ⟨l, z, p, r⟩ => hb B σ H1 (E.go l) _ fun w H2 ys l2 p2 ⟨c, vs, ew, hc, nd, rs⟩ => by
      subst p2
      have e1 : v = .str x.s := by rw [← p]; exact r
      subst e1
      obtain ⟨i1, i2⟩ := inV_nm (x := x) rs
      exact ⟨c, vs, ew, SeqIs.sq hc, rfl, i2, q _ H2 (l.trans l2) (by rw [i1]; rfl)⟩
end Mk
-- MkTop
namespace Mk
open Im (rep)
open PySem PySem.Spec PyProof.Rows L2
def top (i : Nat) : Stmt := PySem.Challenge.pw_mostkept_k25_whole_closures_and_papers.main.body.getD i (.Pass ⟨0, 0, 0, 0⟩)
def dG (i : Nat) (x : Str) : He5.DefA := ⟨fun K => He.ga K x, x, x, defArgs (top i), defBody (top i), defScope (top i), [], []⟩
def fn0 : List He5.DefA := [dG 13 "is_integer", dG 14 "is_index", dG 15 "is_name", dG 16 "are_columns", dG 20 "is_row_in", dG 21 "is_row", dG 24 "are_some_of", dG 25 "is_rule_over", dG 28 "require_rule", dG 29 "require_rules", dG 30 "without_columns", dG 31 "with_names", dG 32 "plain_in", dG 38 "are_within", dG 39 "closure_in", dG 40 "is_closed_in", dG 41 "sets_of", dG 42 "triggers_in", dG 43 "follows_in", dG 44 "require_rule_of"]
def fn1 : List He5.DefA := [dG 45 "closure_of", dG 46 "is_closed", dG 47 "closed_sets", dG 48 "triggers", dG 49 "follows", dG 50 "used_rules", dG 51 "row_beside", dG 52 "rule_paper_in", dG 53 "rule_paper", dG 54 "is_derived", dG 55 "shared_by", dG 56 "are_apart", dG 57 "is_rule_paper_in", dG 58 "is_rule_paper", dG 59 "shared_by_all", dG 60 "least_closed", dG 61 "typical_rows", dG 62 "are_typical", dG 64 "_law_dice", dG 65 "_law_pull"]
def fn2 : List He5.DefA := [dG 66 "_law_pick", dG 67 "_law_columns", dG 68 "_law_some", dG 69 "_law_right_side", dG 70 "_law_joined", dG 71 "_law_free_rules", dG 72 "_law_pair_rules", dG 73 "_law_small_rules", dG 74 "_law_rules", dG 75 "_law_subsets", dG 76 "_law_agreement", dG 77 "_law_common", dG 78 "_law_sets_right", dG 79 "_law_follow_right", dG 80 "_law_papers_right", dG 81 "_law_strikes_right", dG 82 "_law_triggers_right", dG 83 "law"]
def fnS : List He5.DefA := [⟨fun K => He.ga K "is_columns", "is_columns", "is_columns", defArgs (top 17), defBody (top 17), defScope (top 17), [], [("least", .int 0)]⟩,
  ⟨fun K => He.ga K "require_columns_rows", "require_columns", "require_columns", defArgs (top 18), defBody (top 18), defScope (top 18), [], []⟩,
  ⟨fun K => He.ga K "require_columns_rules", "require_columns", "require_columns", defArgs (top 26), defBody (top 26), defScope (top 26), [], []⟩]
def inCls : Stmt → List Stmt
  | .ClassDef _ _ _ body _ _ _ _ _ _ _ => body
  | _ => []
def mth (j : Nat) : Stmt := (inCls (top 33)).getD j (.Pass ⟨0, 0, 0, 0⟩)
abbrev gR (K : PySem.W.Frag) : Addr := He.ga K "Rules"
def dM (at_ : PySem.W.Frag → Addr) (j : Nat) (x : Str) (q : Str) : He5.DefA := ⟨at_, x, q, defArgs (mth j), defBody (mth j), defScope (mth j), [], []⟩
def fnC : List He5.DefA := [dM (fun K => He.ma K (gR K) "__init__") 0 "__init__" "Rules.__init__",
  dM (fun K => He.ma K (gR K) "with_rule") 7 "with_rule" "Rules.with_rule",
  dM (fun K => He.ma K (gR K) "struck_all") 10 "struck_all" "Rules.struck_all",
  dM (fun K => He.ma K (gR K) "renamed_by") 12 "renamed_by" "Rules.renamed_by",
  dM (fun K => He.ma K (gR K) "__contains__") 14 "__contains__" "Rules.__contains__",
  dM (fun K => He5.wf K (gR K) "property" "columns") 4 "columns" "Rules.columns",
  dM (fun K => He5.wf K (gR K) "property" "rules") 5 "rules" "Rules.rules",
  dM (fun K => He5.wf K (gR K) "property" "plain") 6 "plain" "Rules.plain",
  dM (fun K => He5.wf K (gR K) "classmethod" "of") 1 "of" "Rules.of"]
def prB (K : PySem.W.Frag) (f : Str) : Bool := He.eqO (PySem.W.findIn K (.ref (gR K)) f) (some (some (.ref (He.ma K (gR K) f)))) && (He.eqO (PySem.W.specialIn K (.ref (He.ma K (gR K) f)) "__get__") (some (some (.builtin "property.__get__"))) &&
  (decide (PySem.W.takesIn K (.ref (He.ma K (gR K) f)) = some true) && (match PySem.W.recIn K (He.ma K (gR K) f) "property" with
    | some (.ref _ :: _) => true
    | _ => false)))
def exB (K : PySem.W.Frag) : Bool := prB K "columns" && (prB K "rules" && (prB K "plain" && (He5.wrapB K (gR K) "classmethod" "classmethod.__get__" "of" && (PySem.W.fnIn K (He5.wf K (gR K) "classmethod" "of") && (PySem.W.readsIn K (gR K) (.type "type") &&
  (He.eqO (PySem.W.specialIn K (.ref (gR K)) "__getattribute__") (some (some (.builtin "type.__getattribute__"))) && (He.eqO (PySem.W.findIn K (.ref (gR K)) "__class__") (some (some (.builtin "object.__class__"))) &&
  (He.eqO (PySem.W.specialIn K (.builtin "object.__class__") "__get__") (some (some (.builtin "getset_descriptor.__get__"))) && (decide (PySem.W.takesIn K (.builtin "object.__class__") = some true) && decide (PySem.W.mroIn K (gR K) (.type "object") = some true))))))))))
def fn : List He5.DefA := fn0 ++ (fn1 ++ (fn2 ++ (fnS ++ fnC)))
def fa0 : List He.Fa := [.glo "is_integer", .glo "is_index", .glo "is_name", .glo "are_columns", .glo "is_row_in", .glo "is_row", .glo "are_some_of", .glo "is_rule_over", .glo "require_rule", .glo "require_rules", .glo "without_columns", .glo "with_names", .glo "plain_in", .glo "are_within", .glo "closure_in", .glo "is_closed_in", .glo "sets_of", .glo "triggers_in", .glo "follows_in", .glo "require_rule_of"]
def fa1 : List He.Fa := [.glo "closure_of", .glo "is_closed", .glo "closed_sets", .glo "triggers", .glo "follows", .glo "used_rules", .glo "row_beside", .glo "rule_paper_in", .glo "rule_paper", .glo "is_derived", .glo "shared_by", .glo "are_apart", .glo "is_rule_paper_in", .glo "is_rule_paper", .glo "shared_by_all", .glo "least_closed", .glo "typical_rows", .glo "are_typical", .glo "_law_dice", .glo "_law_pull"]
def fa2 : List He.Fa := [.glo "_law_pick", .glo "_law_columns", .glo "_law_some", .glo "_law_right_side", .glo "_law_joined", .glo "_law_free_rules", .glo "_law_pair_rules", .glo "_law_small_rules", .glo "_law_rules", .glo "_law_subsets", .glo "_law_agreement", .glo "_law_common", .glo "_law_sets_right", .glo "_law_follow_right", .glo "_law_papers_right", .glo "_law_strikes_right", .glo "_law_triggers_right", .glo "law"]
def faB : List He.Fa := [.free "all", .free "any", .free "len", .free "tuple", .free "list", .free "sorted", .free "set", .free "zip", .free "enumerate", .free "range", .free "max", .free "min", .free "abs", .free "int", .free "dict", .free "str", .free "bool", .free "isinstance"]
def faS : List He.Fa := [.glo "is_columns", .glo "require_columns_rows", .glo "require_columns_rules", .glo "Rules", .int "MOST_SIGNS" 8, .int "MOST_COLUMNS" 8, .int "MAX_RULES" 16, .int "MAX_TYPICAL" 200, .str "SIGNS" "abcdefghijklmnopqrstuvwxyz", .str "DERIVED" "derived", .str "APART" "apart"]
def faC : List He.Fa := [.cls "Rules", .noat "Rules" "own_columns", .noat "Rules" "own_rules", .noat "Rules" "own_plain", .mkr "Rules", .meth "Rules" "with_rule", .meth "Rules" "struck_all", .meth "Rules" "renamed_by", .meth "Rules" "__contains__"]
def fa : List He.Fa := fa0 ++ (fa1 ++ (fa2 ++ (faB ++ (faS ++ faC))))
structure Top (T : Tx) : Prop where
  X : T.K.In T.base
  G : T.base.Ns mainGlobals T.mg
  c : He5.SaysA fa fn T.K
  ex : exB T.K = true
def DefT (T : Tx) (i : Nat) (x : Str) : Prop := ∃ f fd, FunD T.K x x (defArgs (top i)) (defBody (top i)) (defScope (top i)) [] [] f fd ∧ T.mg x = some (.ref f)
section
variable {T : Tx}
theorem def_at (h : Top T) (j : Nat) (i : Nat) (x : Str) (hj : fn[j]? = some (dG i x)) (hg : fa[j]? = some (.glo x)) : DefT T i x := by
  obtain ⟨fd, F⟩ := h.c.def_ j hj
  exact ⟨_, fd, F, He.glo_ok h.X h.G (h.c.fact j hg)⟩
theorem blt (h : Top T) : Blt T := ⟨He.free_ok h.X h.G (h.c.fact 58 rfl), He.free_ok h.X h.G (h.c.fact 59 rfl), He.free_ok h.X h.G (h.c.fact 60 rfl), He.free_ok h.X h.G (h.c.fact 61 rfl), He.free_ok h.X h.G (h.c.fact 62 rfl), He.free_ok h.X h.G (h.c.fact 63 rfl), He.free_ok h.X h.G (h.c.fact 64 rfl), He.free_ok h.X h.G (h.c.fact 65 rfl), He.free_ok h.X h.G (h.c.fact 66 rfl), He.free_ok h.X h.G (h.c.fact 67 rfl), He.free_ok h.X h.G (h.c.fact 68 rfl), He.free_ok h.X h.G (h.c.fact 69 rfl), He.free_ok h.X h.G (h.c.fact 70 rfl), He.free_ok h.X h.G (h.c.fact 71 rfl), He.free_ok h.X h.G (h.c.fact 72 rfl), He.free_ok h.X h.G (h.c.fact 73 rfl), He.free_ok h.X h.G (h.c.fact 74 rfl), He.free_ok h.X h.G (h.c.fact 75 rfl)⟩
theorem at_is_integer (h : Top T) : DefT T 13 "is_integer" := def_at h 0 13 "is_integer" rfl rfl
theorem at_is_index (h : Top T) : DefT T 14 "is_index" := def_at h 1 14 "is_index" rfl rfl
theorem at_is_name (h : Top T) : DefT T 15 "is_name" := def_at h 2 15 "is_name" rfl rfl
theorem at_are_columns (h : Top T) : DefT T 16 "are_columns" := def_at h 3 16 "are_columns" rfl rfl
theorem at_is_row_in (h : Top T) : DefT T 20 "is_row_in" := def_at h 4 20 "is_row_in" rfl rfl
theorem at_is_row (h : Top T) : DefT T 21 "is_row" := def_at h 5 21 "is_row" rfl rfl
theorem at_are_some_of (h : Top T) : DefT T 24 "are_some_of" := def_at h 6 24 "are_some_of" rfl rfl
theorem at_is_rule_over (h : Top T) : DefT T 25 "is_rule_over" := def_at h 7 25 "is_rule_over" rfl rfl
theorem at_require_rule (h : Top T) : DefT T 28 "require_rule" := def_at h 8 28 "require_rule" rfl rfl
theorem at_require_rules (h : Top T) : DefT T 29 "require_rules" := def_at h 9 29 "require_rules" rfl rfl
theorem at_without_columns (h : Top T) : DefT T 30 "without_columns" := def_at h 10 30 "without_columns" rfl rfl
theorem at_with_names (h : Top T) : DefT T 31 "with_names" := def_at h 11 31 "with_names" rfl rfl
theorem at_plain_in (h : Top T) : DefT T 32 "plain_in" := def_at h 12 32 "plain_in" rfl rfl
theorem at_are_within (h : Top T) : DefT T 38 "are_within" := def_at h 13 38 "are_within" rfl rfl
theorem at_closure_in (h : Top T) : DefT T 39 "closure_in" := def_at h 14 39 "closure_in" rfl rfl
theorem at_is_closed_in (h : Top T) : DefT T 40 "is_closed_in" := def_at h 15 40 "is_closed_in" rfl rfl
theorem at_sets_of (h : Top T) : DefT T 41 "sets_of" := def_at h 16 41 "sets_of" rfl rfl
theorem at_triggers_in (h : Top T) : DefT T 42 "triggers_in" := def_at h 17 42 "triggers_in" rfl rfl
theorem at_follows_in (h : Top T) : DefT T 43 "follows_in" := def_at h 18 43 "follows_in" rfl rfl
theorem at_require_rule_of (h : Top T) : DefT T 44 "require_rule_of" := def_at h 19 44 "require_rule_of" rfl rfl
theorem at_closure_of (h : Top T) : DefT T 45 "closure_of" := def_at h 20 45 "closure_of" rfl rfl
theorem at_is_closed (h : Top T) : DefT T 46 "is_closed" := def_at h 21 46 "is_closed" rfl rfl
theorem at_closed_sets (h : Top T) : DefT T 47 "closed_sets" := def_at h 22 47 "closed_sets" rfl rfl
theorem at_triggers (h : Top T) : DefT T 48 "triggers" := def_at h 23 48 "triggers" rfl rfl
theorem at_follows (h : Top T) : DefT T 49 "follows" := def_at h 24 49 "follows" rfl rfl
theorem at_used_rules (h : Top T) : DefT T 50 "used_rules" := def_at h 25 50 "used_rules" rfl rfl
theorem at_row_beside (h : Top T) : DefT T 51 "row_beside" := def_at h 26 51 "row_beside" rfl rfl
theorem at_rule_paper_in (h : Top T) : DefT T 52 "rule_paper_in" := def_at h 27 52 "rule_paper_in" rfl rfl
theorem at_rule_paper (h : Top T) : DefT T 53 "rule_paper" := def_at h 28 53 "rule_paper" rfl rfl
theorem at_is_derived (h : Top T) : DefT T 54 "is_derived" := def_at h 29 54 "is_derived" rfl rfl
theorem at_shared_by (h : Top T) : DefT T 55 "shared_by" := def_at h 30 55 "shared_by" rfl rfl
theorem at_are_apart (h : Top T) : DefT T 56 "are_apart" := def_at h 31 56 "are_apart" rfl rfl
theorem at_is_rule_paper_in (h : Top T) : DefT T 57 "is_rule_paper_in" := def_at h 32 57 "is_rule_paper_in" rfl rfl
theorem at_is_rule_paper (h : Top T) : DefT T 58 "is_rule_paper" := def_at h 33 58 "is_rule_paper" rfl rfl
theorem at_shared_by_all (h : Top T) : DefT T 59 "shared_by_all" := def_at h 34 59 "shared_by_all" rfl rfl
theorem at_least_closed (h : Top T) : DefT T 60 "least_closed" := def_at h 35 60 "least_closed" rfl rfl
theorem at_typical_rows (h : Top T) : DefT T 61 "typical_rows" := def_at h 36 61 "typical_rows" rfl rfl
theorem at_are_typical (h : Top T) : DefT T 62 "are_typical" := def_at h 37 62 "are_typical" rfl rfl
theorem at_law_dice (h : Top T) : DefT T 64 "_law_dice" := def_at h 38 64 "_law_dice" rfl rfl
theorem at_law_pull (h : Top T) : DefT T 65 "_law_pull" := def_at h 39 65 "_law_pull" rfl rfl
theorem at_law_pick (h : Top T) : DefT T 66 "_law_pick" := def_at h 40 66 "_law_pick" rfl rfl
theorem at_law_columns (h : Top T) : DefT T 67 "_law_columns" := def_at h 41 67 "_law_columns" rfl rfl
theorem at_law_some (h : Top T) : DefT T 68 "_law_some" := def_at h 42 68 "_law_some" rfl rfl
theorem at_law_right_side (h : Top T) : DefT T 69 "_law_right_side" := def_at h 43 69 "_law_right_side" rfl rfl
theorem at_law_joined (h : Top T) : DefT T 70 "_law_joined" := def_at h 44 70 "_law_joined" rfl rfl
theorem at_law_free_rules (h : Top T) : DefT T 71 "_law_free_rules" := def_at h 45 71 "_law_free_rules" rfl rfl
theorem at_law_pair_rules (h : Top T) : DefT T 72 "_law_pair_rules" := def_at h 46 72 "_law_pair_rules" rfl rfl
theorem at_law_small_rules (h : Top T) : DefT T 73 "_law_small_rules" := def_at h 47 73 "_law_small_rules" rfl rfl
theorem at_law_rules (h : Top T) : DefT T 74 "_law_rules" := def_at h 48 74 "_law_rules" rfl rfl
theorem at_law_subsets (h : Top T) : DefT T 75 "_law_subsets" := def_at h 49 75 "_law_subsets" rfl rfl
theorem at_law_agreement (h : Top T) : DefT T 76 "_law_agreement" := def_at h 50 76 "_law_agreement" rfl rfl
theorem at_law_common (h : Top T) : DefT T 77 "_law_common" := def_at h 51 77 "_law_common" rfl rfl
theorem at_law_sets_right (h : Top T) : DefT T 78 "_law_sets_right" := def_at h 52 78 "_law_sets_right" rfl rfl
theorem at_law_follow_right (h : Top T) : DefT T 79 "_law_follow_right" := def_at h 53 79 "_law_follow_right" rfl rfl
theorem at_law_papers_right (h : Top T) : DefT T 80 "_law_papers_right" := def_at h 54 80 "_law_papers_right" rfl rfl
theorem at_law_strikes_right (h : Top T) : DefT T 81 "_law_strikes_right" := def_at h 55 81 "_law_strikes_right" rfl rfl
theorem at_law_triggers_right (h : Top T) : DefT T 82 "_law_triggers_right" := def_at h 56 82 "_law_triggers_right" rfl rfl
theorem at_law (h : Top T) : DefT T 83 "law" := def_at h 57 83 "law" rfl rfl
theorem g_is_columns (h : Top T) : T.mg "is_columns" = some (.ref (He.ga T.K "is_columns")) := He.glo_ok h.X h.G (h.c.fact 76 rfl)
theorem g_require_columns_rows (h : Top T) : T.mg "require_columns_rows" = some (.ref (He.ga T.K "require_columns_rows")) := He.glo_ok h.X h.G (h.c.fact 77 rfl)
theorem g_require_columns_rules (h : Top T) : T.mg "require_columns_rules" = some (.ref (He.ga T.K "require_columns_rules")) := He.glo_ok h.X h.G (h.c.fact 78 rfl)
theorem g_Rules (h : Top T) : T.mg "Rules" = some (.ref (He.ga T.K "Rules")) := He.glo_ok h.X h.G (h.c.fact 79 rfl)
theorem g_MOST_SIGNS (h : Top T) : ∃ u, T.mg "MOST_SIGNS" = some u ∧ RelV (.int 8) u := let ⟨t, e⟩ := He.int_ok h.X h.G (h.c.fact 80 rfl); ⟨_, e, t, rfl⟩
theorem g_MOST_COLUMNS (h : Top T) : ∃ u, T.mg "MOST_COLUMNS" = some u ∧ RelV (.int 8) u := let ⟨t, e⟩ := He.int_ok h.X h.G (h.c.fact 81 rfl); ⟨_, e, t, rfl⟩
theorem g_MAX_RULES (h : Top T) : ∃ u, T.mg "MAX_RULES" = some u ∧ RelV (.int 16) u := let ⟨t, e⟩ := He.int_ok h.X h.G (h.c.fact 82 rfl); ⟨_, e, t, rfl⟩
theorem g_MAX_TYPICAL (h : Top T) : ∃ u, T.mg "MAX_TYPICAL" = some u ∧ RelV (.int 200) u := let ⟨t, e⟩ := He.int_ok h.X h.G (h.c.fact 83 rfl); ⟨_, e, t, rfl⟩
theorem g_SIGNS (h : Top T) : ∃ u, T.mg "SIGNS" = some u ∧ RelV (.str "abcdefghijklmnopqrstuvwxyz") u := let ⟨t, e⟩ := He.str_ok h.X h.G (h.c.fact 84 rfl); ⟨_, e, t, rfl⟩
theorem g_DERIVED (h : Top T) : ∃ u, T.mg "DERIVED" = some u ∧ RelV (.str "derived") u := let ⟨t, e⟩ := He.str_ok h.X h.G (h.c.fact 85 rfl); ⟨_, e, t, rfl⟩
theorem g_APART (h : Top T) : ∃ u, T.mg "APART" = some u ∧ RelV (.str "apart") u := let ⟨t, e⟩ := He.str_ok h.X h.G (h.c.fact 86 rfl); ⟨_, e, t, rfl⟩
theorem c_cls (h : Top T) : Cls T.K (gR T.K) := He.cls_ok (h.c.fact 87 rfl)
theorem c_own_columns (h : Top T) : NoAttr T.K (gR T.K) "own_columns" := He.noat_ok (h.c.fact 88 rfl)
theorem c_own_rules (h : Top T) : NoAttr T.K (gR T.K) "own_rules" := He.noat_ok (h.c.fact 89 rfl)
theorem c_own_plain (h : Top T) : NoAttr T.K (gR T.K) "own_plain" := He.noat_ok (h.c.fact 90 rfl)
theorem c_mkr (h : Top T) : L2.Mk T.K (gR T.K) (He.ma T.K (gR T.K) "__init__") := He.mkr_ok (h.c.fact 91 rfl)
theorem c_with_rule (h : Top T) : Meth T.K (gR T.K) "with_rule" (He.ma T.K (gR T.K) "with_rule") := He.meth_ok (h.c.fact 92 rfl)
theorem c_struck_all (h : Top T) : Meth T.K (gR T.K) "struck_all" (He.ma T.K (gR T.K) "struck_all") := He.meth_ok (h.c.fact 93 rfl)
theorem c_renamed_by (h : Top T) : Meth T.K (gR T.K) "renamed_by" (He.ma T.K (gR T.K) "renamed_by") := He.meth_ok (h.c.fact 94 rfl)
theorem c___contains__ (h : Top T) : Meth T.K (gR T.K) "__contains__" (He.ma T.K (gR T.K) "__contains__") := He.meth_ok (h.c.fact 95 rfl)
theorem d_is_columns (h : Top T) : ∃ fd, FunD T.K "is_columns" "is_columns" (defArgs (top 17)) (defBody (top 17)) (defScope (top 17)) [] [("least", .int 0)] (He.ga T.K "is_columns") fd := h.c.def_ 58 rfl
theorem at_require_columns_rows (h : Top T) : ∃ f fd, FunD T.K "require_columns" "require_columns" (defArgs (top 18)) (defBody (top 18)) (defScope (top 18)) [] [] f fd ∧ T.mg "require_columns_rows" = some (.ref f) := let ⟨fd, F⟩ := h.c.def_ 59 rfl; ⟨_, fd, F, g_require_columns_rows h⟩
theorem at_require_columns_rules (h : Top T) : ∃ f fd, FunD T.K "require_columns" "require_columns" (defArgs (top 26)) (defBody (top 26)) (defScope (top 26)) [] [] f fd ∧ T.mg "require_columns_rules" = some (.ref f) := let ⟨fd, F⟩ := h.c.def_ 60 rfl; ⟨_, fd, F, g_require_columns_rules h⟩
theorem d___init__ (h : Top T) : ∃ fd, FunD T.K "__init__" "Rules.__init__" (defArgs (mth 0)) (defBody (mth 0)) (defScope (mth 0)) [] [] (He.ma T.K (gR T.K) "__init__") fd := h.c.def_ 61 rfl
theorem d_with_rule (h : Top T) : ∃ fd, FunD T.K "with_rule" "Rules.with_rule" (defArgs (mth 7)) (defBody (mth 7)) (defScope (mth 7)) [] [] (He.ma T.K (gR T.K) "with_rule") fd := h.c.def_ 62 rfl
theorem d_struck_all (h : Top T) : ∃ fd, FunD T.K "struck_all" "Rules.struck_all" (defArgs (mth 10)) (defBody (mth 10)) (defScope (mth 10)) [] [] (He.ma T.K (gR T.K) "struck_all") fd := h.c.def_ 63 rfl
theorem d_renamed_by (h : Top T) : ∃ fd, FunD T.K "renamed_by" "Rules.renamed_by" (defArgs (mth 12)) (defBody (mth 12)) (defScope (mth 12)) [] [] (He.ma T.K (gR T.K) "renamed_by") fd := h.c.def_ 64 rfl
theorem d___contains__ (h : Top T) : ∃ fd, FunD T.K "__contains__" "Rules.__contains__" (defArgs (mth 14)) (defBody (mth 14)) (defScope (mth 14)) [] [] (He.ma T.K (gR T.K) "__contains__") fd := h.c.def_ 65 rfl
theorem d_columns (h : Top T) : ∃ fd, FunD T.K "columns" "Rules.columns" (defArgs (mth 4)) (defBody (mth 4)) (defScope (mth 4)) [] [] (He5.wf T.K (gR T.K) "property" "columns") fd := h.c.def_ 66 rfl
theorem d_rules (h : Top T) : ∃ fd, FunD T.K "rules" "Rules.rules" (defArgs (mth 5)) (defBody (mth 5)) (defScope (mth 5)) [] [] (He5.wf T.K (gR T.K) "property" "rules") fd := h.c.def_ 67 rfl
theorem d_plain (h : Top T) : ∃ fd, FunD T.K "plain" "Rules.plain" (defArgs (mth 6)) (defBody (mth 6)) (defScope (mth 6)) [] [] (He5.wf T.K (gR T.K) "property" "plain") fd := h.c.def_ 68 rfl
theorem d_of (h : Top T) : ∃ fd, FunD T.K "of" "Rules.of" (defArgs (mth 1)) (defBody (mth 1)) (defScope (mth 1)) [] [] (He5.wf T.K (gR T.K) "classmethod" "of") fd := h.c.def_ 69 rfl
theorem prop_of {K : PySem.W.Frag} {f : Str} (h : prB K f = true) : PropOf K (gR K) f (He.ma K (gR K) f) (He5.wf K (gR K) "property" f) := by
  unfold prB at h
  rw [Bool.and_eq_true, Bool.and_eq_true, Bool.and_eq_true] at h
  obtain ⟨h1, h2, h3, h4⟩ := h
  refine ⟨He.eqO_ok h1, He.eqO_ok h2, of_decide_eq_true h3, ?_⟩
  unfold He5.wf
  split at h4
  · rename_i g r e
    exact ⟨r, by rw [e]⟩
  · cases h4
theorem ex_all (h : Top T) : prB T.K "columns" = true ∧ prB T.K "rules" = true ∧ prB T.K "plain" = true ∧ He5.wrapB T.K (gR T.K) "classmethod" "classmethod.__get__" "of" = true ∧ PySem.W.fnIn T.K (He5.wf T.K (gR T.K) "classmethod" "of") = true ∧
    PySem.W.readsIn T.K (gR T.K) (.type "type") = true ∧ PySem.W.specialIn T.K (.ref (gR T.K)) "__getattribute__" = some (some (.builtin "type.__getattribute__")) ∧ PySem.W.findIn T.K (.ref (gR T.K)) "__class__" = some (some (.builtin "object.__class__")) ∧
    PySem.W.specialIn T.K (.builtin "object.__class__") "__get__" = some (some (.builtin "getset_descriptor.__get__")) ∧ PySem.W.takesIn T.K (.builtin "object.__class__") = some true ∧ PySem.W.mroIn T.K (gR T.K) (.type "object") = some true := by
  have e := h.ex
  unfold exB at e
  simp only [Bool.and_eq_true] at e
  obtain ⟨h1, h2, h3, h4, h5, h6, h7, h8, h9, h10, h11⟩ := e
  exact ⟨h1, h2, h3, h4, h5, h6, He.eqO_ok h7, He.eqO_ok h8, He.eqO_ok h9, of_decide_eq_true h10, of_decide_eq_true h11⟩
theorem c_cread (h : Top T) : ClX.CRead T.K (gR T.K) (.type "type") := ⟨(ex_all h).2.2.2.2.2.1, (ex_all h).2.2.2.2.2.2.1⟩
theorem c_of (h : Top T) : ClX.CMet T.K (gR T.K) (.type "type") "of" (He.ma T.K (gR T.K) "of") (He5.wf T.K (gR T.K) "classmethod" "of") := He5.cmet_of (ex_all h).2.2.2.1 (ex_all h).2.2.2.2.1
theorem c_ins (h : Top T) {H : Hp} {a dx : Addr} {fs : List (Str × V)} (e : H a = some (.ins (gR T.K) dx fs)) : TyX T.K H (.ref a) (.ref (gR T.K)) :=
  .base (.ins e (c_cls h) (ex_all h).2.2.2.2.2.2.2.1 (ex_all h).2.2.2.2.2.2.2.2.1 (ex_all h).2.2.2.2.2.2.2.2.2.1 (ex_all h).2.2.2.2.2.2.2.2.2.2)
end
end Mk
set_option maxHeartbeats 0
-- MkHead
namespace Mk
open Im (rep)
open PySem PySem.Spec PyProof.Rows L2
abbrev RW : PySem.W.OpenRow := PySem.W.OpenLaw.row PySem.Challenge.rw_mostkept_k25_whole_closures_and_papers
def lo0 : List PySem.Str := ["_wall", "__name__", "TableError", "InvalidColumns", "InvalidRules", "InvalidOperation", "InvalidNumber", "UnknownName", "TooMany", "SIGNS", "MOST_SIGNS", "MOST_COLUMNS", "is_integer", "is_index", "is_name", "are_columns", "is_columns", "require_columns", "require_columns_rows", "is_row_in", "is_row", "MAX_RULES", "are_some_of", "is_rule_over", "require_columns_rules", "require_rule", "require_rules", "without_columns", "with_names", "plain_in"]
def lo1 : List PySem.Str := ["Rules", "DERIVED", "APART", "MAX_TYPICAL", "are_within", "closure_in", "is_closed_in", "sets_of", "triggers_in", "follows_in", "require_rule_of", "closure_of", "is_closed", "closed_sets", "triggers", "follows", "used_rules", "row_beside", "rule_paper_in", "rule_paper", "is_derived", "shared_by", "are_apart", "is_rule_paper_in", "is_rule_paper", "shared_by_all", "least_closed", "typical_rows", "are_typical", "_law_dice"]
def lo2 : List PySem.Str := ["_law_pull", "_law_pick", "_law_columns", "_law_some", "_law_right_side", "_law_joined", "_law_free_rules", "_law_pair_rules", "_law_small_rules", "_law_rules", "_law_subsets", "_law_agreement", "_law_common", "_law_sets_right", "_law_follow_right", "_law_papers_right", "_law_strikes_right", "_law_triggers_right"]
def loose : List PySem.Str := lo0 ++ lo1 ++ lo2
def as0 : List Addr := [3, 6, 4, 21, 31, 44, 56, 68, 89, 111, 133, 143, 150, 155, 160, 168, 206, 175, 180, 187, 192, 199, 213, 220, 225, 230, 235, 377, 386, 391, 396, 401, 406, 413, 420, 427, 434, 441, 448, 455, 460, 465, 472, 479, 484, 489, 496, 501, 508, 513, 518, 525, 530, 537, 544, 551, 558, 563, 568, 573]
def as1 : List Addr := [580, 587, 592, 597, 602, 607, 612, 617, 624, 629, 634, 639, 644, 0, 20, 30, 43, 55, 67, 88, 110, 132, 142, 149, 154, 159, 167, 161, 205, 174, 179, 186, 191, 198, 212, 219, 224, 229, 234, 376, 385, 390, 395, 400, 405, 412, 419, 426, 433, 440, 447, 454, 459, 464, 471, 478, 483, 488, 495, 500]
def as2 : List Addr := [507, 512, 517, 524, 529, 536, 543, 550, 557, 562, 567, 572, 579, 586, 591, 596, 601, 606, 611, 616, 623, 628, 633, 638, 643, 15, 16, 17, 18, 19, 29, 32, 42, 54, 66, 86, 87, 90, 108, 109, 112, 130, 131, 134, 137, 138, 139, 140, 141, 144, 145, 146, 147, 148, 151, 152, 153, 156, 157, 158]
def as3 : List Addr := [162, 163, 164, 165, 166, 200, 201, 202, 203, 204, 169, 170, 171, 172, 173, 176, 177, 178, 181, 182, 183, 184, 185, 188, 189, 190, 193, 194, 195, 196, 197, 207, 208, 209, 210, 211, 214, 215, 216, 217, 218, 221, 222, 223, 226, 227, 228, 231, 232, 233, 247, 256, 266, 276, 285, 293, 301, 308, 315, 322]
def as4 : List Addr := [327, 334, 339, 346, 353, 360, 367, 374, 375, 378, 379, 382, 383, 384, 387, 388, 389, 392, 393, 394, 397, 398, 399, 402, 403, 404, 407, 408, 409, 410, 411, 414, 415, 416, 417, 418, 421, 422, 423, 424, 425, 428, 429, 430, 431, 432, 435, 436, 437, 438, 439, 442, 443, 444, 445, 446, 449, 450, 451, 452]
def as5 : List Addr := [453, 456, 457, 458, 461, 462, 463, 466, 467, 468, 469, 470, 473, 474, 475, 476, 477, 480, 481, 482, 485, 486, 487, 490, 491, 492, 493, 494, 497, 498, 499, 502, 503, 504, 505, 506, 509, 510, 511, 514, 515, 516, 519, 520, 521, 522, 523, 526, 527, 528, 531, 532, 533, 534, 535, 538, 539, 540, 541, 542]
def as6 : List Addr := [545, 546, 547, 548, 549, 552, 553, 554, 555, 556, 559, 560, 561, 564, 565, 566, 569, 570, 571, 574, 575, 576, 577, 578, 581, 582, 583, 584, 585, 588, 589, 590, 593, 594, 595, 598, 599, 600, 603, 604, 605, 608, 609, 610, 613, 614, 615, 618, 619, 620, 621, 622, 625, 626, 627, 630, 631, 632, 635, 636]
def as7 : List Addr := [637, 640, 641, 642, 85, 74, 107, 96, 129, 118, 246, 254, 255, 264, 265, 274, 275, 284, 292, 300, 307, 314, 321, 326, 333, 338, 345, 352, 359, 366, 373, 80, 81, 82, 83, 84, 102, 103, 104, 105, 106, 124, 125, 126, 127, 128, 243, 244, 245, 253, 257, 263, 267, 273, 277, 283, 291, 299, 302, 303]
def as8 : List Addr := [304, 305, 306, 309, 310, 311, 312, 313, 316, 317, 318, 319, 320, 323, 324, 325, 328, 329, 330, 331, 332, 335, 336, 337, 340, 341, 342, 343, 344, 347, 348, 349, 350, 351, 354, 355, 356, 357, 358, 361, 362, 363, 364, 365, 368, 369, 370, 371, 372, 2]
def asL : List Addr := as0 ++ (as1 ++ (as2 ++ (as3 ++ (as4 ++ (as5 ++ (as6 ++ (as7 ++ (as8))))))))
def obX (g : Addr → Option Obj) : He.AlD × Bool := (He5.obsA fa fn (He.frG g asL), exB (He.frG g asL))
def hkX : PySem.W.Hook where
  α := He.AlD × Bool
  obs := fun s => obX s.heap.get?
  val := fun _ => (He5.valA fn, true)
  says := fun _ h => ∃ K : PySem.W.Frag, K.In h ∧ He5.SaysA fa fn K ∧ exB K = true
  of := fun _ s e => ⟨_, He.frG_in, congrArg Prod.fst e, congrArg Prod.snd e⟩
  keeps := fun _ _ _ ⟨K, hK, c⟩ k => ⟨K, PySem.W.Frag.In.keeps hK k, c⟩
def obT (s : PySem.W.SharedT) : He.AlD × Bool := obX (HandSHeadRun.getT s)
theorem obT_eq (s : PySem.W.SharedT) : obT s = hkX.obs s.abs := by
  have e : HandSHeadRun.getT s = s.abs.heap.get? := funext (HandSHeadRun.getT_eq s)
  show obX (HandSHeadRun.getT s) = obX s.abs.heap.get?
  rw [e]
theorem run_top (w : World) : HandSHeadRun.RunEq RW (PySem.W.view RW.prog [83]) hkX obT 5400 loose w := by
  intro os
  kernel_rfl
end Mk
set_option maxHeartbeats 2000000
-- MkZs
namespace MkZ
open PySem PySem.Calls PyProof.Rows
abbrev ZipS (h : Heap) (z TI TO : Addr) (f0 : Value) : Prop := h.get? z = some { cls := .type "zip", dict := none, data := .fields #[f0, .bool false, .bool true, .ref TI, .ref TO], slots := #[] }
section
variable {prog : Program} {w : World} {A : Around} {E : Value → Shared → Prop} {s : Shared} {it : Addr} {fp : List Addr} {n : Nat} {P : Nat → Value → Prop} {St : Nat → Heap → Prop}
theorem noe_item {i : Nat} {Q : Option Value → Shared → Prop} (D : Draws prog w A it fp n P St) (hi : i < n) (st : St i s.heap) (h : ∀ x h' tk, P i x → St (i + 1) h' → Heap.SameBut it s.heap h' → Q (some x) { s with heap := h', toks := tk }) :
    wpAny (model prog w) A (Builtin.SmallTypes.nextOrEnd (.ref it)) Q E s := by
  unfold Builtin.SmallTypes.nextOrEnd
  exact wpAny_bind (wpAny_attempt (D.item i s _ _ hi st fun x h' tk p st' sb => wpAny_pure (h x h' tk p st' sb)))
theorem noe_end {Q : Option Value → Shared → Prop} (D : Draws prog w A it fp n P St) (st : St n s.heap) (h : ∀ h', Heap.ExtBut it s.heap h' → Q none { s with heap := h' }) :
    wpAny (model prog w) A (Builtin.SmallTypes.nextOrEnd (.ref it)) Q E s := by
  unfold Builtin.SmallTypes.nextOrEnd
  refine wpAny_bind (wpAny_attempt (D.done s _ _ st fun h' e ex ⟨o, ho, hc⟩ => ?_))
  exact wpAny_bind (wpAny_isInstance (T := "StopIteration") (b := true) ⟨o, ho, hc⟩ isSubtype_stop (wpAny_pure (h h' ex)))
theorem stop_raise {α : Type} {Q : α → Shared → Prop} (hh : A.handled = none) (hE : ∀ h' e, (∀ c o, s.heap.get? c = some o → h'.get? c = some o) → (∃ o, h'.get? e = some o ∧ o.cls = .type "StopIteration") → E (.ref e) { s with heap := h' }) : wpAny (model prog w) A (Builtin.SmallTypes.stopIteration : Sem α) Q E s := by
  unfold Builtin.SmallTypes.stopIteration
  refine wpAny_bind ?_
  simp only [newExc, newTuple]
  refine wpAny_bind (wpAny_newObj_type ?_ (by size_fits))
  refine wpAny_bind (m := firstArgMember _ _) (wpAny_of_eq (a := Value.none) (by first | rfl | (simp only [firstArgMember]; rfl)) ?_)
  refine wpAny_newObj_type ?_ (by size_fits)
  simp only [raiseNew]
  refine wpAny_bind (wpAny_handled ?_)
  rw [hh]
  refine wpAny_bind (wpAny_pure (wpAny_throw ?_))
  exact hE _ _ (fun c o e => Heap.get?_push_of_some _ (Heap.get?_push_of_some _ e)) ⟨_, Heap.get?_push_size _ rfl, rfl⟩
end
section
variable {prog : Program} {w : World} {A : Around} {E : Value → Shared → Prop} {s : Shared} {z TI TO i1 i2 i3 : Addr} {fp1 fp2 fp3 : List Addr} {n i : Nat} {P1 P2 P3 : Nat → Value → Prop} {St1 St2 St3 : Nat → Heap → Prop} {a1 a2 a3 : Value}
theorem s_item {Q : Value → Shared → Prop} (S : ZipSep3 z TI TO i1 i2 i3 fp1 fp2 fp3) (D1 : Draws prog w A i1 fp1 n P1 St1) (D2 : Draws prog w A i2 fp2 n P2 St2) (D3 : Draws prog w A i3 fp3 n P3 St3)
    (hz : ZipS s.heap z TI TO .none) (hTI : IsTupOf3 s.heap TI (.ref i1) (.ref i2) (.ref i3)) (hTO : IsTupOf3 s.heap TO a1 a2 a3) (st1 : St1 i s.heap) (st2 : St2 i s.heap) (st3 : St3 i s.heap) (hlt : i < n)
    (hQ : ∀ x1 x2 x3 h' tk, P1 i x1 → P2 i x2 → P3 i x3 → ZipS h' z TI TO (rawInt s.heap.objs.size) → IsTupOf3 h' TO x1 x2 x3 → St1 (i + 1) h' → St2 (i + 1) h' → St3 (i + 1) h' → IsTupOf3 h' s.heap.objs.size x1 x2 x3 → h'.objs.size = s.heap.objs.size + 1 →
      (∀ c o, c ≠ z → c ≠ TO → c ≠ i1 → c ≠ i2 → c ≠ i3 → s.heap.get? c = some o → h'.get? c = some o) → Q (.ref s.heap.objs.size) { s with heap := h', toks := tk }) :
    wpAny (model prog w) A (Builtin.«zip.__next__» ⟨[.ref z], []⟩) (fun fin s' => ∃ v, fin = .done (.ret v) ∧ Q v s') E s := by
  obtain ⟨hp, g, d, tk0, os⟩ := s
  show wpAny _ _ (field (.ref z) 2 >>= _) _ _ _
  refine wpAny_bind (wpAny_field hz rfl (x := .bool true) rfl ?_)
  show wpAny _ _ (field (.ref z) 3 >>= _) _ _ _
  refine wpAny_bind (wpAny_field hz rfl (x := .ref TI) rfl ?_)
  refine wpAny_bind (wpAny_seqItems hTI rfl ?_)
  show wpAny _ _ (Builtin.SmallTypes.ownedTupleIsFree (.ref z) >>= _) _ _ _
  refine wpAny_bind ?_
  unfold Builtin.SmallTypes.ownedTupleIsFree
  refine wpAny_bind (wpAny_field hz rfl (x := .none) rfl (wpAny_pure ?_))
  simp only [if_true]
  refine wpAny_bind (wpAny_rule ?_)
  refine wpAny_bind (wpAny_field hz rfl (x := .ref TO) rfl ?_)
  refine wpAny_bind (wpAny_setField_rec hz (by simp) fun g0 hz0 hs0 => ?_)
  replace hz0 : ZipS g0 z TI TO .ellipsis := hz0
  replace hs0 : Heap.SameBut z hp g0 := hs0
  refine wpAny_bind ?_
  simp only [List.zipIdx_cons, List.zipIdx_nil, List.forIn_cons, List.forIn_nil]
  refine wpAny_bind (wpAny_bind (wpAny_onRaise ?_))
  show wpAny _ _ (Builtin.SmallTypes.nextOrEnd (.ref i1)) _ _ ⟨g0, g, d, tk0, os⟩
  refine noe_item D1 hlt (D1.over st1 hs0 S.zf1) fun x1 p1 tk1 hx1 sn1 hp1 => ?_
  replace hp1 : Heap.SameBut i1 g0 p1 := hp1
  have hU1 : IsTupOf3 p1 TO a1 a2 a3 := hp1.extBut _ _ S.Ti1 (hs0.extBut _ _ S.TOz hTO)
  refine wpAny_bind (wpAny_seqItems (s := ⟨p1, g, d, tk1, os⟩) hU1 rfl ?_)
  refine wpAny_bind (updateSeq_IsTupOf3 (s := ⟨p1, g, d, tk1, os⟩) hU1 fun g1 hT1 hs1 => ?_)
  replace hT1 : IsTupOf3 g1 TO x1 a2 a3 := hT1
  replace hs1 : Heap.SameBut TO p1 g1 := hs1
  refine wpAny_bind (wpAny_letGo (wpAny_pure ?_))
  refine wpAny_bind (wpAny_bind (wpAny_onRaise ?_))
  show wpAny _ _ (Builtin.SmallTypes.nextOrEnd (.ref i2)) _ _ ⟨g1, g, d, tk1, os⟩
  refine noe_item D2 hlt (D2.over (D2.over (D2.over st2 hs0 S.zf2) hp1 S.sep1_2) hs1 S.Tf2) fun x2 p2 tk2 hx2 sn2 hp2 => ?_
  replace hp2 : Heap.SameBut i2 g1 p2 := hp2
  have hU2 : IsTupOf3 p2 TO x1 a2 a3 := hp2.extBut _ _ S.Ti2 hT1
  refine wpAny_bind (wpAny_seqItems (s := ⟨p2, g, d, tk2, os⟩) hU2 rfl ?_)
  refine wpAny_bind (updateSeq_IsTupOf3 (s := ⟨p2, g, d, tk2, os⟩) hU2 fun g2 hT2 hs2 => ?_)
  replace hT2 : IsTupOf3 g2 TO x1 x2 a3 := hT2
  replace hs2 : Heap.SameBut TO p2 g2 := hs2
  refine wpAny_bind (wpAny_letGo (wpAny_pure ?_))
  refine wpAny_bind (wpAny_bind (wpAny_onRaise ?_))
  show wpAny _ _ (Builtin.SmallTypes.nextOrEnd (.ref i3)) _ _ ⟨g2, g, d, tk2, os⟩
  refine noe_item D3 hlt (D3.over (D3.over (D3.over (D3.over (D3.over st3 hs0 S.zf3) hp1 S.sep1_3) hs1 S.Tf3) hp2 S.sep2_3) hs2 S.Tf3) fun x3 p3 tk3 hx3 sn3 hp3 => ?_
  replace hp3 : Heap.SameBut i3 g2 p3 := hp3
  have hU3 : IsTupOf3 p3 TO x1 x2 a3 := hp3.extBut _ _ S.Ti3 hT2
  refine wpAny_bind (wpAny_seqItems (s := ⟨p3, g, d, tk3, os⟩) hU3 rfl ?_)
  refine wpAny_bind (updateSeq_IsTupOf3 (s := ⟨p3, g, d, tk3, os⟩) hU3 fun g3 hT3 hs3 => ?_)
  replace hT3 : IsTupOf3 g3 TO x1 x2 x3 := hT3
  replace hs3 : Heap.SameBut TO p3 g3 := hs3
  refine wpAny_bind (wpAny_letGo (wpAny_pure (wpAny_pure ?_)))
  refine wpAny_bind (wpAny_seqItems (s := ⟨g3, g, d, tk3, os⟩) hT3 rfl ?_)
  refine wpAny_bind (wpAny_newTuple ?_)
  have hsz : g3.objs.size = hp.objs.size := by rw [hs3.1, hp3.1, hs2.1, hp2.1, hs1.1, hp1.1, hs0.1]
  have hzz : ZipS g3 z TI TO .ellipsis := (hs3.extBut _ _ S.TOz.symm (hp3.extBut _ _ S.zi3 (hs2.extBut _ _ S.TOz.symm (hp2.extBut _ _ S.zi2 (hs1.extBut _ _ S.TOz.symm (hp1.extBut _ _ S.zi1 hz0))))))
  have hkk : ∀ c o, c ≠ z → c ≠ TO → c ≠ i1 → c ≠ i2 → c ≠ i3 → hp.get? c = some o → g3.get? c = some o := fun c o cz cT c1 c2 c3 e =>
    (hs3.extBut _ _ cT (hp3.extBut _ _ c3 (hs2.extBut _ _ cT (hp2.extBut _ _ c2 (hs1.extBut _ _ cT (hp1.extBut _ _ c1 (hs0.extBut _ _ cz e)))))))
  have hj1 : St1 (i + 1) g3 := (D1.over (D1.over (D1.over (D1.over (D1.over sn1 hs1 S.Tf1) hp2 S.sep2_1) hs2 S.Tf1) hp3 S.sep3_1) hs3 S.Tf1)
  have hj2 : St2 (i + 1) g3 := (D2.over (D2.over (D2.over sn2 hs2 S.Tf2) hp3 S.sep3_2) hs3 S.Tf2)
  have hj3 : St3 (i + 1) g3 := (D3.over sn3 hs3 S.Tf3)
  have hzlt : z < g3.objs.size := Heap.lt_size hzz
  show wpAny _ _ (Builtin.SmallTypes.ownedTupleHandOut (.ref z) (.ref g3.objs.size) >>= _) _ _ ⟨g3.push { cls := .type "tuple", data := .seq #[x1, x2, x3] }, g, d, tk3, os⟩
  refine wpAny_bind ?_
  unfold Builtin.SmallTypes.ownedTupleHandOut
  have hz6 : ZipS (g3.push { cls := .type "tuple", data := .seq #[x1, x2, x3] }) z TI TO .ellipsis := Heap.get?_push_of_some _ hzz
  refine wpAny_bind (wpAny_setField_rec hz6 (by simp) fun h7 hz7 hs7 => ?_)
  replace hz7 : ZipS h7 z TI TO (rawInt g3.objs.size) := hz7
  refine wpAny_setField_rec hz7 (by simp) fun h8 hz8 hs8 => ?_
  replace hz8 : ZipS h8 z TI TO (rawInt g3.objs.size) := hz8
  replace hs7 : Heap.SameBut z (g3.push { cls := .type "tuple", data := .seq #[x1, x2, x3] }) h7 := hs7
  replace hs8 : Heap.SameBut z h7 h8 := hs8
  have up : ∀ c o, c ≠ z → g3.get? c = some o → h8.get? c = some o := fun c o c1 e => hs8.extBut _ _ c1 (hs7.extBut _ _ c1 (Heap.get?_push_of_some _ e))
  have hT8 : IsTupOf3 h8 g3.objs.size x1 x2 x3 := hs8.extBut _ _ (Nat.ne_of_gt hzlt) (hs7.extBut _ _ (Nat.ne_of_gt hzlt) (Heap.get?_push_size _ rfl))
  have hz8s : h8.objs.size = g3.objs.size + 1 := by rw [hs8.1, hs7.1, Heap.size_push]
  rw [hsz] at hz8 hT8 hz8s
  refine wpAny_pure ⟨_, rfl, ?_⟩
  show Q (.ref g3.objs.size) ⟨h8, g, d, tk3, os⟩
  rw [hsz]
  exact hQ x1 x2 x3 h8 tk3 hx1 hx2 hx3 hz8 (up _ _ S.TOz hT3) (D1.frame _ _ _ hj1 fun b hb o e => up b o (fun q => S.zf1 (q ▸ hb)) e) (D2.frame _ _ _ hj2 fun b hb o e => up b o (fun q => S.zf2 (q ▸ hb)) e) (D3.frame _ _ _ hj3 fun b hb o e => up b o (fun q => S.zf3 (q ▸ hb)) e) hT8 hz8s fun c o cz cT c1 c2 c3 e => up c o cz (hkk c o cz cT c1 c2 c3 e)
theorem s_end {Q : Fin → Shared → Prop} (hh : A.handled = none) (S : ZipSep3 z TI TO i1 i2 i3 fp1 fp2 fp3) (D1 : Draws prog w A i1 fp1 n P1 St1) (D2 : Draws prog w A i2 fp2 n P2 St2) (D3 : Draws prog w A i3 fp3 n P3 St3)
    (hz : ZipS s.heap z TI TO .none) (hTI : IsTupOf3 s.heap TI (.ref i1) (.ref i2) (.ref i3)) (hTO : IsTupOf3 s.heap TO a1 a2 a3) (st1 : St1 n s.heap) (st2 : St2 n s.heap) (st3 : St3 n s.heap)
    (hE : ∀ h' e, (∀ c o, c ≠ z → c ≠ TO → c ≠ i1 → c ≠ i2 → c ≠ i3 → s.heap.get? c = some o → h'.get? c = some o) → (∃ o, h'.get? e = some o ∧ o.cls = .type "StopIteration") → E (.ref e) { s with heap := h' }) :
    wpAny (model prog w) A (Builtin.«zip.__next__» ⟨[.ref z], []⟩) Q E s := by
  obtain ⟨hp, g, d, tk0, os⟩ := s
  show wpAny _ _ (field (.ref z) 2 >>= _) _ _ _
  refine wpAny_bind (wpAny_field hz rfl (x := .bool true) rfl ?_)
  show wpAny _ _ (field (.ref z) 3 >>= _) _ _ _
  refine wpAny_bind (wpAny_field hz rfl (x := .ref TI) rfl ?_)
  refine wpAny_bind (wpAny_seqItems hTI rfl ?_)
  show wpAny _ _ (Builtin.SmallTypes.ownedTupleIsFree (.ref z) >>= _) _ _ _
  refine wpAny_bind ?_
  unfold Builtin.SmallTypes.ownedTupleIsFree
  refine wpAny_bind (wpAny_field hz rfl (x := .none) rfl (wpAny_pure ?_))
  simp only [if_true]
  refine wpAny_bind (wpAny_rule ?_)
  refine wpAny_bind (wpAny_field hz rfl (x := .ref TO) rfl ?_)
  refine wpAny_bind (wpAny_setField_rec hz (by simp) fun g0 hz0 hs0 => ?_)
  replace hz0 : ZipS g0 z TI TO .ellipsis := hz0
  replace hs0 : Heap.SameBut z hp g0 := hs0
  refine wpAny_bind ?_
  simp only [List.zipIdx_cons, List.zipIdx_nil, List.forIn_cons, List.forIn_nil]
  refine wpAny_bind (wpAny_bind (wpAny_onRaise ?_))
  show wpAny _ _ (Builtin.SmallTypes.nextOrEnd (.ref i1)) _ _ ⟨g0, g, d, tk0, os⟩
  refine noe_end D1 (D1.over st1 hs0 S.zf1) fun q1 hq1 => ?_
  replace hq1 : Heap.ExtBut i1 g0 q1 := hq1
  have hzq : ZipS q1 z TI TO .ellipsis := hq1 _ _ S.zi1 hz0
  refine wpAny_bind (wpAny_setField_rec (s := ⟨q1, g, d, tk0, os⟩) hzq (by simp) fun g1 _ hs1 => ?_)
  replace hs1 : Heap.SameBut z q1 g1 := hs1
  refine wpAny_bind ?_
  refine wpAny_bind ?_
  simp only [List.drop, List.zipIdx_cons, List.zipIdx_nil, List.forIn_cons, List.forIn_nil]
  have t2 : St2 n g1 := D2.over (D2.frame _ _ _ (D2.over st2 hs0 S.zf2) fun b hb o e => hq1 b o (fun q => S.sep1_2 (q ▸ hb)) e) hs1 S.zf2
  refine wpAny_bind (wpAny_bind (noe_end (s := ⟨g1, g, d, tk0, os⟩) D2 t2 fun q2 hq2 => ?_))
  replace hq2 : Heap.ExtBut i2 g1 q2 := hq2
  rw [if_neg (by simp)]
  refine wpAny_pure ?_
  have t3 : St3 n q2 := D3.frame _ _ _ (D3.over (D3.frame _ _ _ (D3.over st3 hs0 S.zf3) fun b hb o e => hq1 b o (fun q => S.sep1_3 (q ▸ hb)) e) hs1 S.zf3) fun b hb o e => hq2 b o (fun q => S.sep2_3 (q ▸ hb)) e
  refine wpAny_bind (wpAny_bind (noe_end (s := ⟨q2, g, d, tk0, os⟩) D3 t3 fun q3 hq3 => ?_))
  replace hq3 : Heap.ExtBut i3 q2 q3 := hq3
  rw [if_neg (by simp)]
  refine wpAny_pure (wpAny_pure ?_)
  refine wpAny_bind (wpAny_rule ?_)
  refine stop_raise hh fun h' e hk he => ?_
  exact hE h' e (fun c o cz cT c1 c2 c3 x => hk c o (hq3 c o c3 (hq2 c o c2 (hs1.extBut _ _ cz (hq1 c o c1 (hs0.extBut _ _ cz x)))))) he
end
end MkZ
-- MkZc
namespace MkZ
open PySem PySem.Calls PyProof.Rows
section
variable {prog : Program} {w : World} {A : Around} {E : Value → Shared → Prop} {s : Shared}
theorem typeK {T newId initId : String} {Bn Bi : Builtin} {args : List Value} {kw : List (Str × Value)} {S : PySem.Spec} {Q Q1 : Value → Shared → Prop} (ft : TypeCalled T newId initId)
    (hct : checkTypeCall T ⟨args, kw⟩ = pure ()) (hcn : checkBuiltinCall newId ⟨.type T :: args, kw⟩ = pure ())
    (entryN : entryFor table newId = some Bn) (entryI : entryFor table initId = some Bi) (g : Meets (Bn ⟨.type T :: args, kw⟩) S)
    (h : S A.in1 (wants Q1 E) s)
    (hnext : ∀ obj s₁, Q1 obj s₁ → s₁.TypeIs obj T ∧ argsOk initId ⟨obj :: args, kw⟩ ∧ ∃ Si, Meets (Bi ⟨obj :: args, kw⟩) Si ∧ Si A.in1 (wants (fun r s₂ => r = .none ∧ Q obj s₂) E) s₁) :
    wpAny (model prog w) A (call (.type T) args kw) Q E s := by
  obtain ⟨c, tl, hmro⟩ := ft.mro
  have hmade := ft.made
  have hsub := ft.sub
  refine wpAny_call (codeAny_of_tree ?_)
  show wpAny _ _ (callAny (.type T) _) _ _ _
  refine wpAny_pure ⟨Code.quiet_builtin _ (by decide +kernel), codeAny_builtin F.entry_type_call ?_⟩
  rw [Around.under_plain (weight_type_call_type T args kw) (units_type_call_type T args kw)]
  have h1 := ft.notType
  have h2 := ft.canCreate
  repeat (any_goals (first | assumption | wp_step))
  refine codeAny_mono (codeAny_call_builtin ft.plain entryN (wpAny_of_eq hcn (g prog w A.in1 _ s h))) fun r s₁ hr => ?_
  cases r with
  | error e => exact hr
  | ok fl =>
    cases fl with
    | ret obj =>
      obtain ⟨hT, hok, Si, gi, hsi⟩ := hnext _ _ hr
      have hli := ft.init.lookup
      have hbi := ft.init.bind obj
      repeat (any_goals (first | assumption | wp_step))
      refine codeAny_mono (codeAny_call_builtin ft.init.plain entryI (ft.init.check _ _ _ _ _ _ _ _ hT hok (gi prog w A.in1 _ s₁ hsi))) fun r₂ s₂ hr₂ => ?_
      cases r₂ with
      | error e => exact hr₂
      | ok fl₂ =>
        cases fl₂ with
        | ret r =>
          obtain ⟨rfl, hq⟩ := hr₂
          repeat (any_goals (first | assumption | wp_step))
        | _ => exact hr₂.elim
    | _ => exact hr.elim
theorem initK {T newId : String} {self : Value} {rest : List Value} {kw : List (Str × Value)} (hl : typeLookup (.type T) "__init__" = pure (some (.builtin "object.__init__")))
    (hm : Bind.madeBy (.type T) = pure (some newId)) (hne : (some newId != some "object.__new__") = true) :
    Meets (Builtin.«object.__init__» ⟨self :: rest, kw⟩) (fun _ R s => s.TypeIs self T ∧ R (.ok (.ret .none)) s) := by
  refine Meets.of_wp fun prog w A R s hs => ?_
  obtain ⟨hT, hq⟩ := hs
  cases rest with
  | nil =>
    cases kw with
    | nil => exact wpAny_pure ⟨_, rfl, hq⟩
    | cons k kw =>
      repeat (any_goals (first | assumption | wp_step))
      exact ⟨_, rfl, hq⟩
  | cons a rest =>
    repeat (any_goals (first | assumption | wp_step))
    exact ⟨_, rfl, hq⟩
end
def kwS : List (Str × Value) := [(Str.ofString "strict", .bool true)]
theorem tc3 (a b c : Value) : checkTypeCall "zip" ⟨[a, b, c], kwS⟩ = pure () := by kernel_rfl
theorem nc3 (a b c : Value) : checkBuiltinCall "zip.__new__" ⟨[.type "zip", a, b, c], kwS⟩ = pure () := by kernel_rfl
theorem oi3 (obj a b c : Value) : argsOk "object.__init__" ⟨[obj, a, b, c], kwS⟩ := by unfold argsOk; kernel_rfl
abbrev zZ3 (h : Heap) (o1 o2 o3 : Obj) : Heap := (gzO3 h o1 o2 o3).push { cls := .type "zip", data := .fields #[.none, .bool false, .bool true, .ref (((h.push o1).push o2).push o3).objs.size, .ref (gzT3 h o1 o2 o3).objs.size] }
theorem meets3 {v1 v2 v3 : Value} {o1 o2 o3 : Obj} {H1 H2 H3 : Heap → Prop} (B1 : Begins v1 o1 H1) (B2 : Begins v2 o2 H2) (B3 : Begins v3 o3 H3) :
    Meets (Builtin.«zip.__new__» ⟨[.type "zip", v1, v2, v3], kwS⟩) (fun _ R s => (H1 s.heap ∧ H2 s.heap ∧ H3 s.heap) ∧
      R (.ok (.ret (.ref (gzO3 s.heap o1 o2 o3).objs.size))) { s with heap := zZ3 s.heap o1 o2 o3 }) :=
  .of_wp fun prog w A R s h => by
    obtain ⟨hp, g, d, tk, os⟩ := s; obtain ⟨⟨h1, h2, h3⟩, h⟩ := h
    have hsub := sub_zip
    have q1 : ∀ {A' : Around} {E : Value → Shared → Prop} {Q : Value → Shared → Prop}, Q (.ref hp.objs.size) ⟨(hp.push o1), g, d, tk, os⟩ → wpAny (model prog w) A' (pyIter v1) Q E ⟨hp, g, d, tk, os⟩ :=
      fun q => B1.iter prog w _ _ ⟨hp, g, d, tk, os⟩ _ (B1.keeps _ _ h1 fun b o' e => e) q
    have q2 : ∀ {A' : Around} {E : Value → Shared → Prop} {Q : Value → Shared → Prop}, Q (.ref (hp.push o1).objs.size) ⟨((hp.push o1).push o2), g, d, tk, os⟩ → wpAny (model prog w) A' (pyIter v2) Q E ⟨(hp.push o1), g, d, tk, os⟩ :=
      fun q => B2.iter prog w _ _ ⟨(hp.push o1), g, d, tk, os⟩ _ (B2.keeps _ _ h2 fun b o' e => (Heap.get?_push_of_some _ e)) q
    have q3 : ∀ {A' : Around} {E : Value → Shared → Prop} {Q : Value → Shared → Prop}, Q (.ref ((hp.push o1).push o2).objs.size) ⟨(((hp.push o1).push o2).push o3), g, d, tk, os⟩ → wpAny (model prog w) A' (pyIter v3) Q E ⟨((hp.push o1).push o2), g, d, tk, os⟩ :=
      fun q => B3.iter prog w _ _ ⟨((hp.push o1).push o2), g, d, tk, os⟩ _ (B3.keeps _ _ h3 fun b o' e => (Heap.get?_push_of_some _ (Heap.get?_push_of_some _ e))) q
    unfold kwS
    wp_walk using q1, q2, q3
    exact ⟨_, rfl, h⟩
end MkZ
-- MkDic
namespace Mk
open Im (rep)
open PySem PySem.Spec PyProof.Rows L2
variable {C : Cg} {G : List Slot}
section
variable {κ β : Type} [DecidableEq κ]
def valS (kvs : List (κ × β)) (k : κ) : Option β := (kvs.find? fun p => decide (p.1 = k)).map (·.2)
def putS (kvs : List (κ × β)) (k : κ) (b : β) : List (κ × β) := if (kvs.any fun p => decide (p.1 = k)) = true then kvs.map (fun p => if p.1 = k then (p.1, b) else p) else kvs ++ [(k, b)]
def putAll (kvs more : List (κ × β)) : List (κ × β) := more.foldl (fun acc p => putS acc p.1 p.2) kvs
theorem valS_isSome {kvs : List (κ × β)} {k : κ} : (valS kvs k).isSome = decide (k ∈ kvs.map (·.1)) := by
  unfold valS
  rw [Option.isSome_map]
  by_cases h : k ∈ kvs.map (·.1)
  · rw [decide_eq_true h, List.find?_isSome]
    obtain ⟨p, hp, e⟩ := List.mem_map.mp h
    exact ⟨p, hp, decide_eq_true e⟩
  · rw [decide_eq_false h, Bool.eq_false_iff]
    intro z
    rw [List.find?_isSome] at z
    obtain ⟨p, hp, e⟩ := z
    exact h (List.mem_map.mpr ⟨p, hp, of_decide_eq_true e⟩)
end
section
variable {β : Type} [Im β] {H : Hp}
theorem repK_any (s : Str) : ∀ {ks : List (Key × V)} {kvs : List (Str × β)}, RepK H ks kvs → (ks.any fun q => decide (q.1 = Sum.inr s)) = kvs.any fun p => decide (p.1 = s)
  | [], [], _ => rfl
  | [], _ :: _, h => h.elim
  | _ :: _, [], h => h.elim
  | q :: ks, p :: kvs, h => by
    rw [List.any_cons, List.any_cons, repK_any s h.2.2, h.1]
    congr 1
    by_cases e : p.1 = s
    · rw [decide_eq_true e, decide_eq_true (by rw [e])]
    · rw [decide_eq_false e, decide_eq_false (fun z => e (Sum.inr.inj z))]
theorem repK_val (s : Str) : ∀ {ks : List (Key × V)} {kvs : List (Str × β)}, RepK H ks kvs → (valV ks (Sum.inr s) = none ∧ valS kvs s = none) ∨ ∃ v b, valV ks (Sum.inr s) = some v ∧ valS kvs s = some b ∧ rep H v b
  | [], [], _ => .inl ⟨rfl, rfl⟩
  | [], _ :: _, h => h.elim
  | _ :: _, [], h => h.elim
  | q :: ks, p :: kvs, h => by
    by_cases e : p.1 = s
    · refine .inr ⟨q.2, p.2, valV_pos (by rw [h.1, e]), ?_, h.2.1⟩
      unfold valS
      rw [List.find?_cons, decide_eq_true e]; rfl
    · have e1 : valV (q :: ks) (Sum.inr s) = valV ks (Sum.inr s) := valV_neg (by rw [h.1]; exact fun z => e (Sum.inr.inj z))
      have e2 : valS (p :: kvs) s = valS kvs s := by
        unfold valS
        rw [List.find?_cons, decide_eq_false e]
      rw [e1, e2]
      exact repK_val s h.2.2
theorem RepK.app : ∀ {ks ls : List (Key × V)} {kvs lvs : List (Str × β)}, RepK H ks kvs → RepK H ls lvs → RepK H (ks ++ ls) (kvs ++ lvs)
  | [], _, [], _, _, h => h
  | [], _, _ :: _, _, h, _ => h.elim
  | _ :: _, _, [], _, h, _ => h.elim
  | _ :: _, _, _ :: _, _, h, g => ⟨h.1, h.2.1, RepK.app h.2.2 g⟩
theorem repK_set (s : Str) {v : V} {b : β} (r : rep H v b) : ∀ {ks : List (Key × V)} {kvs : List (Str × β)}, RepK H ks kvs → RepK H (ks.map fun q => if q.1 = Sum.inr s then (q.1, v) else q) (kvs.map fun p => if p.1 = s then (p.1, b) else p)
  | [], [], _ => trivial
  | [], _ :: _, h => h.elim
  | _ :: _, [], h => h.elim
  | q :: ks, p :: kvs, h => by
    rw [List.map_cons, List.map_cons]
    by_cases e : p.1 = s
    · rw [if_pos e, if_pos (by rw [h.1, e])]
      exact ⟨h.1, r, repK_set s r h.2.2⟩
    · rw [if_neg e, if_neg (by rw [h.1]; exact fun z => e (Sum.inr.inj z))]
      exact ⟨h.1, h.2.1, repK_set s r h.2.2⟩
theorem RepK.put {ks : List (Key × V)} {kvs : List (Str × β)} {s : Str} {v : V} {b : β} (h : RepK H ks kvs) (r : rep H v b) : RepK H (putK ks (Sum.inr s) v) (putS kvs s b) := by
  unfold putK putS
  rw [repK_any s h]
  split
  · exact repK_set s r h
  · exact h.app ⟨rfl, r, trivial⟩
theorem RepK.putAll : ∀ {ms : List (Key × V)} {mvs : List (Str × β)} {ks : List (Key × V)} {kvs : List (Str × β)}, RepK H ks kvs → RepK H ms mvs → RepK H (mergeK ks ms) (Mk.putAll kvs mvs)
  | [], [], _, _, h, _ => h
  | [], _ :: _, _, _, _, g => g.elim
  | _ :: _, [], _, _, _, g => g.elim
  | m :: ms, n :: mvs, ks, kvs, h, g => by
    show RepK H (mergeK (putK ks m.1 m.2) ms) (Mk.putAll (putS kvs n.1 n.2) mvs)
    rw [g.1]
    exact RepK.putAll (h.put g.2.1) g.2.2
theorem RepK.len : ∀ {ks : List (Key × V)} {kvs : List (Str × β)}, RepK H ks kvs → ks.length = kvs.length
  | [], [], _ => rfl
  | [], _ :: _, h => h.elim
  | _ :: _, [], h => h.elim
  | _ :: ks, _ :: kvs, h => by rw [List.length_cons, List.length_cons, RepK.len h.2.2]
theorem RepK.keys : ∀ {ks : List (Key × V)} {kvs : List (Str × β)}, RepK H ks kvs → ks.map (·.1) = (kvs.map (·.1)).map Sum.inr
  | [], [], _ => rfl
  | [], _ :: _, h => h.elim
  | _ :: _, [], h => h.elim
  | q :: ks, p :: kvs, h => by rw [List.map_cons, List.map_cons, List.map_cons, RepK.keys h.2.2, h.1]
end
def DSlot (s : Slot) {β : Type} [Im β] (kvs : List (Str × β)) : Prop := s = .dk kvs ∨ s = .rk kvs
section
variable {β : Type} [Im β] {kvs : List (Str × β)} {i : Nat} {s : Slot} {y : Str} {p pos : Pos}
theorem Env.dsl {d : Option Addr} {B H : Hp} {σ : L2.St} (E : Env d B G σ H) (e : G[i]? = some s) (hs : DSlot s kvs) : ∃ a ks, σ[i]? = some (some (.ref a)) ∧ d ≠ some a ∧ H a = some (.dK ks) ∧ RepK H ks kvs := by
  rcases hs with rfl | rfl
  · obtain ⟨p, vs, h1, _, h2, h3, h4, _⟩ := E.dk e; exact ⟨p, vs, h1, h2, h3, h4⟩
  · exact E.rk e
theorem ev_inDk {a : Expr} {x : Str} (ha : EvR C G a (.im (· = x))) (hG : G[i]? = some s) (hs : DSlot s kvs) (hN : C.N[i]? = some y := by rfl) (hv : Vis C.sc y := by first | exact Or.inl rfl | exact Or.inr (Or.inl rfl) | exact Or.inr (Or.inr rfl))
    (hd : (y == ("__debug__" : Str)) = false := by decide) (hcd : (y == ("__classdict__" : Str)) = false := by decide) :
    EvC C G (.Compare a [.In] [.Name y p] pos) (· = decide (x ∈ kvs.map (·.1))) :=
  mk_evc (t := tDIn (tE C a) (tVar i)) (fun X ok => pe_cmp (pc_din (by have := ok.room.units; omega) (pe_tE ok) (pe_var (i := i) (by rw [ok.N]; exact hN) (by rw [ok.sc]; exact hv) hd hcd))) (fun X ok => pt_cmp (pc_din (by have := ok.room.units; omega) (pe_tE ok) (pe_var (i := i) (by rw [ok.N]; exact hN) (by rw [ok.sc]; exact hv) hd hcd))) fun B σ H E Q q =>
    ha B σ H E _ fun v H1 ⟨l, z, e, r⟩ => by
      have ev : v = .str x := by rw [← e]; exact r
      subst ev
      obtain ⟨c, ks, h1, h2, h3, h4⟩ := (E.go l).dsl hG hs
      refine ⟨_, h1, c, _, rfl, DGet.k (k := Sum.inr x) h3, q _ H1 l ?_⟩
      rw [← valS_isSome]
      rcases repK_val x h4 with ⟨e1, e2⟩ | ⟨_, _, e1, e2, _⟩ <;> rw [e1, e2] <;> rfl
theorem ev_atDk {a : Expr} {x : Str} {b : β} (ha : EvR C G a (.im (· = x))) (hG : G[i]? = some s) (hs : DSlot s kvs) (hb : valS kvs x = some b) (hN : C.N[i]? = some y := by rfl) (hv : Vis C.sc y := by first | exact Or.inl rfl | exact Or.inr (Or.inl rfl) | exact Or.inr (Or.inr rfl))
    (hd : (y == ("__debug__" : Str)) = false := by decide) (hcd : (y == ("__classdict__" : Str)) = false := by decide) (hns : NoSl a := by exact fun _ _ => rfl) :
    EvR C G (.Subscript (.Name y p) a pos) (.im (· = b)) := fun B σ H E Q q => by
  refine tE_of (t := tDGet (tVar i) (tE C a)) (fun X ok => pe_dget (by have := ok.room.units; omega) (pe_var (i := i) (by rw [ok.N]; exact hN) (by rw [ok.sc]; exact hv) hd hcd) (pe_tE ok) hns) ?_
  obtain ⟨c, ks, h1, h2, h3, h4⟩ := E.dsl hG hs
  refine ⟨_, h1, ha B σ H E _ fun v H1 ⟨l, z, e, r⟩ => ?_⟩
  have ev : v = .str x := by rw [← e]; exact r
  subst ev
  rcases repK_val x (h4.keep l.tle) with ⟨e1, e2⟩ | ⟨w, b', e1, e2, e3⟩
  · rw [e2] at hb; cases hb
  · rw [e2] at hb; cases hb
    have g := DGet.k (k := Sum.inr x) (l.keep h3 h2)
    rw [e1] at g
    exact ⟨c, w, rfl, g, q w H1 ⟨l, _, rfl, e3⟩⟩
theorem m2_of {X : Cx} {o e f : Expr} {m : Str} {apos cpos : Pos} (h1 : attributeBase o m X.env (eval o X.env) = eval o X.env) (h2 : ((backTo cpos (starEach [e, f] X.env)).all (fun x => !x.1) && (backToKw cpos (keywordEach [] X.env)).all (fun x => x.1.isSome)
    && decide (([e, f] : List Expr).length + ([] : List Keyword).length + (if ([] : List Keyword).isEmpty then 0 else 1) < 30)) = true) (h3 : (apos.endLine == cpos.line) = true) (h4 : backTo cpos (starEach [e, f] X.env) = [(false, eval e X.env), (false, eval f X.env)]) : M2 X o m apos e f cpos := ⟨h1, h2, h3, h4⟩
theorem ev_getDk {a f : Expr} {x : Str} {b : β} {apos : Pos} (ha : EvR C G a (.im (· = x))) (hf : EvR C G f (.im (· = b))) (hG : G[i]? = some s) (hs : DSlot s kvs) (hm : ∀ X, M2 X (.Name y p) "get" apos a f pos := by intro X; exact ⟨rfl, rfl, rfl, rfl⟩) (hN : C.N[i]? = some y := by rfl) (hv : Vis C.sc y := by first | exact Or.inl rfl | exact Or.inr (Or.inl rfl) | exact Or.inr (Or.inr rfl))
    (hd : (y == ("__debug__" : Str)) = false := by decide) (hcd : (y == ("__classdict__" : Str)) = false := by decide) :
    EvR C G (.Call (.Attribute (.Name y p) "get" apos) [a, f] [] pos) (.im (· = (valS kvs x).getD b)) := fun B σ H E Q q => by
  refine tE_of (t := tDGet2 (tVar i) (tE C a) (tE C f)) (fun X ok => pe_dget2 (by have := ok.room.units; omega) (pe_var (i := i) (by rw [ok.N]; exact hN) (by rw [ok.sc]; exact hv) hd hcd) (pe_tE ok) (pe_tE ok) (hm X)) ?_
  obtain ⟨c, ks, h1, h2, h3, h4⟩ := E.dsl hG hs
  refine ⟨_, h1, c, rfl, .inl ⟨ks, .inl h3⟩, ha B σ H E _ fun v H1 ⟨l, z, e, r⟩ => hf B σ H1 (E.go l) _ fun w H2 ⟨l2, z2, e2, r2⟩ => ?_⟩
  have ev : v = .str x := by rw [← e]; exact r
  subst ev e2
  have l3 := l.trans l2
  refine ⟨_, DGet.k (k := Sum.inr x) (l3.keep h3 h2), q _ H2 ⟨l3, _, rfl, ?_⟩⟩
  rcases repK_val x (h4.keep l3.tle) with ⟨e1, e2⟩ | ⟨w', b', e1, e2, e3⟩ <;> rw [e1, e2]
  · exact r2
  · exact e3
theorem ev_lenDk {n : Int} (b : Blt C.T) (hG : G[i]? = some (.dk kvs)) (hn : (kvs.length : Int) = n) (hN : C.N[i]? = some y := by rfl) (hv : Vis C.sc y := by first | exact Or.inl rfl | exact Or.inr (Or.inl rfl) | exact Or.inr (Or.inr rfl))
    (hd : (y == ("__debug__" : Str)) = false := by decide) (hcd : (y == ("__classdict__" : Str)) = false := by decide) (hg : C.sc.names.lookup ("len" : Str) = some .globalImplicit := by rfl) {lp : Pos} :
    EvR C G (.Call (.Name "len" lp) [.Name y p] [] pos) (.im (· = n)) := fun B σ H E Q q => by
  refine ev_blt1 (f := fun xs H Q => ∃ a kvs, xs = [V.ref a] ∧ H a = some (.dK kvs) ∧ Q (.int kvs.length) H) (fun X ok => call_lenD) b.len boot_len ?_ hg (by decide) (by decide) (fun _ => rfl)
  obtain ⟨c, ks, h1, h0, h2, h3, h4, _⟩ := E.dk hG
  exact tE_of (t := tVar i) (fun X ok => pe_var (i := i) (by rw [ok.N]; exact hN) (by rw [ok.sc]; exact hv) hd hcd) ⟨_, h1, c, ks, rfl, h3, q _ H ⟨Le.refl _ _, _, rfl, by rw [h4.len, hn]; rfl⟩⟩
theorem ev_sortedDk (b : Blt C.T) (hG : G[i]? = some s) (hs : DSlot s kvs) (h64 : kvs.length < 64) (hN : C.N[i]? = some y := by rfl) (hv : Vis C.sc y := by first | exact Or.inl rfl | exact Or.inr (Or.inl rfl) | exact Or.inr (Or.inr rfl))
    (hd : (y == ("__debug__" : Str)) = false := by decide) (hcd : (y == ("__classdict__" : Str)) = false := by decide) (hg : C.sc.names.lookup ("sorted" : Str) = some .globalImplicit := by rfl) {lp : Pos} :
    EvR C G (.Call (.Name "sorted" lp) [.Name y p] [] pos) (.ls fun ys : List Str => ys.Perm (kvs.map (·.1)) ∧ sortedS ys = true) := fun B σ H E Q q => by
  refine ev_blt1 (f := fun xs H Q => ∃ (a : Addr) (kvs : List (Key × V)) (ks : List Str), xs = [.ref a] ∧ Rd H a (.dK kvs) ∧ kvs.map (·.1) = ks.map Sum.inr ∧ ks.length < 64 ∧
    ∀ ys p, ys.Perm ks → sortedS ys = true → H p = none → Q (.ref p) (upd H p (.lst (ys.map V.str)))) (fun X ok => call_sortedD ok.calm) b.sorted PyProof.Rows.boot_sorted ?_ hg (by decide) (by decide) (fun _ => rfl)
  obtain ⟨c, ks, h1, h2, h3, h4⟩ := E.dsl hG hs
  refine tE_of (t := tVar i) (fun X ok => pe_var (i := i) (by rw [ok.N]; exact hN) (by rw [ok.sc]; exact hv) hd hcd) ⟨_, h1, c, ks, kvs.map (·.1), rfl, .inl h3, h4.keys, by rw [List.length_map]; exact h64, fun ys t hp hy ht => ?_⟩
  exact q _ _ ⟨Le.new ht, t, _, ys, rfl, ht, upd_same, reps_str.mpr rfl, hp, hy⟩
end
theorem dc_it {J : It} {n : Nat} {Gd : Hp → Prop} {Y : Nat → Hp → V → Hp → Prop} (w : Walk J n Gd Y) {g : TG} {tt : TT} {tk tv : TE} {vs : List Nat} {σ : L2.St} {H1 : Hp} {D : Addr} {Qd : Hp → Prop} (Pv : Nat → Hp → Prop) (h0 : Pv 0 (upd H1 D (.dK []))) (hG : ∀ i H, i ≤ n → Pv i H → Gd H)
    (hs : ∀ i x H H', i < n → Pv i H → Y i H x H' → g x (wipe σ vs) H' fun σ2 H2 => wipe σ2 vs = wipe σ vs ∧ tt σ2 H2 fun b H3 =>
      if b = true then tk σ2 H3 fun y H4 => tv σ2 H4 fun z H5 => ∃ kvs k, y = kV k ∧ H5 D = some (.dK kvs) ∧ kvs.length < sizeLine ∧ Pv (i + 1) (upd H5 D (.dK (putK kvs k z))) else Pv (i + 1) H3) (hd : ∀ H, Pv n H → Qd H) :
    ∃ W : Nat → Nat → Hp → Prop, (∃ m, W 0 m (upd H1 D (.dK []))) ∧ ∀ i m H, W i m H →
      (J.stop i H ∧ Qd H) ∨ (J.go i H ∧ ∃ Nx : Hp → Prop, (∀ H', Nx H' → ∃ m', m' < m ∧ W (i + 1) m' H') ∧ ∀ x H', J.yld i H x H' → g x (wipe σ vs) H' fun σ2 H2 => wipe σ2 vs = wipe σ vs ∧ tt σ2 H2 fun b H3 =>
        if b = true then tk σ2 H3 fun y H4 => tv σ2 H4 fun z H5 => ∃ kvs k, y = kV k ∧ H5 D = some (.dK kvs) ∧ kvs.length < sizeLine ∧ Nx (upd H5 D (.dK (putK kvs k z))) else Nx H3) := by
  refine ⟨fun i m H => m = n - i ∧ i ≤ n ∧ Pv i H, ⟨n, by simp, Nat.zero_le _, h0⟩, ?_⟩
  rintro i m H ⟨rfl, hi, p⟩
  have q := hG i H hi p
  by_cases hlt : i < n
  · refine .inr ⟨w.goes i H hlt q, Pv (i + 1), fun H' p' => ⟨n - (i + 1), by omega, rfl, hlt, p'⟩, fun x H' y => hs i x H H' hlt p (w.yields i H x H' hlt q y)⟩
  · have e : i = n := by omega
    subst e
    exact .inl ⟨w.stops H q, hd H p⟩
theorem putS_len {κ β : Type} [DecidableEq κ] (kvs : List (κ × β)) (k : κ) (b : β) : (putS kvs k b).length ≤ kvs.length + 1 := by
  unfold putS
  split
  · rw [List.length_map]; omega
  · rw [List.length_append, List.length_cons, List.length_nil]; omega
theorem putAll_len {κ β : Type} [DecidableEq κ] : ∀ (more kvs : List (κ × β)), (putAll kvs more).length ≤ kvs.length + more.length
  | [], kvs => Nat.le_refl _
  | p :: r, kvs => by
    have h1 := putAll_len r (putS kvs p.1 p.2)
    have h2 := putS_len kvs p.1 p.2
    show (putAll (putS kvs p.1 p.2) r).length ≤ _
    rw [List.length_cons]; omega
theorem ps_setDc {X : Cx} {i : Nat} {y : Str} {py : Pos} {kx vx tg iter : Expr} {ifs : List Expr} {scope : Scope} {own : List (Str × Nat)} {pos spos : Pos} {wi : TI} {g : TG} {tt : TT} {tk tv : TE} (hc : X.calm = true) (hN : X.N.Nodup) (hy : X.N[i]? = some y) (hyl : X.env.scope.names.lookup y = some .local)
    (hsw : swapsWith (.DictComp kx vx [⟨tg, iter, ifs, 0⟩] scope pos) (some (.Name y py)) spos.line X.env = pure true) (hi : PI X tg iter wi) (ok : BlkOk X.N X.env.scope scope own)
    (hg : ∀ (s : Shared) (H : Hp) (C : Addr) (cl : List (Str × Addr)) (fp : List Addr), PG (X.blk s H scope (compEnvC scope cl C X.env) fp) tg g) (ht : ∀ (s : Shared) (H : Hp) (C : Addr) (cl : List (Str × Addr)) (fp : List Addr), PTs (X.blk s H scope (compEnvC scope cl C X.env) fp) ifs tt)
    (hk : ∀ (s : Shared) (H : Hp) (C : Addr) (cl : List (Str × Addr)) (fp : List Addr), PE (X.blk s H scope (compEnvC scope cl C X.env) fp) kx tk)
    (he : ∀ (s : Shared) (H : Hp) (C : Addr) (cl : List (Str × Addr)) (fp : List Addr), PE (X.blk s H scope (compEnvC scope cl C X.env) fp) vx tv) (hs : ∀ x, foldedSetIterable iter X.env x = pure x) :
    PS X (.Assign [.Name y py] (.DictComp kx vx [⟨tg, iter, ifs, 0⟩] scope pos) spos) (tAsg (tDc wi g tt tk tv (own.map (·.2))) (gName i)) := by
  refine ⟨fun pins s σ H D I h => ?_⟩
  rw [exec_Assign_Name_used _ _ _ _ hsw]
  refine wpAny_bind (wpAny_standAt (wpAny_bind ?_))
  show wpAny _ X.A (do let _ ← comprehension (.DictComp kx vx [⟨tg, iter, ifs, 0⟩] scope pos) scope X.env (firstIterPos [⟨tg, iter, ifs, 0⟩] pos) newDict false (eval iter X.env) (some (assign (.Name y py) X.env))) _ _ s
  have h : tDc wi g tt tk tv (own.map (·.2)) σ H (fun x H1 => gName i x σ H1 D.nx) := h
  refine wpAny_bind (thn (dc_core (Qf := fun _ s' => SP X pins D .next s') hc hN I hi ok hg ht hk he hs h fun L C s' m H' I' q hn f => ?_) fun _ s' hq => wpAny_pure (wpAny_pure hq))
  show wpAny _ _ (assign (.Name y py) X.env (.ref L)) _ _ _
  refine wpAny_assign_Name (store_ok2 (v := V.ref L) I' hN hy (.inl hyl) rfl (fun s2 I2 ⟨a, sb, ha⟩ => ?_) (.inr hyl))
  obtain ⟨f0, f1, f2, f3, f4, f5⟩ := f
  have haC : C ≠ a := by
    rcases ha with z | z
    · rw [z]; exact f1
    · exact fun e => f4 y a z e.symm
  refine ⟨m, hn.sameBut sb haC, fun h3 sb3 => ?_⟩
  exact ⟨_, H', I2.turned (t' := s2.toks) (fun b o hb e => (sb3.2 b hb).trans e) f0 f1 f3 f4 f5, q⟩
theorem sw_trueD {kx vx : Expr} {gs : List Comprehension} {scope : Scope} {pos py : Pos} {y : Str} {l : Nat} {env : PySem.Env} (hk : env.scope.kind = .function) (hy : env.scope.names.lookup y = some .local) (hl : (py.line == pos.line) = true)
    (ha : (scope.names.any fun (n, k) => n == y && (k == .local || k == .cell)) = false) : swapsWith (.DictComp kx vx gs scope pos) (some (.Name y py)) l env = pure true := by
  have ky : env.kindOf y = some .local := hy
  have hb : env.blockKind = .function := by unfold Env.blockKind; rw [hk]; rfl
  unfold swapsWith
  simp only [hb, ky, ha, Expr.pos, hl]
  rfl
def DcOk (C : Cg) (G : List Slot) (kx vx tg iter : Expr) (scope : Scope) (own : List (Str × Nat)) {β : Type} [Im β] (kvs : List (Str × β)) : Prop := ∃ g : TG, (∀ X, Cok C X → BlkOk X.N X.env.scope scope own ∧ ∀ s H Ca cl fp, PG (X.blk s H scope (compEnvC scope cl Ca X.env) fp) tg g) ∧
  ∀ B σ H, Env C.d B G σ H → ∀ Q : VK, (∀ v H2, retIs C.d H (.dk (· = kvs)) v H2 → Q v H2) → tDc (tI C tg iter) g tYes (tE (C.blk scope) kx) (tE (C.blk scope) vx) (own.map (·.2)) σ H Q
theorem mk_dc {α β : Type} [Im α] [Im β] {kx vx tg iter : Expr} {scope : Scope} {own : List (Str × Nat)} {xs : List α} {put : α → List Slot → List Slot} {ws : List Nat} (fk : α → Str) (fv : α → β)
    (hl : G.length = C.N.length) (hi : EvI C G tg iter (· = xs)) (ok : blkC C.N C.sc scope own = true) (hb : Bnd (C.blk scope) tg put ws) (hw : ∀ j ∈ ws, j ∈ own.map (·.2))
    (hk : ∀ x ∈ xs, EvR (C.blk scope) (put x (wipeG G (own.map (·.2)))) kx (.im (· = fk x))) (hv : ∀ x ∈ xs, EvR (C.blk scope) (put x (wipeG G (own.map (·.2)))) vx (.im (· = fv x))) :
    DcOk C G kx vx tg iter scope own (putAll [] (xs.map fun x => (fk x, fv x))) := by
  obtain ⟨g, hg, hpl, hbind⟩ := hb
  refine ⟨g, fun X okX => ⟨by rw [okX.N, okX.sc]; exact blkOk_by ok, fun s H Ca cl fp => hg _ okX.blk⟩, fun B σ H E Q q => ?_⟩
  have E0 := E
  obtain ⟨le, Di, ln, ow0, ow⟩ := E
  refine hi B σ H ow0 le Di ln ow _ fun J H1 xs' cs l p w hcs => fun Da hD => ?_
  subst p
  have kp : ∀ H', Le C.d H1 H' → TLe H1 H' ∧ ∀ a ∈ cs, H' a = H1 a := fun H' k => ⟨k.tle, fun a ha => by
    obtain ⟨h1, h2, o, h3⟩ := hcs a ha
    rw [h3]
    exact k.keep h3 h2⟩
  refine dc_it (w.2 (fun H' => Le C.d H1 H') kp) (fun i H' => Le C.d H1 H' ∧ ∃ acc, H' Da = some (.dK acc) ∧ RepK H' acc (putAll [] ((xs'.take i).map fun x => (fk x, fv x)))) ⟨Le.new hD, [], upd_same, by rw [List.take_zero]; exact trivial⟩ (fun i H' _ h => h.1) ?_ ?_
  · rintro i v H' H'' hlt ⟨k, acc, hA, hr⟩ ⟨sm, x, hx, r⟩
    have hmem : x ∈ xs' := List.mem_of_getElem? hx
    have ED : Env C.d B (wipeG G (own.map (·.2))) (wipe σ (own.map (·.2))) H'' := (((E0.go l).go k).go (Le.of_same sm)).wipe _
    have htk : (xs'.take (i + 1)).map (fun x => (fk x, fv x)) = (xs'.take i).map (fun x => (fk x, fv x)) ++ [(fk x, fv x)] := by
      rw [List.take_add_one, hx, List.map_append]; rfl
    refine hbind B _ _ H'' v x _ ED (by rw [wipeG_length]; exact hl) r fun σ2 E2 hwp => ⟨by rw [hwp _ hw, wipe_wipe], ?_⟩
    replace E2 := E2 _ _ (TLe.refl _) ED
    unfold tYes
    show ite _ _ _
    rw [if_pos rfl]
    have D1 : C.d ≠ some Da := fun z => by
      obtain ⟨o, h1, _⟩ := (Di.le le).le l Da z
      rw [hD] at h1
      cases h1
    have hsz := w.1
    refine hk x hmem B σ2 H'' E2 _ fun y H4 ⟨k4, y', ey, ry⟩ => hv x hmem B σ2 H4 (E2.go k4) _ fun z H5 ⟨k5, z', ez, rz⟩ => ?_
    have ev : y = .str (fk x) := by rw [← ey]; exact ry
    subst ev ez
    have k45 : Le C.d H' H5 := ((Le.of_same sm).trans k4).trans k5
    have hA4 : H5 Da = some (.dK acc) := k45.keep hA D1
    have hal : acc.length ≤ i := by
      rw [hr.len]
      have := putAll_len ((xs'.take i).map fun x => (fk x, fv x)) []
      rw [List.length_map, List.length_take, List.length_nil] at this
      omega
    refine ⟨acc, Sum.inr (fk x), rfl, hA4, by omega, (k.trans k45).mut hD, _, upd_same, ?_⟩
    have tl : TLe H5 (upd H5 Da (.dK (putK acc (Sum.inr (fk x)) z))) := TLe.upd fun o ho => by rw [hA4] at ho; cases ho; exact id
    rw [htk]
    unfold putAll
    rw [List.foldl_append]
    exact RepK.put ((hr.keep k45.tle).keep tl) (Im.keep tl rz)
  · rintro H' ⟨k, acc, hA, hr⟩
    rw [List.take_length] at hr
    exact q _ H' ⟨l.trans k, Da, acc, _, rfl, l.free hD, hA, hr, rfl⟩
theorem ev_dcOk {β : Type} [Im β] {kx vx tg iter : Expr} {scope : Scope} {own : List (Str × Nat)} {pos : Pos} {kvs : List (Str × β)} (h : DcOk C G kx vx tg iter scope own kvs) (hs : ∀ env x, foldedSetIterable iter env x = pure x := by intro _ _; rfl) :
    EvR C G (.DictComp kx vx [⟨tg, iter, [], 0⟩] scope pos) (.dk (· = kvs)) := fun B σ H E Q q => by
  obtain ⟨g, h1, h2⟩ := h
  exact tE_of (t := tDc (tI C tg iter) g tYes (tE (C.blk scope) kx) (tE (C.blk scope) vx) (own.map (·.2))) (fun X okX => pe_dc okX.calm (by rw [okX.N]; exact okX.nd) (pi_tI okX) (h1 X okX).1 (h1 X okX).2 (fun s H Ca cl fp => pts_nil) (fun s H Ca cl fp => pe_tE okX.blk) (fun s H Ca cl fp => pe_tE okX.blk) (hs _)) (h2 B σ H E Q q)
theorem run_setDc {β : Type} [Im β] {i : Nat} {x : Str} {pos pos' lpos : Pos} {rest : List Stmt} {D : GEnds} {K : List Slot → Prop} {kx vx tg iter : Expr} {scope : Scope} {own : List (Str × Nat)} {kvs : List (Str × β)} (h : DcOk C G kx vx tg iter scope own kvs)
    (hk : ∀ B σ H v H2, Env C.d B G σ H → retIs C.d H (.dk (· = kvs)) v H2 → ∃ G', K G' ∧ Env C.d B G' (σ.set i (some v)) H2) (k : ∀ G', K G' → Run C G' rest D) (hN : C.N[i]? = some x := by rfl)
    (hx : C.sc.names.lookup x = some .local := by rfl) (hk0 : C.sc.kind = .function := by rfl) (hln : (pos'.line == lpos.line) = true := by rfl) (han : (scope.names.any fun (n, k) => n == x && (k == .local || k == .cell)) = false := by decide +kernel)
    (hs : ∀ env x, foldedSetIterable iter env x = pure x := by intro _ _; rfl) : Run C G (.Assign [.Name x pos'] (.DictComp kx vx [⟨tg, iter, [], 0⟩] scope lpos) pos :: rest) D := fun B σ H E => by
  obtain ⟨g, h1, h2⟩ := h
  refine tSs_of (t := tSeq (tAsg (tDc (tI C tg iter) g tYes (tE (C.blk scope) kx) (tE (C.blk scope) vx) (own.map (·.2))) (gName i)) (tSs C rest)) (fun X okX => pss_cons (ps_setDc okX.calm (by rw [okX.N]; exact okX.nd) (by rw [okX.N]; exact hN) (by rw [okX.sc]; exact hx)
    (sw_trueD (by rw [okX.sc]; exact hk0) (by rw [okX.sc]; exact hx) hln han) (pi_tI okX) (h1 X okX).1 (h1 X okX).2 (fun s H Ca cl fp => pts_nil) (fun s H Ca cl fp => pe_tE okX.blk) (fun s H Ca cl fp => pe_tE okX.blk) (hs _)) (pss_tS okX)) ?_
  refine h2 B σ H E (fun v H2 => tSs C rest (ends C.d B D) (σ.set i (some v)) H2) fun v H2 hv => ?_
  obtain ⟨G', hG, E'⟩ := hk B σ H v H2 E hv
  exact k G' hG B _ H2 E'
def rUpdK : V → List V → Hp → VK → Prop := fun x xs H Q => ∃ (a b : Addr) (ks ms : List (Key × V)), x = .ref a ∧ xs = [.ref b] ∧ a ≠ b ∧ H a = some (.dK ks) ∧ H b = some (.dK ms) ∧ ks.length + ms.length ≤ sizeLine ∧ Q .non (upd H a (.dK (mergeK ks ms)))
theorem mt_updateK {X : Cx} : MtR X "dict.update" rUpdK := by
  intro pins s σ H x xs v us Q I rx rxs h
  obtain ⟨a, b, ks, ms, rfl, rfl, hne, ha, hb, hz, q⟩ := h
  obtain rfl : v = Value.ref a := rx
  obtain ⟨u, rfl, ru⟩ := vals1 rxs
  obtain rfl : u = Value.ref b := ru
  obtain ⟨za, hda, va, ra, dda⟩ := dk_of I.hok ha
  obtain ⟨zb, hdb, vb, rb, ddb⟩ := dk_of I.hok hb
  refine call_meetsIn PySem.F.slot_dict_update dda.typeIs PySem.F.entry_dict_update (PySem.F.args_dict_update_2 _ _) (meets_dict_update (mixKind X.prog X.w) a b hne hdb) ⟨va, vb, dda, ddb, (by rw [← ra.length, ← rb.length]; exact hz), fun h' dd' _ hs => ?_⟩
  have he : ∃ q, h'.get? a = some q := let ⟨q, _, _, hq, _⟩ := dd'; ⟨q, hq⟩
  have hl := length_mergeK ms ks
  exact ⟨.non, _, d_write (t' := s.toks) I (by rw [ha]; exact True.intro) hs he (dk_new (by omega) hda (rb.merge ra) dd'), rfl, q⟩
theorem own_dk {d : Option Addr} {B H : Hp} {σ : L2.St} {β : Type} [Im β] {kvs kvs' : List (Str × β)} {i : Nat} (E : Env d B G σ H) (e : G[i]? = some (.dk kvs)) : ∃ p ks, σ[i]? = some (some (.ref p)) ∧ d ≠ some p ∧ H p = some (.dK ks) ∧ RepK H ks kvs ∧
    ∀ H1 ks', Le d H H1 → RepK H1 ks' kvs' → Env d B (G.set i (.dk kvs')) σ (upd H1 p (.dK ks')) := by
  obtain ⟨p, ks, h1, h0, h2, h3, h4, h5⟩ := E.dk e
  refine ⟨p, ks, h1, h2, h3, h4, fun H1 ks' l r => ?_⟩
  have hp1 : H1 p = some (.dK ks) := l.keep h3 h2
  have tl : TLe H1 (upd H1 p (.dK ks')) := TLe.upd fun o ho => by rw [hp1] at ho; cases ho; exact id
  exact Env.put (s := .no) (E.go l) h1 h0 (fun own ow => by
    obtain ⟨p', _, g1, _, _, _, _, g5⟩ := (E.go l).dk e
    rw [h1] at g1
    cases g1
    exact g5 own ow) hp1 id ⟨ks', upd_same, r.keep tl⟩
theorem run_updK {β : Type} [Im β] {kvs more : List (Str × β)} {i : Nat} {y : Str} {p apos pos pos' : Pos} {e : Expr} {rest : List Stmt} {D : GEnds} (he : EvR C G e (.dk (· = more))) (hG : G[i]? = some (.dk kvs)) (hz : kvs.length + more.length ≤ 100000) (k : Run C (G.set i (.dk (putAll kvs more))) rest D)
    (hN : C.N[i]? = some y := by rfl) (hv : Vis C.sc y := by first | exact Or.inl rfl | exact Or.inr (Or.inl rfl) | exact Or.inr (Or.inr rfl))
    (hd : (y == ("__debug__" : Str)) = false := by decide) (hcd : (y == ("__classdict__" : Str)) = false := by decide) (hs : ∀ env, swapsWith (.Call (.Attribute (.Name y p) "update" apos) [e] [] pos) none pos'.line env = pure false := by intro _; rfl)
    (hbase : ∀ env, attributeBase (.Name y p) "update" env (eval (.Name y p) env) = eval (.Name y p) env := by intro _; rfl)
    (hfew : ∀ env, ((backTo pos (starEach [e] env)).all (fun x => !x.1) && (backToKw pos (keywordEach [] env)).all (fun x => x.1.isSome)
      && decide (([e] : List Expr).length + ([] : List Keyword).length + (if ([] : List Keyword).isEmpty then 0 else 1) < 30)) = true := by intro _; rfl)
    (hline : (apos.endLine == pos.line) = true := by rfl) (hst : ∀ env, starEach [e] env = (false, eval e env) :: starEach [] env := by intro _; rfl) (hpl : ∀ env, (backTo pos (starEach [] env)).any (·.1) = false := by intro _; rfl) :
    Run C G (.Expr (.Call (.Attribute (.Name y p) "update" apos) [e] [] pos) pos' :: rest) D := fun B σ H E => by
  refine tSs_of (t := tSeq (tDrop (tBM C.T.K "dict" rUpdK (tVar i) (tCons (tE C e) tNil))) (tSs C rest)) (fun X ok => pss_cons (ps_expr (by
    rw [← ok.K]
    exact pe_bm F.plainAttrs_dict F.slot_dict_update F.type_dict_update mt_updateK (pe_var (i := i) (by rw [ok.N]; exact hN) (by rw [ok.sc]; exact hv) hd hcd) (pa_cons (pe_tE ok) pa_nil (hst _)) (hbase _) (hfew _) hline (hst _) (hpl _)) (hs _)) (pss_tS ok)) ?_
  obtain ⟨c, ks, h1, h2, h3, h4, h5⟩ := own_dk (kvs' := putAll kvs more) E hG
  refine ⟨_, h1, ?_, he B σ H E _ fun v H1 ⟨l, t, ms, mvs, ev, n, ht, r, px⟩ => ?_⟩
  · exact .inr (.inr (.inl ⟨rfl, .inl ⟨ks, h3⟩⟩))
  subst ev px
  refine ⟨c, t, ks, ms, rfl, rfl, (fun z => by rw [z, n] at h3; cases h3), l.keep h3 h2, ht, by rw [h4.len, r.len, sizeLine_eq]; omega, ?_⟩
  exact k B σ _ (h5 H1 _ l ((h4.keep l.tle).putAll r))
end Mk
-- MkSeq
namespace Mk
open Im (rep)
open PySem PySem.Spec PyProof.Rows L2
variable {C : Cg} {G : List Slot}
section
variable {α β : Type} [Im α] [Im β] {H : Hp}
theorem Reps.atI {vs : List V} {xs : List α} {n : Int} {x : α} (r : Reps H vs xs) (h : L2.atI xs n = some x) : ∃ v, L2.atI vs n = some v ∧ rep H v x := by
  unfold L2.atI at h ⊢
  rw [r.len]
  cases q : ixN xs.length n with
  | none => rw [q] at h; cases h
  | some j =>
    rw [q] at h
    exact r.get' h
theorem atI_nat {xs : List α} {j : Nat} {x : α} (h : xs[j]? = some x) : L2.atI xs (j : Int) = some x := by
  have hj : j < xs.length := (List.getElem?_eq_some_iff.mp h).1
  unfold L2.atI ixN
  rw [if_pos (by omega), if_pos (by omega)]
  exact h
theorem atI_last {xs : List α} {x : α} (h : xs.getLast? = some x) : L2.atI xs (-1) = some x := by
  rw [List.getLast?_eq_getElem?] at h
  have hj := (List.getElem?_eq_some_iff.mp h).1
  have e : ixN xs.length (-1) = some (xs.length - 1) := by
    unfold ixN
    rw [if_neg (by omega), if_pos (by omega)]
    congr 1
    omega
  show (ixN xs.length (-1)).bind _ = some x
  rw [e]
  exact h
theorem ev_ix {e b : Expr} {pos : Pos} {P : List α → Prop} {S : Int → Prop} {R : α → Prop} (he : EvSq C G e P) (hb : EvR C G b (.im S)) (h : ∀ xs n, P xs → S n → ∃ x, L2.atI xs n = some x ∧ R x) (hs : PlainIx b := by exact fun _ _ => rfl) :
    EvR C G (.Subscript e b pos) (.im R) := fun B σ H E Q q => by
  refine tE_of (t := tOp (rIx C.T.K) (tE C e) (tE C b)) (fun X ok => by rw [← ok.K]; exact pe_ix ix_seq (pe_tE ok) (pe_tE ok) hs) ?_
  refine he B σ H E _ fun v H1 xs l p ⟨a, vs, ev, ha, nd, r⟩ => hb B σ H1 (E.go l) _ fun w H2 ⟨l2, n, sn, rn⟩ => ?_
  obtain ⟨x, hx, rx⟩ := h xs n p sn
  obtain ⟨u, hu, ru⟩ := (r.keep l2.tle).atI hx
  have ew : w = .int n := rn
  subst ew ev
  rcases ha with ha | ha
  · exact .inl ⟨a, vs, n, u, rfl, rfl, .inl (.inl (l2.keep ha nd)), hu, q u H2 ⟨l.trans l2, x, rx, ru⟩⟩
  · exact .inr (.inl ⟨a, vs, n, u, rfl, rfl, .inl (.inl (l2.keep ha nd)), hu, q u H2 ⟨l.trans l2, x, rx, ru⟩⟩)
theorem ev_fst {e : Expr} {j p pos : _} {P : α × β → Prop} {R : α → Prop} (he : EvR C G e (.im P)) (h : ∀ x, P x → R x.1) : EvR C G (.Subscript e (.Constant (.int 0) j p) pos) (.im R) := fun B σ H E Q q => by
  refine tE_of (t := tOp (rIx C.T.K) (tE C e) (tE C (.Constant (.int 0) j p))) (fun X ok => by rw [← ok.K]; exact pe_ix ix_seq (pe_tE ok) (pe_tE ok) (fun _ _ => rfl)) ?_
  refine he B σ H E _ fun v H1 ⟨l, x, px, a, u, w, ev, ha, r1, r2⟩ => tE_of (fun X ok => pe_int) ?_
  exact .inr (.inl ⟨a, [u, w], 0, u, ev, rfl, .inl (.inl ha), rfl, q u H1 ⟨l, x.1, h x px, r1⟩⟩)
theorem ev_snd {e : Expr} {j p pos : _} {P : α × β → Prop} {R : β → Prop} (he : EvR C G e (.im P)) (h : ∀ x, P x → R x.2) : EvR C G (.Subscript e (.Constant (.int 1) j p) pos) (.im R) := fun B σ H E Q q => by
  refine tE_of (t := tOp (rIx C.T.K) (tE C e) (tE C (.Constant (.int 1) j p))) (fun X ok => by rw [← ok.K]; exact pe_ix ix_seq (pe_tE ok) (pe_tE ok) (fun _ _ => rfl)) ?_
  refine he B σ H E _ fun v H1 ⟨l, x, px, a, u, w, ev, ha, r1, r2⟩ => tE_of (fun X ok => pe_int) ?_
  exact .inr (.inl ⟨a, [u, w], 1, w, ev, rfl, .inl (.inl ha), rfl, q w H1 ⟨l, x.2, h x px, r2⟩⟩)
theorem argsOk_im : ∀ {d : Option Addr} {H : Hp} {vs : List V} {xs : List α}, ArgsOk d H vs (xs.map fun x => .im x) → Reps H vs xs
  | _, _, [], [], _ => trivial
  | _, _, [], _ :: _, h => h.elim
  | _, _, _ :: _, [], h => h.elim
  | _, _, v :: vs, x :: xs, h => by
    obtain ⟨⟨v', e, r⟩, h2⟩ := h
    cases e
    exact ⟨r, argsOk_im h2⟩
theorem ev_tupL {es : List Expr} {k pos : _} {P : List Slot → Prop} {R : List α → Prop} (he : EvA C G es P) (h : ∀ ss, P ss → ∃ xs : List α, ss = xs.map (fun x => .im x) ∧ R xs ∧ xs.length ≤ 100000) : EvR C G (.Tuple es k pos) (.im R) := fun B σ H E Q q => by
  refine tE_of (t := tTup (tA C es)) (fun X ok => pe_tup (pa_tA ok)) ?_
  refine he B σ H E _ fun vs H1 ss l p a => ?_
  obtain ⟨xs, e, rx, hl⟩ := h ss p
  subst e
  have r := argsOk_im a
  exact ⟨by rw [r.len, sizeLine_eq]; omega, fun t ht => q _ _ ⟨l.trans (Le.new ht), xs, rx, t, vs, rfl, upd_same, r.keep (Le.new (d := none) ht).tle⟩⟩
theorem ev_lstL {es : List Expr} {pos : _} {P : List Slot → Prop} {R : List α → Prop} (he : EvA C G es P) (h : ∀ ss, P ss → ∃ xs : List α, ss = xs.map (fun x => .im x) ∧ R xs ∧ xs.length ≤ 100000) : EvR C G (.List es pos) (.ls R) := fun B σ H E Q q => by
  refine tE_of (t := tLst (tA C es)) (fun X ok => pe_lst (pa_tA ok)) ?_
  refine he B σ H E _ fun vs H1 ss l p a => ?_
  obtain ⟨xs, e, rx, hl⟩ := h ss p
  subst e
  have r := argsOk_im a
  exact ⟨by rw [r.len, sizeLine_eq]; omega, fun t ht => q _ _ ⟨l.trans (Le.new ht), t, vs, xs, rfl, l.free ht, upd_same, r.keep (Le.new (d := none) ht).tle, rx⟩⟩
theorem ev_tup0 {k pos : _} : EvR C G (.Tuple [] k pos) (.im (· = ([] : List α))) := ev_tupL ea_nil fun ss e => ⟨[], e, rfl, by simp⟩
theorem ev_lst0 {pos : _} : EvR C G (.List [] pos) (.ls (· = ([] : List α))) := ev_lstL ea_nil fun ss e => ⟨[], e, rfl, by simp⟩
theorem ev_tup1 {e : Expr} {k pos : _} {P : α → Prop} (he : EvR C G e (.im P)) (hs : ∀ env, starEach [e] env = (false, eval e env) :: starEach [] env := by intro _; rfl) : EvR C G (.Tuple [e] k pos) (.im fun xs : List α => ∃ x, P x ∧ xs = [x]) :=
  ev_tupL (ea_imP he ea_nil hs) fun ss ⟨x, ss', p, e', e⟩ => ⟨[x], by rw [e, e']; rfl, ⟨x, p, rfl⟩, by simp⟩
theorem ev_lst1 {e : Expr} {pos : _} {P : α → Prop} (he : EvR C G e (.im P)) (hs : ∀ env, starEach [e] env = (false, eval e env) :: starEach [] env := by intro _; rfl) : EvR C G (.List [e] pos) (.ls fun xs : List α => ∃ x, P x ∧ xs = [x]) :=
  ev_lstL (ea_imP he ea_nil hs) fun ss ⟨x, ss', p, e', e⟩ => ⟨[x], by rw [e, e']; rfl, ⟨x, p, rfl⟩, by simp⟩
theorem ev_pair {a b : Expr} {k pos : _} {P : α → Prop} {R : β → Prop} (ha : EvR C G a (.im P)) (hb : EvR C G b (.im R)) (hs : ∀ env, starEach [a, b] env = (false, eval a env) :: starEach [b] env := by intro _; rfl) (hs2 : ∀ env, starEach [b] env = (false, eval b env) :: starEach [] env := by intro _; rfl) :
    EvR C G (.Tuple [a, b] k pos) (.im fun x : α × β => P x.1 ∧ R x.2) := fun B σ H E Q q => by
  refine tE_of (t := tTup (tA C [a, b])) (fun X ok => pe_tup (pa_tA ok)) ?_
  refine ea_imP ha (ea_imP hb ea_nil hs2) hs B σ H E _ fun vs H1 ss l ⟨x, ss1, px, ⟨y, ss2, py, e0, e1⟩, e2⟩ a => ?_
  rw [e2, e1, e0] at a
  match vs, a with
  | [v, w], ⟨⟨v', ev, rv⟩, ⟨w', ew, rw'⟩, _⟩ =>
    cases ev
    cases ew
    have tl {t o} (ht : H1 t = none) : TLe H1 (upd H1 t o) := (Le.new (d := none) ht).tle
    exact ⟨by rw [sizeLine_eq]; simp, fun t ht => q _ _ ⟨l.trans (Le.new ht), (x, y), ⟨px, py⟩, t, v, w, rfl, upd_same, Im.keep (tl ht) rv, Im.keep (tl ht) rw'⟩⟩
theorem ev_pairE {a b : Expr} {k pos : _} {x : α} {y : β} (ha : EvR C G a (.im (· = x))) (hb : EvR C G b (.im (· = y))) (hs : ∀ env, starEach [a, b] env = (false, eval a env) :: starEach [b] env := by intro _; rfl) (hs2 : ∀ env, starEach [b] env = (false, eval b env) :: starEach [] env := by intro _; rfl) :
    EvR C G (.Tuple [a, b] k pos) (.im (· = (x, y))) := (ev_pair ha hb hs hs2).imp fun z ⟨h1, h2⟩ => by cases z; cases h1; cases h2; rfl
theorem ev_star1 {e b : Expr} {k pos sp : _} {P : List α → Prop} {R : α → Prop} (he : EvSq C G e P) (hb : EvR C G b (.im R)) (hz : ∀ xs, P xs → xs.length ≤ 10000) (hs : ∀ env, starEach (.Starred e sp :: [b]) env = (true, eval e env) :: starEach [b] env := by intro _; rfl)
    (hs2 : ∀ env, starEach [b] env = (false, eval b env) :: starEach [] env := by intro _; rfl) : EvR C G (.Tuple [.Starred e sp, b] k pos) (.im fun xs : List α => ∃ ys y, P ys ∧ R y ∧ xs = ys ++ [y]) := fun B σ H E Q q => by
  refine tE_of (t := tTup (StX.tStar C.T.K (tE C e) (tCons (tE C b) tNil))) (fun X ok => pe_tup (by rw [← ok.K]; exact StX.pa_star (pe_tE ok) (pa_cons (pe_tE ok) pa_nil (hs2 _)) (hs _))) ?_
  refine he B σ H E _ fun v H1 xs l p ⟨a, vs, ev, ha, nd, r⟩ => ⟨a, vs, ev, ?_, hb B σ H1 (E.go l) _ fun w H2 ⟨l2, y, py, ry⟩ => ?_⟩
  · rcases SeqIs.sq (K := C.T.K) ha with z | z
    · exact .inr z
    · exact .inl z
  · have r2 := (r.keep l2.tle).app (.one ry)
    exact ⟨by rw [r2.len, List.length_append, sizeLine_eq]; have := hz xs p; simp only [List.length_singleton]; omega, fun t ht => q _ _ ⟨(l.trans l2).trans (Le.new ht), xs ++ [y], ⟨xs, y, p, py, rfl⟩, t, _, rfl, upd_same, r2.keep (Le.new (d := none) ht).tle⟩⟩
theorem ev_catT {a b : Expr} {pos : Pos} {P R : List α → Prop} (ha : EvR C G a (.im P)) (hb : EvR C G b (.im R)) (hz : ∀ xs ys, P xs → R ys → xs.length + ys.length ≤ 100000) : EvR C G (.BinOp a .Add b pos) (.im fun zs : List α => ∃ xs ys, P xs ∧ R ys ∧ zs = xs ++ ys) :=
  ev_op2 (f := rCatA C.T.K) (fun X ok => by rw [← ok.K]; exact op_catA) ha hb fun xs ys v w H px py r1 r2 Q q => by
    obtain ⟨a1, vs, rfl, h1, g1⟩ := r1
    obtain ⟨a2, ws, rfl, h2, g2⟩ := r2
    refine ⟨a1, a2, vs, ws, rfl, rfl, .inl (.inl h1), .inl (.inl h2), by rw [g1.len, g2.len, sizeLine_eq]; have := hz xs ys px py; omega, fun e => ?_, fun _ e => ?_, fun _ _ t ht => ?_⟩
    · have e' : xs = [] := by cases xs with
        | nil => rfl
        | cons x xs => rw [e] at g1; exact g1.elim
      exact q _ _ ⟨Le.refl _ _, ys, ⟨xs, ys, px, py, by rw [e', List.nil_append]⟩, a2, ws, rfl, h2, g2⟩
    · have e' : ys = [] := by cases ys with
        | nil => rfl
        | cons x xs => rw [e] at g2; exact g2.elim
      exact q _ _ ⟨Le.refl _ _, xs, ⟨xs, ys, px, py, by rw [e', List.append_nil]⟩, a1, vs, rfl, h1, g1⟩
    · exact q _ _ ⟨Le.new ht, xs ++ ys, ⟨xs, ys, px, py, rfl⟩, t, vs ++ ws, rfl, upd_same, (g1.app g2).keep (Le.new (d := none) ht).tle⟩
def LstIs (d : Option Addr) (H : Hp) (v : V) (xs : List α) : Prop := ∃ a vs, v = .ref a ∧ H a = some (.lst vs) ∧ d ≠ some a ∧ Reps H vs xs
def EvL (C : Cg) (G : List Slot) (e : Expr) (P : List α → Prop) : Prop := ∀ B σ H, Env C.d B G σ H → ∀ Q : VK, (∀ v H2 xs, Le C.d H H2 → P xs → LstIs C.d H2 v xs → Q v H2) → tE C e σ H Q
theorem el_ls {e : Expr} {P : List α → Prop} (h : EvR C G e (.ls P)) : EvL C G e P := fun B σ H E Q q => h B σ H E Q fun v H2 ⟨l, a, vs, xs, ev, n, ha, r, p⟩ => q v H2 xs l p ⟨a, vs, ev, ha, E.diceH.ne n, r⟩
theorem el_ro {i : Nat} {x : Str} {pos : Pos} {xs : List α} (hG : G[i]? = some (.ro xs)) (hN : C.N[i]? = some x := by rfl) (hv : Vis C.sc x := by first | exact Or.inl rfl | exact Or.inr (Or.inl rfl) | exact Or.inr (Or.inr rfl))
    (hd : (x == ("__debug__" : Str)) = false := by decide) (hcd : (x == ("__classdict__" : Str)) = false := by decide) : EvL C G (.Name x pos) (· = xs) := fun B σ H E Q q => by
  obtain ⟨p, vs, h1, h2, h3, h4, _⟩ := E.ro hG
  exact tE_of (t := tVar i) (fun X ok => pe_var (i := i) (by rw [ok.N]; exact hN) (by rw [ok.sc]; exact hv) hd hcd) ⟨_, h1, q _ H xs (Le.refl _ _) rfl ⟨p, vs, rfl, h3, h2, h4⟩⟩
theorem el_own {i : Nat} {x : Str} {pos : Pos} {xs : List α} (hG : G[i]? = some (.ls xs)) (hN : C.N[i]? = some x := by rfl) (hv : Vis C.sc x := by first | exact Or.inl rfl | exact Or.inr (Or.inl rfl) | exact Or.inr (Or.inr rfl))
    (hd : (x == ("__debug__" : Str)) = false := by decide) (hcd : (x == ("__classdict__" : Str)) = false := by decide) : EvL C G (.Name x pos) (· = xs) := fun B σ H E Q q => by
  obtain ⟨p, vs, h1, h0, h2, h3, h4, _⟩ := E.ls hG
  exact tE_of (t := tVar i) (fun X ok => pe_var (i := i) (by rw [ok.N]; exact hN) (by rw [ok.sc]; exact hv) hd hcd) ⟨_, h1, q _ H xs (Le.refl _ _) rfl ⟨p, vs, rfl, h3, h2, h4⟩⟩
theorem LstIs.le {d : Option Addr} {H H1 : Hp} {v : V} {xs : List α} (k : Le d H H1) (h : LstIs d H v xs) : LstIs d H1 v xs := by
  obtain ⟨a, vs, e, h1, n, r⟩ := h
  exact ⟨a, vs, e, k.keep h1 n, n, r.keep k.tle⟩
theorem ev_catL {a b : Expr} {pos : Pos} {P R : List α → Prop} (ha : EvL C G a P) (hb : EvL C G b R) (hz : ∀ xs ys, P xs → R ys → xs.length + ys.length ≤ 100000) : EvR C G (.BinOp a .Add b pos) (.ls fun zs : List α => ∃ xs ys, P xs ∧ R ys ∧ zs = xs ++ ys) := fun B σ H E Q q => by
  refine tE_of (t := tOp rCat (tE C a) (tE C b)) (fun X ok => pe_op op_cat (pe_tE ok) (pe_tE ok)) ?_
  refine ha B σ H E _ fun v H1 xs l p r1 => hb B σ H1 (E.go l) _ fun w H2 ys l2 p2 r2 => ?_
  obtain ⟨a1, vs, rfl, h1, _, g1⟩ := r1.le l2
  obtain ⟨a2, ws, rfl, h2, _, g2⟩ := r2
  have l3 := l.trans l2
  exact ⟨a1, a2, vs, ws, rfl, rfl, h1, h2, by rw [g1.len, g2.len, sizeLine_eq]; have := hz xs ys p p2; omega, fun t ht => q _ _ ⟨l3.trans (Le.new ht), t, vs ++ ws, xs ++ ys, rfl, l3.free ht, upd_same, (g1.app g2).keep (Le.new (d := none) ht).tle, xs, ys, p, p2, rfl⟩⟩
end
section
variable {α : Type} [Im α]
theorem Reps.cut {H : Hp} {vs : List V} {xs : List α} (r : Reps H vs xs) (lo hi : Option Int) : Reps H (cutV vs lo hi) ((xs.drop (HT.sIx xs.length 0 lo)).take (HT.sIx xs.length xs.length hi - HT.sIx xs.length 0 lo)) := by
  unfold cutV
  rw [r.len]
  exact (r.drop _).take _
theorem ev_slT {e : Expr} {pos p2 : Pos} {lo hi : Option Expr} {tl th : TO} {P : List α → Prop} {R : List α → Prop} {lv hv : Option Int} (he : EvR C G e (.im P)) (hl : ∀ X, Cok C X → PO X lo tl) (hh : ∀ X, Cok C X → PO X hi th)
    (htl : ∀ B σ H, Env C.d B G σ H → ∀ Q : Option Int → Hp → Prop, (∀ H2, Le C.d H H2 → Q lv H2) → tl σ H Q) (hth : ∀ B σ H, Env C.d B G σ H → ∀ Q : Option Int → Hp → Prop, (∀ H2, Le C.d H H2 → Q hv H2) → th σ H Q)
    (h : ∀ xs, P xs → R ((xs.drop (HT.sIx xs.length 0 lv)).take (HT.sIx xs.length xs.length hv - HT.sIx xs.length 0 lv))) : EvR C G (.Subscript e (.Slice lo hi none p2) pos) (.im R) := fun B σ H E Q q => by
  refine tE_of (t := tSl (rSlA C.T.K) (tE C e) tl th) (fun X ok => by rw [← ok.K]; exact pe_slice sl_tupA (pe_tE ok) (hl X ok) (hh X ok)) ?_
  refine he B σ H E _ fun v H1 ⟨l, xs, p, a, vs, ev, ha, r⟩ => htl B σ H1 (E.go l) _ fun H2 l2 => hth B σ H2 ((E.go l).go l2) _ fun H3 l3 => ?_
  have l13 := (l2.trans l3).tle
  have ha3 := l13 a _ ha trivial
  have r3 := r.keep l13
  have lf := (l.trans l2).trans l3
  refine ⟨a, vs, ev, .inl (.inl ha3), fun hw => ?_, fun _ t ht => ?_⟩
  · refine q _ H3 ⟨lf, xs, ?_, a, vs, rfl, ha3, r3⟩
    have hp := h xs p
    rw [r3.len] at hw
    rw [hw.1, hw.2] at hp
    simpa using hp
  · exact q _ _ ⟨lf.trans (Le.new ht), _, h xs p, t, _, rfl, upd_same, (r3.cut lv hv).keep (Le.new (d := none) ht).tle⟩
theorem ev_tail {e : Expr} {pos p2 p3 j : _} {xs : List α} (he : EvR C G e (.im (· = xs))) : EvR C G (.Subscript e (.Slice (some (.Constant (.int 1) j p3)) none none p2) pos) (.im (· = xs.drop 1)) :=
  ev_slT (lv := some 1) (hv := none) he (fun X ok => po_some pe_int) (fun X ok => po_none) (fun B σ H E Q q => ⟨1, rfl, q H (Le.refl _ _)⟩) (fun B σ H E Q q => q H (Le.refl _ _)) fun ys e => by
    subst e
    show List.take (ys.length - min 1 ys.length) (List.drop (min 1 ys.length) ys) = List.drop 1 ys
    cases ys with
    | nil => rfl
    | cons y ys => simp
theorem ev_takeT {e b : Expr} {pos p2 : _} {xs : List α} {n : Nat} (he : EvR C G e (.im (· = xs))) (hb : EvR C G b (.im (· = (n : Int)))) : EvR C G (.Subscript e (.Slice none (some b) none p2) pos) (.im (· = xs.take n)) :=
  ev_slT (lv := none) (hv := some (n : Int)) he (fun X ok => po_none) (fun X ok => po_some (pe_tE ok)) (fun B σ H E Q q => q H (Le.refl _ _)) (fun B σ H E Q q => hb B σ H E _ fun v H2 ⟨l, m, e, r⟩ => ⟨(n : Int), by rw [← e]; exact r, q H2 l⟩) fun ys e => by
    subst e
    have e1 : HT.sIx ys.length ys.length (some (n : Int)) = min n ys.length := by
      show (if (n : Int) < 0 then ((n : Int) + (ys.length : Int)).toNat else min (n : Int).toNat ys.length) = _
      rw [if_neg (by omega)]
      rfl
    have e2 : HT.sIx ys.length 0 none = 0 := rfl
    rw [e1, e2, List.drop_zero, Nat.sub_zero]
    exact (List.take_eq_take_min).symm
end
end Mk
-- MkOps
namespace Mk
open Im (rep)
open PySem PySem.Spec PyProof.Rows L2
variable {C : Cg} {G : List Slot}
section
variable {a b : Expr} {pos : Pos} {P R : Int → Prop}
theorem ev_intop {op : Operator} {Cd : Int → Int → Prop} {g : Int → Int → Int} (ho : ∀ X, OpR X (binaryOp op) (rI Cd fun i j => .int (g i j))) (ha : EvR C G a (.im P)) (hb : EvR C G b (.im R)) (hc : ∀ i j, P i → R j → Cd i j) :
    EvR C G (.BinOp a op b pos) (.im fun z => ∃ i j, P i ∧ R j ∧ z = g i j) := ev_op2 (fun X ok => ho X) ha hb fun i j v w H px py r1 r2 Q q => ⟨i, j, r1, r2, hc i j px py, q _ _ ⟨Le.refl _ _, g i j, ⟨i, j, px, py, rfl⟩, rfl⟩⟩
theorem ev_intop0 {op : Operator} {g : Int → Int → Int} (ho : ∀ X, OpR X (binaryOp op) (rI0 fun i j => .int (g i j))) (ha : EvR C G a (.im P)) (hb : EvR C G b (.im R)) :
    EvR C G (.BinOp a op b pos) (.im fun z => ∃ i j, P i ∧ R j ∧ z = g i j) := ev_op2 (fun X ok => ho X) ha hb fun i j v w H px py r1 r2 Q q => ⟨i, j, r1, r2, q _ _ ⟨Le.refl _ _, g i j, ⟨i, j, px, py, rfl⟩, rfl⟩⟩
theorem ev_add (ha : EvR C G a (.im P)) (hb : EvR C G b (.im R)) : EvR C G (.BinOp a .Add b pos) (.im fun z => ∃ i j, P i ∧ R j ∧ z = i + j) := ev_intop0 (fun X => op_add) ha hb
theorem ev_sub (ha : EvR C G a (.im P)) (hb : EvR C G b (.im R)) : EvR C G (.BinOp a .Sub b pos) (.im fun z => ∃ i j, P i ∧ R j ∧ z = i - j) := ev_intop0 (fun X => op_sub) ha hb
theorem ev_mul (ha : EvR C G a (.im P)) (hb : EvR C G b (.im R)) (hc : ∀ i j, P i → R j → CMul i j) : EvR C G (.BinOp a .Mult b pos) (.im fun z => ∃ i j, P i ∧ R j ∧ z = i * j) := ev_intop (fun X => op_mul) ha hb hc
theorem ev_mod (ha : EvR C G a (.im P)) (hb : EvR C G b (.im R)) (hc : ∀ j, R j → 0 < j) : EvR C G (.BinOp a .Mod b pos) (.im fun z => ∃ i j, P i ∧ R j ∧ z = i % j) := ev_intop (fun X => op_mod) ha hb fun _ j _ h => hc j h
theorem ev_fdiv (ha : EvR C G a (.im P)) (hb : EvR C G b (.im R)) (hc : ∀ j, R j → 0 < j ∧ j < 1073741824) : EvR C G (.BinOp a .FloorDiv b pos) (.im fun z => ∃ i j, P i ∧ R j ∧ z = i / j) := ev_intop (fun X => op_fdiv) ha hb fun _ j _ h => hc j h
theorem ev_intcmp {op : CmpOp} {g : Int → Int → Bool} (ho : ∀ X, OpR X (compareOp op) (rI0 fun i j => .bl (g i j))) (h1 : op ≠ .In) (h2 : op ≠ .NotIn) (ha : EvR C G a (.im P)) (hb : EvR C G b (.im R)) : EvC C G (.Compare a [op] [b] pos) (fun z => ∃ i j, P i ∧ R j ∧ z = g i j) :=
  ev_cmp2 (fun X ok => ho X) (nobehind b h1 h2) ha hb fun i j v w H px py r1 r2 Q q => ⟨i, j, r1, r2, q _ ⟨i, j, px, py, rfl⟩⟩
theorem ev_lt (ha : EvR C G a (.im P)) (hb : EvR C G b (.im R)) : EvC C G (.Compare a [.Lt] [b] pos) (fun z => ∃ i j, P i ∧ R j ∧ z = decide (i < j)) := ev_intcmp (fun X => op_lt) (by decide) (by decide) ha hb
theorem ev_gt (ha : EvR C G a (.im P)) (hb : EvR C G b (.im R)) : EvC C G (.Compare a [.Gt] [b] pos) (fun z => ∃ i j, P i ∧ R j ∧ z = decide (j < i)) := ev_intcmp (fun X => op_gt) (by decide) (by decide) ha hb
theorem ev_ge (ha : EvR C G a (.im P)) (hb : EvR C G b (.im R)) : EvC C G (.Compare a [.GtE] [b] pos) (fun z => ∃ i j, P i ∧ R j ∧ z = decide (j ≤ i)) := ev_intcmp (fun X => op_ge) (by decide) (by decide) ha hb
theorem ev_le (ha : EvR C G a (.im P)) (hb : EvR C G b (.im R)) : EvC C G (.Compare a [.LtE] [b] pos) (fun z => ∃ i j, P i ∧ R j ∧ z = decide (i ≤ j)) := ev_intcmp (fun X => op_le) (by decide) (by decide) ha hb
theorem ev_ltE {i j : Int} (ha : EvR C G a (.im (· = i))) (hb : EvR C G b (.im (· = j))) : EvC C G (.Compare a [.Lt] [b] pos) (· = decide (i < j)) := (ev_lt ha hb).imp fun z ⟨_, _, e1, e2, e3⟩ => by rw [e3, e1, e2]
theorem ev_gtE {i j : Int} (ha : EvR C G a (.im (· = i))) (hb : EvR C G b (.im (· = j))) : EvC C G (.Compare a [.Gt] [b] pos) (· = decide (j < i)) := (ev_gt ha hb).imp fun z ⟨_, _, e1, e2, e3⟩ => by rw [e3, e1, e2]
theorem ev_geE {i j : Int} (ha : EvR C G a (.im (· = i))) (hb : EvR C G b (.im (· = j))) : EvC C G (.Compare a [.GtE] [b] pos) (· = decide (j ≤ i)) := (ev_ge ha hb).imp fun z ⟨_, _, e1, e2, e3⟩ => by rw [e3, e1, e2]
theorem ev_addE {i j : Int} (ha : EvR C G a (.im (· = i))) (hb : EvR C G b (.im (· = j))) : EvR C G (.BinOp a .Add b pos) (.im (· = i + j)) := (ev_add ha hb).imp fun z ⟨_, _, e1, e2, e3⟩ => by rw [e3, e1, e2]
theorem ev_leLt {c : Expr} {i j k : Int} (ha : EvR C G a (.im (· = i))) (hb : EvR C G b (.im (· = j))) (hc : EvR C G c (.im (· = k))) (hm : lastMarks [.LtE, .Lt] [b, c] = false := by with_unfolding_all rfl) : EvC C G (.Compare a [.LtE, .Lt] [b, c] pos) (· = (decide (i ≤ j) && decide (j < k))) :=
  mk_evc (fun X ok => pe_chain op_le op_lt (pe_tE ok) (pe_tE ok) (pe_tE ok) hm) (fun X ok => pt_chain op_le op_lt (pe_tE ok) (pe_tE ok) (pe_tE ok) hm) fun B σ H E Q q => by
    refine ha B σ H E _ fun v H1 ⟨l, _, e1, r1⟩ => hb B σ H1 (E.go l) _ fun w H2 ⟨l2, _, e2, r2⟩ => ?_
    refine ⟨_, _, r1, r2, _, rfl, ?_⟩
    rw [e1, e2]
    by_cases h : i ≤ j
    · rw [decide_eq_true h, if_pos rfl]
      refine hc B σ H2 ((E.go l).go l2) _ fun u H3 ⟨l3, _, e3, r3⟩ => ⟨_, _, r2, r3, q _ _ ((l.trans l2).trans l3) (by rw [e2, e3]; simp [h])⟩
    · rw [decide_eq_false h, if_neg Bool.false_ne_true]
      exact q false _ (l.trans l2) (by simp [h])
theorem ev_leLe {c : Expr} {i j k : Int} (ha : EvR C G a (.im (· = i))) (hb : EvR C G b (.im (· = j))) (hc : EvR C G c (.im (· = k))) (hm : lastMarks [.LtE, .LtE] [b, c] = false := by with_unfolding_all rfl) : EvC C G (.Compare a [.LtE, .LtE] [b, c] pos) (· = (decide (i ≤ j) && decide (j ≤ k))) :=
  mk_evc (fun X ok => pe_chain op_le op_le (pe_tE ok) (pe_tE ok) (pe_tE ok) hm) (fun X ok => pt_chain op_le op_le (pe_tE ok) (pe_tE ok) (pe_tE ok) hm) fun B σ H E Q q => by
    refine ha B σ H E _ fun v H1 ⟨l, _, e1, r1⟩ => hb B σ H1 (E.go l) _ fun w H2 ⟨l2, _, e2, r2⟩ => ?_
    refine ⟨_, _, r1, r2, _, rfl, ?_⟩
    rw [e1, e2]
    by_cases h : i ≤ j
    · rw [decide_eq_true h, if_pos rfl]
      refine hc B σ H2 ((E.go l).go l2) _ fun u H3 ⟨l3, _, e3, r3⟩ => ⟨_, _, r2, r3, q _ _ ((l.trans l2).trans l3) (by rw [e2, e3]; simp [h])⟩
    · rw [decide_eq_false h, if_neg Bool.false_ne_true]
      exact q false _ (l.trans l2) (by simp [h])
end
section
variable {a b : Expr} {pos : Pos} {P R : Str → Prop}
theorem ev_addS (ha : EvR C G a (.im P)) (hb : EvR C G b (.im R)) (hz : ∀ x y, P x → R y → x.length + y.length ≤ 100000) : EvR C G (.BinOp a .Add b pos) (.im fun z => ∃ x y, P x ∧ R y ∧ z = x ++ y) :=
  ev_op2 (fun X ok => op_add_str) ha hb fun i j v w H px py r1 r2 Q q => ⟨i, j, r1, r2, by rw [sizeLine_eq]; have := hz i j px py; omega, q _ _ ⟨Le.refl _ _, i ++ j, ⟨i, j, px, py, rfl⟩, rfl⟩⟩
theorem ev_atS {z : Str} {S : Int → Prop} {T : Str → Prop} (ha : EvR C G a (.im (· = z))) (hb : EvR C G b (.im S)) (hz : z.length ≤ 100000) (h : ∀ i, S i → ∃ c, L2.atI z.cps.toList i = some c ∧ T ⟨#[c]⟩) (hs : PlainIx b := by exact fun _ _ => rfl) : EvR C G (.Subscript a b pos) (.im T) := fun B σ H E Q q => by
  refine tE_of (t := tOp (rIx C.T.K) (tE C a) (tE C b)) (fun X ok => by rw [← ok.K]; exact pe_ix ix_seq (pe_tE ok) (pe_tE ok) hs) ?_
  refine ha B σ H E _ fun v H1 ⟨l, x, p, r⟩ => hb B σ H1 (E.go l) _ fun w H2 ⟨l2, n, sn, rn⟩ => ?_
  subst p
  obtain ⟨c, h1, h2⟩ := h n sn
  exact .inr (.inr ⟨x, n, c, r, rn, by rw [sizeLine_eq]; omega, h1, q _ _ ⟨l.trans l2, _, h2, rfl⟩⟩)
theorem ev_inSign {c : Nat} {z : Str} (ha : EvR C G a (.im (· = (⟨#[c]⟩ : Str)))) (hb : EvR C G b (.im (· = z))) (hm : behindInMarks .In b = false := by rfl) : EvC C G (.Compare a [.In] [b] pos) (· = decide (c ∈ z.cps.toList)) :=
  ev_cmp2 (fun X ok => op_in_sign) hm ha hb fun x y v w H px py r1 r2 Q q => ⟨c, z, by rw [← px]; exact r1, by rw [← py]; exact r2, q _ rfl⟩
theorem ev_ltS {x y : Str} (ha : EvR C G a (.im (· = x))) (hb : EvR C G b (.im (· = y))) : EvC C G (.Compare a [.Lt] [b] pos) (· = decide (x.cps.toList < y.cps.toList)) :=
  ev_cmp2 (fun X ok => op_lt_str) (nobehind b (by decide) (by decide)) ha hb fun i j v w H px py r1 r2 Q q => ⟨i, j, r1, r2, q _ (by rw [px, py])⟩
theorem ev_nmS {x : Nm} (ha : EvR C G a (.im (· = x))) : EvR C G a (.im (· = x.s)) := ha.as fun H v r => r
theorem ei_str {tg : Expr} {z : Str} (ha : EvR C G a (.im (· = z))) (hz : z.length ≤ 100000) : EvI C G tg a (· = z.cps.toList.map fun c => (⟨#[c]⟩ : Str)) := fun B σ H own le D ln ow R q => by
  refine tI_of (wi := iStr (tE C a)) (fun X ok => pi_str (pe_tE ok)) ?_
  refine ha B σ H ⟨le, D, ln, own, ow⟩ _ fun v H1 ⟨l, x, p, r⟩ => ?_
  subst p
  have hl : (x.cps.toList.map fun c => (⟨#[c]⟩ : Str)).length = x.cps.size := by rw [List.length_map, Array.length_toList]
  refine ⟨x, r, ?_⟩
  refine q _ H1 _ [] l rfl ⟨?_, fun Kp hK => ?_⟩ (fun _ z => by simp at z)
  · rw [hl, sizeLine_eq]
    show x.length ≤ _
    omega
  · rw [hl]
    refine (walk_str (z := x)).mono (fun _ _ => trivial) fun i H v H' hi k y => ?_
    obtain ⟨e, c, hc, hv⟩ := y
    subst e
    refine ⟨fun _ _ z => z, ⟨#[c]⟩, ?_, hv⟩
    rw [List.getElem?_map, Array.getElem?_toList, hc]
    rfl
end
section
variable {α : Type} [Im α]
theorem own_ls {d : Option Addr} {B H : Hp} {σ : L2.St} {xs xs' : List α} {i : Nat} (E : Env d B G σ H) (e : G[i]? = some (.ls xs)) : ∃ p vs, σ[i]? = some (some (.ref p)) ∧ d ≠ some p ∧ H p = some (.lst vs) ∧ Reps H vs xs ∧
    ∀ H1 vs', Le d H H1 → Reps H1 vs' xs' → Env d B (G.set i (.ls xs')) σ (upd H1 p (.lst vs')) := by
  obtain ⟨p, ks, h1, h0, h2, h3, h4, h5⟩ := E.ls e
  refine ⟨p, ks, h1, h2, h3, h4, fun H1 ks' l r => ?_⟩
  have hp1 : H1 p = some (.lst ks) := l.keep h3 h2
  have tl : TLe H1 (upd H1 p (.lst ks')) := TLe.upd fun o ho => by rw [hp1] at ho; cases ho; exact id
  exact Env.put (s := .no) (E.go l) h1 h0 (fun own ow => by
    obtain ⟨p', _, g1, _, _, _, _, g5⟩ := (E.go l).ls e
    rw [h1] at g1
    cases g1
    exact g5 own ow) hp1 id ⟨ks', upd_same, r.keep tl⟩
variable {i : Nat} {y : Str} {p apos pos pos' : Pos} {e : Expr} {rest : List Stmt} {D : GEnds} {xs : List α}
theorem run_append {P : α → Prop} (he : EvR C G e (.im P)) (hG : G[i]? = some (.ls xs)) (hz : xs.length ≤ 100000) (k : ∀ x, P x → Run C (G.set i (.ls (xs ++ [x]))) rest D)
    (hN : C.N[i]? = some y := by rfl) (hv : Vis C.sc y := by first | exact Or.inl rfl | exact Or.inr (Or.inl rfl) | exact Or.inr (Or.inr rfl))
    (hd : (y == ("__debug__" : Str)) = false := by decide) (hcd : (y == ("__classdict__" : Str)) = false := by decide) (hs : ∀ env, swapsWith (.Call (.Attribute (.Name y p) "append" apos) [e] [] pos) none pos'.line env = pure false := by intro _; rfl)
    (hbase : ∀ env, attributeBase (.Name y p) "append" env (eval (.Name y p) env) = eval (.Name y p) env := by intro _; rfl)
    (hfew : ∀ env, ((backTo pos (starEach [e] env)).all (fun x => !x.1) && (backToKw pos (keywordEach [] env)).all (fun x => x.1.isSome)
      && decide (([e] : List Expr).length + ([] : List Keyword).length + (if ([] : List Keyword).isEmpty then 0 else 1) < 30)) = true := by intro _; rfl)
    (hline : (apos.endLine == pos.line) = true := by rfl) (hst : ∀ env, starEach [e] env = (false, eval e env) :: starEach [] env := by intro _; rfl) (hpl : ∀ env, (backTo pos (starEach [] env)).any (·.1) = false := by intro _; rfl) :
    Run C G (.Expr (.Call (.Attribute (.Name y p) "append" apos) [e] [] pos) pos' :: rest) D := fun B σ H E => by
  refine tSs_of (t := tSeq (tDrop (tBM C.T.K "list" rAppend (tVar i) (tCons (tE C e) tNil))) (tSs C rest)) (fun X ok => pss_cons (ps_expr (by
    rw [← ok.K]
    exact pe_bm F.plainAttrs_list F.slot_list_append F.type_list_append mt_append (pe_var (i := i) (by rw [ok.N]; exact hN) (by rw [ok.sc]; exact hv) hd hcd) (pa_cons (pe_tE ok) pa_nil (hst _)) (hbase _) (hfew _) hline (hst _) (hpl _)) (hs _)) (pss_tS ok)) ?_
  obtain ⟨p0, vs0, hp0, hnd, hq0, hr0, _⟩ := own_ls (xs' := xs) E hG
  refine ⟨_, hp0, .inl ⟨rfl, vs0, .inl (.inl hq0)⟩, he B σ H E _ fun v H1 ⟨l, x, px, r⟩ => ?_⟩
  obtain ⟨c, vs, h1, h2, h3, h4, h5⟩ := own_ls (xs' := xs ++ [x]) E hG
  rw [hp0] at h1
  cases h1
  refine ⟨_, vs, v, rfl, rfl, l.keep h3 h2, by rw [h4.len, sizeLine_eq]; omega, ?_⟩
  exact k x px B σ _ (h5 H1 _ l ((h4.keep l.tle).app (.one r)))
theorem run_extend {P : List α → Prop} (he : EvL C G e P) (hG : G[i]? = some (.ls xs)) (hz : ∀ ys, P ys → xs.length + ys.length ≤ 100000) (k : ∀ ys, P ys → Run C (G.set i (.ls (xs ++ ys))) rest D)
    (hN : C.N[i]? = some y := by rfl) (hv : Vis C.sc y := by first | exact Or.inl rfl | exact Or.inr (Or.inl rfl) | exact Or.inr (Or.inr rfl))
    (hd : (y == ("__debug__" : Str)) = false := by decide) (hcd : (y == ("__classdict__" : Str)) = false := by decide) (hs : ∀ env, swapsWith (.Call (.Attribute (.Name y p) "extend" apos) [e] [] pos) none pos'.line env = pure false := by intro _; rfl)
    (hbase : ∀ env, attributeBase (.Name y p) "extend" env (eval (.Name y p) env) = eval (.Name y p) env := by intro _; rfl)
    (hfew : ∀ env, ((backTo pos (starEach [e] env)).all (fun x => !x.1) && (backToKw pos (keywordEach [] env)).all (fun x => x.1.isSome)
      && decide (([e] : List Expr).length + ([] : List Keyword).length + (if ([] : List Keyword).isEmpty then 0 else 1) < 30)) = true := by intro _; rfl)
    (hline : (apos.endLine == pos.line) = true := by rfl) (hst : ∀ env, starEach [e] env = (false, eval e env) :: starEach [] env := by intro _; rfl) (hpl : ∀ env, (backTo pos (starEach [] env)).any (·.1) = false := by intro _; rfl) :
    Run C G (.Expr (.Call (.Attribute (.Name y p) "extend" apos) [e] [] pos) pos' :: rest) D := fun B σ H E => by
  refine tSs_of (t := tSeq (tDrop (tBM C.T.K "list" rExtend (tVar i) (tCons (tE C e) tNil))) (tSs C rest)) (fun X ok => pss_cons (ps_expr (by
    rw [← ok.K]
    exact pe_bm F.plainAttrs_list F.slot_list_extend F.type_list_extend mt_extend (pe_var (i := i) (by rw [ok.N]; exact hN) (by rw [ok.sc]; exact hv) hd hcd) (pa_cons (pe_tE ok) pa_nil (hst _)) (hbase _) (hfew _) hline (hst _) (hpl _)) (hs _)) (pss_tS ok)) ?_
  obtain ⟨p0, vs0, hp0, hnd, hq0, hr0, _⟩ := own_ls (xs' := xs) E hG
  refine ⟨_, hp0, .inl ⟨rfl, vs0, .inl (.inl hq0)⟩, he B σ H E _ fun v H1 ys l px ⟨b, ws, ev, hb, nb, rb⟩ => ?_⟩
  obtain ⟨c, vs, h1, h2, h3, h4, h5⟩ := own_ls (xs' := xs ++ ys) E hG
  rw [hp0] at h1
  cases h1
  subst ev
  refine ⟨_, b, vs, ws, rfl, rfl, l.keep h3 h2, hb, by rw [h4.len, rb.len, sizeLine_eq]; have := hz ys px; omega, ?_⟩
  exact k ys px B σ _ (h5 H1 _ l ((h4.keep l.tle).app rb))
end
class TyIm (α : Type) [Im α] where
  ty : String
  at_ : ∀ {K : PySem.W.Frag} {H : Hp} {v : V} {x : α}, rep H v x → TyX K H v (.type ty)
instance : TyIm Int := ⟨"int", fun h => by cases h; exact .base (.int _)⟩
instance : TyIm Str := ⟨"str", fun h => by cases h; exact .base (.str _)⟩
instance : TyIm Nm := ⟨"str", fun h => by cases h; exact .base (.str _)⟩
instance {α : Type} [Im α] : TyIm (List α) := ⟨"tuple", fun ⟨a, vs, e, h, _⟩ => by rw [e]; exact .base (.tup h)⟩
instance {α β : Type} [Im α] [Im β] : TyIm (α × β) := ⟨"tuple", fun ⟨a, u, w, e, h, _⟩ => by rw [e]; exact .base (.tup h)⟩
theorem ev_isi {α : Type} [Im α] [TyIm α] {a : Expr} {x : Str} {ty : String} {p p2 pos : Pos} {P : α → Prop} {b : Bool} (bl : Blt C.T) (ha : EvR C G a (.im P)) (hmt : C.T.mg x = none) (hk : ∀ K, PySem.W.kitOne K (.type (TyIm.ty α)) (.type ty) = some b) (hbt : bootBuiltins x = some (.type ty))
    (hg : C.sc.names.lookup ("isinstance" : Str) = some .globalImplicit := by rfl) (hgt : C.sc.names.lookup x = some .globalImplicit := by rfl) (hxn : x ≠ ("__name__" : Str) := by decide) (hxd : (x == ("__debug__" : Str)) = false := by decide)
    (hs : ∀ env, starEach [a, .Name x p2] env = (false, eval a env) :: starEach [.Name x p2] env := by intro _; rfl) :
    EvR C G (.Call (.Name "isinstance" p) [a, .Name x p2] [] pos) (.im (· = b)) := fun B σ H E Q q => by
  refine tE_of (t := tCB (rIsi C.T.K) (tCons (tE C a) (tCons (tC (.ty ty)) tNil))) (fun X ok => by
    rw [← ok.K]
    exact pe_callB call_isi (gl_of ok hg) (by rw [ok.mg]; exact bl.isinstance) PyProof.Rows.boot_isinstance (pa_cons (pe_tE ok) (pa_cons (pe_bltn (gl_of ok hgt) (by rw [ok.mg]; exact hmt) hbt rfl hxn hxd) pa_nil rfl) (hs _)) (by decide) (by decide) (hs _) rfl) ?_
  refine ha B σ H E _ fun v H1 ⟨l, z, pz, r⟩ => ?_
  exact ⟨v, .ty ty, .type (TyIm.ty α), .type ty, b, rfl, .ty ty, TyIm.at_ r, hk _, q _ H1 ⟨l, b, rfl, rfl⟩⟩
end Mk
-- MkZip
namespace Mk
open Im (rep)
open PySem PySem.Spec PyProof.Rows L2
variable {C : Cg} {G : List Slot}
section
variable {α β : Type} [Im α] [Im β]
theorem zip_get {xs : List α} {ys : List β} {i : Nat} {x : α} {y : β} (h1 : xs[i]? = some x) (h2 : ys[i]? = some y) : (xs.zip ys)[i]? = some (x, y) := by
  rw [List.getElem?_zip_eq_some]
  exact ⟨h1, h2⟩
theorem isWalk_zip {K : PySem.W.Frag} {H1 : Hp} {a b : Addr} {vs ws : List V} {xs : List α} {ys : List β} (ha : H1 a = some (.tup vs)) (hb : H1 b = some (.tup ws)) (r : Reps H1 vs xs) (r2 : Reps H1 ws ys) (hl : vs.length ≤ sizeLine) : IsWalk (RZ.ItzT K a b) H1 (xs.zip ys) [] := by
  rw [r.len] at hl
  have hlen : (xs.zip ys).length = min xs.length ys.length := List.length_zip
  refine ⟨by rw [hlen]; omega, fun Kp hK => ⟨fun i H hi k => ?_, fun H k => ?_, fun i H v H' hi k y => ?_⟩⟩
  · have h1 : i < vs.length := by rw [r.len]; omega
    have h2 : i < ws.length := by rw [r2.len]; omega
    exact ⟨vs, ws, vs[i], ws[i], .inl (.inl ((hK H k).1 a _ ha trivial)), .inl (.inl ((hK H k).1 b _ hb trivial)), List.getElem?_eq_getElem h1, List.getElem?_eq_getElem h2⟩
  · exact ⟨vs, ws, .inl (.inl ((hK H k).1 a _ ha trivial)), .inl (.inl ((hK H k).1 b _ hb trivial)), by rw [r.len, r2.len, hlen]; omega⟩
  · obtain ⟨T, x, y, rfl, hT, rfl, f1, f2⟩ := y
    obtain ⟨x', h1, g1⟩ := r.get (f1 vs (.inl (.inl ((hK H k).1 a _ ha trivial))))
    obtain ⟨y', h2, g2⟩ := r2.get (f2 ws (.inl (.inl ((hK H k).1 b _ hb trivial))))
    have l : Le none H (upd H T (.tup [x, y])) := Le.new hT
    refine ⟨l.same, (x', y'), zip_get h1 h2, T, x, y, rfl, upd_same, Im.keep l.tle (Im.keep (hK H k).1 g1), Im.keep l.tle (Im.keep (hK H k).1 g2)⟩
theorem ei_zip {e e2 : Expr} {elts : List Expr} {kk p pos tpos : _} {xs : List α} {ys : List β} (bl : Blt C.T) (ha : EvR C G e (.im (· = xs))) (hb : EvR C G e2 (.im (· = ys))) (hg : C.sc.names.lookup ("zip" : Str) = some .globalImplicit := by rfl)
    (hs : ∀ env, starEach [e, e2] env = (false, eval e env) :: starEach [e2] env := by intro _; rfl) (hs2 : ∀ env, starEach [e2] env = (false, eval e2 env) :: starEach [] env := by intro _; rfl) (hpl : ∀ env, (backTo pos (starEach [e2] env)).any (·.1) = false := by intro _; rfl) :
    EvI C G (.Tuple elts kk tpos) (.Call (.Name "zip" p) [e, e2] [] pos) (· = xs.zip ys) := fun B σ H own le D ln ow R q => by
  refine tI_of (wi := RZ.iZipA C.T.K (tCons (tE C e) (tCons (tE C e2) tNil))) (fun X ok => by rw [← ok.K]; exact RZ.pi_zipA (gl_of ok hg) (by rw [ok.mg]; exact bl.zip) (pa_cons (pe_tE ok) (pa_cons (pe_tE ok) pa_nil (hs2 _)) (hs _)) (hs _) (hpl _)) ?_
  refine ha B σ H ⟨le, D, ln, own, ow⟩ _ fun v H1 ⟨l, _, e1, a, vs, ev, h1, r1⟩ => ?_
  refine tE_len (hb B σ H1 ⟨le.trans l, D, ln, own, ow.go D l⟩ _ fun w H2 ⟨l2, _, e2, b, ws, ew, h2, r2⟩ hl => ?_)
  subst e1 e2 ev ew
  have h1' := l2.tle a _ h1 trivial
  have r1' := r1.keep l2.tle
  exact ⟨a, b, vs, ws, rfl, .inr ⟨.inl (.inl h1'), .inl (.inl h2), q _ H2 _ [] (l.trans l2) rfl (isWalk_zip h1' h2 r1' r2 (hl a vs (.inr h1'))) (fun _ z => by simp at z)⟩⟩
end
end Mk
-- MkZ3
namespace MkZ
open PySem PySem.Calls PyProof.Rows
section
variable {prog : Program} {w : World} {A : Around} {E : Value → Shared → Prop} {s : Shared}
theorem zipK_begins {v1 v2 v3 : Value} {o1 o2 o3 : Obj} {H1 H2 H3 : Heap → Prop} {Q : Value → Shared → Prop} (B1 : Begins v1 o1 H1) (B2 : Begins v2 o2 H2) (B3 : Begins v3 o3 H3) (h1 : H1 s.heap) (h2 : H2 s.heap) (h3 : H3 s.heap)
    (h : ∀ h', ZipS h' (s.heap.objs.size + 5) (s.heap.objs.size + 3) (s.heap.objs.size + 4) .none → IsTupOf3 h' (s.heap.objs.size + 3) (.ref s.heap.objs.size) (.ref (s.heap.objs.size + 1)) (.ref (s.heap.objs.size + 2)) →
      IsTupOf3 h' (s.heap.objs.size + 4) .none .none .none → h'.get? s.heap.objs.size = some o1 → h'.get? (s.heap.objs.size + 1) = some o2 → h'.get? (s.heap.objs.size + 2) = some o3 →
      (∀ c o, s.heap.get? c = some o → h'.get? c = some o) → Q (.ref (s.heap.objs.size + 5)) { s with heap := h' }) :
    wpAny (model prog w) A (call (.type "zip") [v1, v2, v3] kwS) Q E s := by
  refine typeK F.called_zip (tc3 _ _ _) (nc3 _ _ _) F.entry_zip_new F.entry_object_init (meets3 B1 B2 B3) (Q1 := fun obj s₁ => s₁.TypeIs obj "zip" ∧ Q obj s₁) ⟨⟨h1, h2, h3⟩, ?_⟩ fun obj _ hq =>
    ⟨hq.1, oi3 obj _ _ _, _, initK F.called_zip.init.lookup F.called_zip.made (by decide), hq.1, rfl, hq.2⟩
  have z1 : (s.heap.push o1).objs.size = s.heap.objs.size + 1 := by rw [Heap.size_push]
  have z2 : ((s.heap.push o1).push o2).objs.size = s.heap.objs.size + 2 := by rw [Heap.size_push, z1]
  have z3 : (((s.heap.push o1).push o2).push o3).objs.size = s.heap.objs.size + 3 := by rw [Heap.size_push, z2]
  have zT : (gzT3 s.heap o1 o2 o3).objs.size = s.heap.objs.size + 4 := by rw [Heap.size_push, z3]
  have zO : (gzO3 s.heap o1 o2 o3).objs.size = s.heap.objs.size + 5 := by rw [Heap.size_push, zT]
  have gZ : (zZ3 s.heap o1 o2 o3).get? (gzO3 s.heap o1 o2 o3).objs.size = some { cls := .type "zip", data := .fields #[.none, .bool false, .bool true, .ref (((s.heap.push o1).push o2).push o3).objs.size, .ref (gzT3 s.heap o1 o2 o3).objs.size] } := Heap.get?_push_size _ rfl
  have gO : (zZ3 s.heap o1 o2 o3).get? (gzT3 s.heap o1 o2 o3).objs.size = some { cls := .type "tuple", data := .seq #[.none, .none, .none] } := Heap.get?_push_of_some _ (Heap.get?_push_size _ rfl)
  have gT : (zZ3 s.heap o1 o2 o3).get? (((s.heap.push o1).push o2).push o3).objs.size = some { cls := .type "tuple", data := .seq #[.ref s.heap.objs.size, .ref (s.heap.push o1).objs.size, .ref ((s.heap.push o1).push o2).objs.size] } := Heap.get?_push_of_some _ (Heap.get?_push_of_some _ (Heap.get?_push_size _ rfl))
  have g1 : (zZ3 s.heap o1 o2 o3).get? s.heap.objs.size = some o1 := Heap.get?_push_of_some _ (Heap.get?_push_of_some _ (Heap.get?_push_of_some _ (Heap.get?_push_of_some _ (Heap.get?_push_of_some _ (Heap.get?_push_size _ B1.free)))))
  have g2 : (zZ3 s.heap o1 o2 o3).get? (s.heap.push o1).objs.size = some o2 := Heap.get?_push_of_some _ (Heap.get?_push_of_some _ (Heap.get?_push_of_some _ (Heap.get?_push_of_some _ (Heap.get?_push_size _ B2.free))))
  have g3 : (zZ3 s.heap o1 o2 o3).get? ((s.heap.push o1).push o2).objs.size = some o3 := Heap.get?_push_of_some _ (Heap.get?_push_of_some _ (Heap.get?_push_of_some _ (Heap.get?_push_size _ B3.free)))
  rw [zO, zT, z3] at gZ
  rw [zT] at gO
  rw [z3, z2, z1] at gT
  rw [z1] at g2
  rw [z2] at g3
  show _ ∧ _
  rw [zO]
  exact ⟨⟨_, gZ, rfl⟩, h _ gZ gT gO g1 g2 g3 fun c o e => Heap.get?_push_of_some _ (Heap.get?_push_of_some _ (Heap.get?_push_of_some _ (Heap.get?_push_of_some _ (Heap.get?_push_of_some _ (Heap.get?_push_of_some _ e)))))⟩
end
def ZipB (b : Bool) (h : Heap) (z TI TO : Addr) (f0 : Value) : Prop := h.get? z = some { cls := .type "zip", dict := none, data := .fields #[f0, .bool false, .bool b, .ref TI, .ref TO], slots := #[] }
section
variable {prog : Program} {w : World} {A : Around} {E : Value → Shared → Prop} {s : Shared} {z TI TO i1 i2 i3 : Addr} {fp1 fp2 fp3 : List Addr} {n i : Nat} {P1 P2 P3 : Nat → Value → Prop} {St1 St2 St3 : Nat → Heap → Prop} {a1 a2 a3 : Value}
theorem next_item (b : Bool) {Q : Option Value → Shared → Prop} (S : ZipSep3 z TI TO i1 i2 i3 fp1 fp2 fp3) (D1 : Draws prog w A.in1 i1 fp1 n P1 St1) (D2 : Draws prog w A.in1 i2 fp2 n P2 St2) (D3 : Draws prog w A.in1 i3 fp3 n P3 St3)
    (hz : ZipB b s.heap z TI TO .none) (hTI : IsTupOf3 s.heap TI (.ref i1) (.ref i2) (.ref i3)) (hTO : IsTupOf3 s.heap TO a1 a2 a3) (st1 : St1 i s.heap) (st2 : St2 i s.heap) (st3 : St3 i s.heap) (hlt : i < n)
    (hQ : ∀ x1 x2 x3 h' tk, P1 i x1 → P2 i x2 → P3 i x3 → ZipB b h' z TI TO (rawInt s.heap.objs.size) → IsTupOf3 h' TO x1 x2 x3 → St1 (i + 1) h' → St2 (i + 1) h' → St3 (i + 1) h' → IsTupOf3 h' s.heap.objs.size x1 x2 x3 → h'.objs.size = s.heap.objs.size + 1 →
      (∀ c o, c ≠ z → c ≠ TO → c ≠ i1 → c ≠ i2 → c ≠ i3 → s.heap.get? c = some o → h'.get? c = some o) → Q (some (.ref s.heap.objs.size)) { s with heap := h', toks := tk }) :
    wpAny (model prog w) A (pyNext (.ref z)) Q E s := by
  cases b with
  | false => exact wpAny_pyNext_zipD3_item S D1 D2 D3 hz hTI hTO st1 st2 st3 hlt hlt hlt hQ
  | true =>
    have hT : s.TypeIs (.ref z) "zip" := ⟨_, hz, rfl⟩
    unfold pyNext
    exact wpAny_bind (wpAny_attempt (wpAny_callSpecial?_slot (name := Str.ofString "__next__") hT F.slot_zip_next
      (wpAny_call_entry F.slot_zip_next hT F.entry_zip_next (s_item S D1 D2 D3 hz hTI hTO st1 st2 st3 hlt fun x1 x2 x3 h' tk y1 y2 y3 b1 b2 d1 d2 d3 b5 b6 b7 => wpAny_pure (hQ x1 x2 x3 h' tk y1 y2 y3 b1 b2 d1 d2 d3 b5 b6 b7)) (F.args_zip_next_1 _))))
theorem next_end (b : Bool) {Q : Option Value → Shared → Prop} (hh : A.handled = none) (S : ZipSep3 z TI TO i1 i2 i3 fp1 fp2 fp3) (D1 : Draws prog w A.in1 i1 fp1 n P1 St1) (D2 : Draws prog w A.in1 i2 fp2 n P2 St2) (D3 : Draws prog w A.in1 i3 fp3 n P3 St3)
    (hz : ZipB b s.heap z TI TO .none) (hTI : IsTupOf3 s.heap TI (.ref i1) (.ref i2) (.ref i3)) (hTO : IsTupOf3 s.heap TO a1 a2 a3) (st1 : St1 n s.heap) (st2 : St2 n s.heap) (st3 : St3 n s.heap)
    (hQ : ∀ h' tk, (∀ c o, c ≠ z → c ≠ TO → c ≠ i1 → c ≠ i2 → c ≠ i3 → s.heap.get? c = some o → h'.get? c = some o) → Q none { s with heap := h', toks := tk }) : wpAny (model prog w) A (pyNext (.ref z)) Q E s := by
  cases b with
  | false => exact wpAny_pyNext_zipD3_end S D1 D2 D3 hz hTI hTO st1 st2 st3 (Nat.le_refl _) (Nat.le_refl _) (Nat.le_refl _) (.inl rfl) hQ
  | true =>
    have hT : s.TypeIs (.ref z) "zip" := ⟨_, hz, rfl⟩
    unfold pyNext
    refine wpAny_bind (wpAny_attempt (wpAny_callSpecial?_slot (name := Str.ofString "__next__") hT F.slot_zip_next
      (wpAny_call_entry F.slot_zip_next hT F.entry_zip_next (s_end (A := A.in1) hh S D1 D2 D3 hz hTI hTO st1 st2 st3 fun h' e hk he => ?_) (F.args_zip_next_1 _))))
    obtain ⟨o, ho, hc⟩ := he
    exact wpAny_bind (wpAny_isInstance (T := "StopIteration") (b := true) ⟨o, ho, hc⟩ isSubtype_stop (wpAny_pure (hQ _ s.toks hk)))
theorem go_zip (b : Bool) {elts : List Expr} {k : Nat} {pos : Pos} {T : Addr} {Q : Unit → Shared → Prop} (hz : ZipB b s.heap z TI TO (rawInt T)) (hQ : ∀ h', ZipB b h' z TI TO .none → Heap.SameBut z s.heap h' → Q () { s with heap := h' }) :
    wpAny (model prog w) A (letOwnedTupleGo (.Tuple elts k pos) (.ref z) (.ref T)) Q E s := by
  unfold letOwnedTupleGo
  refine wpAny_bind (wpAny_load hz ?_)
  have e : ((rawInt T == rawInt T) : Bool) = true := beq_self_eq_true _
  show wpAny _ _ (if (_ && ((#[rawInt T, Value.bool false, Value.bool b, Value.ref TI, Value.ref TO] : Array Value)[0]? == some (rawInt T))) = true then _ else _) _ _ _
  rw [if_pos (by simp)]
  refine wpAny_setField_rec hz (by simp) fun h' hz' sb => hQ h' hz' sb
theorem iter_zip (b : Bool) {Q : Value → Shared → Prop} {f0 : Value} (hz : ZipB b s.heap z TI TO f0) (h : Q (.ref z) s) : wpAny (model prog w) A (pyIter (.ref z)) Q E s := by
  have hT : s.TypeIs (.ref z) "zip" := ⟨_, hz, rfl⟩
  refine wpAny_pyIter_slot hT F.slot_zip_iter (wpAny_call_entry F.slot_zip_iter hT F.entry_zip_iter ?_ (F.args_zip_iter_1 _))
  show wpAny _ _ (ret (.ref z)) _ _ s
  exact wpAny_pure ⟨_, rfl, "zip", _, hT, F.slot_zip_next.lookup, h⟩
end
open PySem.Spec L2
def It3 (K : PySem.W.Frag) (a b c : Addr) : It :=
  ⟨fun i H => ∃ xs ys zs : List V, SqT K H a xs ∧ SqT K H b ys ∧ SqT K H c zs ∧ ys.length = xs.length ∧ zs.length = xs.length ∧ i < xs.length,
    fun i H v H' => ∃ T x y z, v = .ref T ∧ H T = none ∧ H' = upd H T (.tup [x, y, z]) ∧ (∀ xs, SqT K H a xs → xs[i]? = some x) ∧ (∀ ys, SqT K H b ys → ys[i]? = some y) ∧ ∀ zs, SqT K H c zs → zs[i]? = some z,
    fun i H => ∃ xs ys zs : List V, SqT K H a xs ∧ SqT K H b ys ∧ SqT K H c zs ∧ ys.length = xs.length ∧ zs.length = xs.length ∧ i = xs.length⟩
theorem turn3 (sb : Bool) {P : Program} {w : World} {K : PySem.W.Frag} {elts : List Expr} {kk : Nat} {tpos : Pos} {a b c z TI TO i1 i2 i3 : Addr} (S : ZipSep3 z TI TO i1 i2 i3 [i1, a] [i2, b] [i3, c]) :
    Turn P w K (.Tuple elts kk tpos) (It3 K a b c) [z, TI, TO, i1, i2, i3] z (fun i h => ZipB sb h z TI TO .none ∧ IsTupOf3 h TI (.ref i1) (.ref i2) (.ref i3) ∧ (∃ x y z, IsTupOf3 h TO x y z) ∧ h.IsTupleIter i1 a i ∧ h.IsTupleIter i2 b i ∧ h.IsTupleIter i3 c i) where
  mem := by simp
  obj := fun i h st d hd => by
    obtain ⟨hz, hTI, ⟨x, y, u, hTO⟩, ⟨o1, e1, _, d1⟩, ⟨o2, e2, _, d2⟩, ⟨o3, e3, _, d3⟩⟩ := st
    have e' : d = z ∨ d = TI ∨ d = TO ∨ d = i1 ∨ d = i2 ∨ d = i3 := by simpa using hd
    rcases e' with q | q | q | q | q | q
    · rw [q]; exact ⟨_, hz, fun v q => nomatch q⟩
    · rw [q]; exact ⟨_, hTI, fun v q => nomatch q⟩
    · rw [q]; exact ⟨_, hTO, fun v q => nomatch q⟩
    · rw [q]; exact ⟨o1, e1, fun v q => by rw [d1] at q; cases q⟩
    · rw [q]; exact ⟨o2, e2, fun v q => by rw [d2] at q; cases q⟩
    · rw [q]; exact ⟨o3, e3, fun v q => by rw [d3] at q; cases q⟩
  keep := fun i h h' st k => by
    obtain ⟨hz, hTI, ⟨x, y, u, hTO⟩, h1, h2, h3⟩ := st
    exact ⟨k z (by simp) _ hz, k TI (by simp) _ hTI, ⟨x, y, u, k TO (by simp) _ hTO⟩, h1.at fun o q => k i1 (by simp) o q, h2.at fun o q => k i2 (by simp) o q, h3.at fun o q => k i3 (by simp) o q⟩
  item := by
    intro X hP hw hK hc i pins s σ H E I hf st hg
    subst hP hw hK
    obtain ⟨hz, hTI, ⟨x0, y0, u0, hTO⟩, h1, h2, h3⟩ := st
    obtain ⟨xs, ys, zs, hqx, hqy, hqz, l2, l3, hlt⟩ := hg
    obtain ⟨its, rv, p, _⟩ := I.tuple hqx
    obtain ⟨its2, rv2, p2, _⟩ := I.tuple hqy
    obtain ⟨its3, rv3, p3, _⟩ := I.tuple hqz
    have hh : X.A.in1.handled = none := I.ok.hd hc
    have e2 : its2.toArray.size = its.toArray.size := by rw [List.size_toArray, List.size_toArray, ← rv.length, ← rv2.length, l2]
    have e3 : its3.toArray.size = its.toArray.size := by rw [List.size_toArray, List.size_toArray, ← rv.length, ← rv3.length, l3]
    have ne1 : a ≠ i1 := fun e => by
      obtain ⟨o1, q1, c1, _⟩ := h1
      obtain ⟨o2, q2, c2, _⟩ := p
      rw [e, q1] at q2
      cases q2
      rw [c1] at c2
      exact absurd c2 (by decide)
    have ne2 : b ≠ i2 := fun e => by
      obtain ⟨o1, q1, c1, _⟩ := h2
      obtain ⟨o2, q2, c2, _⟩ := p2
      rw [e, q1] at q2
      cases q2
      rw [c1] at c2
      exact absurd c2 (by decide)
    have ne3 : c ≠ i3 := fun e => by
      obtain ⟨o1, q1, c1, _⟩ := h3
      obtain ⟨o2, q2, c2, _⟩ := p3
      rw [e, q1] at q2
      cases q2
      rw [c1] at c2
      exact absurd c2 (by decide)
    have D1 := Draws.tuple (prog := X.prog) (w := X.w) hh i1 a ne1 its.toArray
    have D2 := Draws.tuple (prog := X.prog) (w := X.w) hh i2 b ne2 its2.toArray
    have D3 := Draws.tuple (prog := X.prog) (w := X.w) hh i3 c ne3 its3.toArray
    rw [e2] at D2
    rw [e3] at D3
    have hzl : z < s.heap.objs.size := Heap.lt_size hz
    refine next_item sb S D1 D2 D3 hz hTI hTO ⟨h1, p⟩ ⟨h2, p2⟩ ⟨h3, p3⟩ (by rw [List.size_toArray, ← rv.length]; exact hlt) fun x1 x2 x3 h' tk y1 y2 y3 z' TO' d1 d2 d3 hT hsz hk => ?_
    have gx : ∃ u, xs[i]? = some u ∧ RelV u x1 := by
      have hx : xs[i]? = some xs[i] := List.getElem?_eq_getElem hlt
      obtain ⟨u, hu, ru⟩ := rv.get hx
      have y1 : its[i]? = some x1 := by simpa using y1
      rw [y1] at hu
      cases hu
      exact ⟨_, hx, ru⟩
    have gy : ∃ u, ys[i]? = some u ∧ RelV u x2 := by
      have hx : ys[i]? = some (ys[i]'(by omega)) := List.getElem?_eq_getElem _
      obtain ⟨u, hu, ru⟩ := rv2.get hx
      have y2 : its2[i]? = some x2 := by simpa using y2
      rw [y2] at hu
      cases hu
      exact ⟨_, hx, ru⟩
    have gz : ∃ u, zs[i]? = some u ∧ RelV u x3 := by
      have hx : zs[i]? = some (zs[i]'(by omega)) := List.getElem?_eq_getElem _
      obtain ⟨u, hu, ru⟩ := rv3.get hx
      have y3 : its3[i]? = some x3 := by simpa using y3
      rw [y3] at hu
      cases hu
      exact ⟨_, hx, ru⟩
    obtain ⟨v1, g1, r1⟩ := gx
    obtain ⟨v2, g2, r2⟩ := gy
    obtain ⟨v3, g3, r3⟩ := gz
    refine ⟨_, rfl, go_zip (s := { s with heap := h', toks := tk }) sb z' fun h'' z'' sb' => ?_⟩
    replace sb' : Heap.SameBut z h' h'' := sb'
    have hT2 : h''.get? s.heap.objs.size = some { cls := .type "tuple", data := .seq #[x1, x2, x3] } := (sb'.2 _ (Nat.ne_of_gt hzl)).trans hT
    have new : ObjOk X.prog X.w (upd H s.heap.objs.size (.tup [v1, v2, v3])) h'' s.heap.objs.size (.tup [v1, v2, v3]) :=
      ⟨by show 3 ≤ sizeLine; decide, [x1, x2, x3], .cons r1 (.cons r2 (.cons r3 .nil)), ⟨_, hT2, rfl, _, rfl⟩⟩
    have I1 : Inv X pins σ (upd H s.heap.objs.size (.tup [v1, v2, v3])) { s with heap := h'', toks := tk } :=
      I.turnedNew (t' := tk) (ch := [z, TI, TO, i1, i2, i3]) (fun c o hb q => (sb'.2 c (fun q' => hb (by simp [q']))).trans (hk c o (fun q' => hb (by simp [q'])) (fun q' => hb (by simp [q'])) (fun q' => hb (by simp [q'])) (fun q' => hb (by simp [q'])) (fun q' => hb (by simp [q'])) q)) hf (Nat.le_refl _) new
    refine ⟨.ref s.heap.objs.size, _, I1, rfl, ⟨_, v1, v2, v3, rfl, I.hok.fresh (Nat.le_refl _), rfl, fun l hl => by rw [I.tuple_inj hl hqx]; exact g1, fun l hl => by rw [I.tuple_inj hl hqy]; exact g2, fun l hl => by rw [I.tuple_inj hl hqz]; exact g3⟩, ⟨z'', ?_, ⟨x1, x2, x3, ?_⟩, ?_, ?_, ?_⟩, fun d hcm => ?_⟩
    · exact (sb'.2 _ S.TIz).trans (hk _ _ S.TIz S.TITO S.TIi1 S.TIi2 S.TIi3 hTI)
    · exact (sb'.2 _ S.TOz).trans TO'
    · exact d1.1.at fun o q => (sb'.2 _ S.zi1.symm).trans q
    · exact d2.1.at fun o q => (sb'.2 _ S.zi2.symm).trans q
    · exact d3.1.at fun o q => (sb'.2 _ S.zi3.symm).trans q
    · have hlt : d < s.heap.objs.size := by
        have e' : d = z ∨ d = TI ∨ d = TO ∨ d = i1 ∨ d = i2 ∨ d = i3 := by simpa using hcm
        rcases e' with q | q | q | q | q | q
        · rw [q]; exact hzl
        · rw [q]; exact Heap.lt_size hTI
        · rw [q]; exact Heap.lt_size hTO
        · rw [q]; obtain ⟨_, e1, _⟩ := h1; exact Heap.lt_size e1
        · rw [q]; obtain ⟨_, e2, _⟩ := h2; exact Heap.lt_size e2
        · rw [q]; obtain ⟨_, e3, _⟩ := h3; exact Heap.lt_size e3
      rw [upd_ne (Nat.ne_of_lt hlt)]
      exact (hf d hcm).1
  done := by
    intro X hP hw hK hc i pins s σ H E I hf st hg
    subst hP hw hK
    obtain ⟨hz, hTI, ⟨x0, y0, u0, hTO⟩, h1, h2, h3⟩ := st
    obtain ⟨xs, ys, zs, hqx, hqy, hqz, l2, l3, hend⟩ := hg
    obtain ⟨its, rv, p, _⟩ := I.tuple hqx
    obtain ⟨its2, rv2, p2, _⟩ := I.tuple hqy
    obtain ⟨its3, rv3, p3, _⟩ := I.tuple hqz
    have hh : X.A.in1.handled = none := I.ok.hd hc
    have e2 : its2.toArray.size = its.toArray.size := by rw [List.size_toArray, List.size_toArray, ← rv.length, ← rv2.length, l2]
    have e3 : its3.toArray.size = its.toArray.size := by rw [List.size_toArray, List.size_toArray, ← rv.length, ← rv3.length, l3]
    have ne : ∀ {t it j its}, s.heap.IsTupleIter it t j → s.heap.IsTuple t its → t ≠ it := fun h1 p e => by
      obtain ⟨o1, q1, c1, _⟩ := h1
      obtain ⟨o2, q2, c2, _⟩ := p
      rw [e, q1] at q2
      cases q2
      rw [c1] at c2
      exact absurd c2 (by decide)
    have D1 := Draws.tuple (prog := X.prog) (w := X.w) hh i1 a (ne h1 p) its.toArray
    have D2 := Draws.tuple (prog := X.prog) (w := X.w) hh i2 b (ne h2 p2) its2.toArray
    have D3 := Draws.tuple (prog := X.prog) (w := X.w) hh i3 c (ne h3 p3) its3.toArray
    rw [e2] at D2
    rw [e3] at D3
    have hn : i = its.toArray.size := by rw [List.size_toArray, ← rv.length]; exact hend
    subst hn
    exact next_end sb (I.ok.hd hc) S D1 D2 D3 hz hTI hTO ⟨h1, p⟩ ⟨h2, p2⟩ ⟨h3, p3⟩ fun h' tk hk => ⟨rfl, I.turnedL (t' := tk) (ch := [z, TI, TO, i1, i2, i3]) (fun c o hb q =>
      hk c o (fun q' => hb (by simp [q'])) (fun q' => hb (by simp [q'])) (fun q' => hb (by simp [q'])) (fun q' => hb (by simp [q'])) (fun q' => hb (by simp [q'])) q) hf⟩
  self := fun A i s Q E st h => iter_zip sb st.1 h
end MkZ
-- MkZ4
namespace Mk
open Im (rep)
open PySem PySem.Spec PyProof.Rows L2
variable {C : Cg} {G : List Slot}
section
variable {M : Model} {A : Around} {E : Value → Shared → Prop} {s : Shared} {env : PySem.Env}
theorem cw_typeK {pos : Pos} {T : String} {e : Expr} {rest : List Expr} {kws : List Keyword} {Q : Value → Shared → Prop}
    (he : backTo pos (starEach (e :: rest) env) = (false, eval e env) :: backTo pos (starEach rest env)) (hp : (backTo pos (starEach (e :: rest) env)).any (·.1) = false)
    (hall : (backToKw pos (keywordEach kws env)).all (·.1.isSome) = true) (hn : (backToKw pos (keywordEach kws env)).any (·.1.isNone) = false)
    (h : wpAny M A (spliced (backTo pos (starEach (e :: rest) env))) (fun us s1 => wpAny M A (evalAll ((backToKw pos (keywordEach kws env)).map (·.2)))
      (fun ws s2 => wpAny M A (call (.type T) us (((backToKw pos (keywordEach kws env)).filterMap (·.1)).zip ws)) Q E s2) E s1) E s) :
    wpAny M A (callWith pos (.type T) [] (backTo pos (starEach (e :: rest) env)) (backToKw pos (keywordEach kws env))) Q E s := by
  unfold callWith
  refine wpAny_bind (wpAny_holding (wpAny_mono (Q := fun a s1 => wpAny M A (call (.type T) ([] ++ a.pos) a.kw) Q E s1) ?_ (fun a s1 h1 => wpAny_bind (wpAny_standAt ?_)) fun _ _ x => x))
  · rw [he] at h ⊢
    exact evalArgs_kwB hall h
  · rw [hp, hn]
    refine wpAny_bind (wpAny_pure ?_)
    exact wpAny_bind (wpAny_mono h1 (fun r s2 hr => wpAny_bind (wpAny_holding (wpAny_point (wpAny_pure hr)))) fun _ _ x => x)
end
structure Tri (α β γ : Type) where
  x : α
  y : β
  z : γ
section
variable {α β γ : Type} [Im α] [Im β] [Im γ]
instance : Im (Tri α β γ) := ⟨fun H v t => ∃ a u w r, v = .ref a ∧ H a = some (.tup [u, w, r]) ∧ rep H u t.x ∧ rep H w t.y ∧ rep H r t.z,
  fun k ⟨a, u, w, r, e, h, r1, r2, r3⟩ => ⟨a, u, w, r, e, k a _ h trivial, Im.keep k r1, Im.keep k r2, Im.keep k r3⟩⟩
def zip3 : List α → List β → List γ → List (Tri α β γ)
  | x :: xs, y :: ys, z :: zs => ⟨x, y, z⟩ :: zip3 xs ys zs
  | _, _, _ => []
theorem zip3_len : ∀ {xs : List α} {ys : List β} {zs : List γ}, ys.length = xs.length → zs.length = xs.length → (zip3 xs ys zs).length = xs.length
  | [], _, _, _, _ => rfl
  | _ :: _, [], _, h, _ => by simp at h
  | _ :: _, _ :: _, [], _, h => by simp at h
  | _ :: xs, _ :: ys, _ :: zs, h, g => by
    show (zip3 xs ys zs).length + 1 = xs.length + 1
    rw [zip3_len (by simpa using h) (by simpa using g)]
theorem zip3_get : ∀ {xs : List α} {ys : List β} {zs : List γ} {i : Nat} {x : α} {y : β} {z : γ}, xs[i]? = some x → ys[i]? = some y → zs[i]? = some z → (zip3 xs ys zs)[i]? = some ⟨x, y, z⟩
  | [], _, _, _, _, _, _, h, _, _ => by simp at h
  | _ :: _, [], _, _, _, _, _, _, h, _ => by simp at h
  | _ :: _, _ :: _, [], _, _, _, _, _, _, h => by simp at h
  | a :: xs, b :: ys, c :: zs, 0, x, y, z, h1, h2, h3 => by
    have h1 : a = x := by simpa using h1
    have h2 : b = y := by simpa using h2
    have h3 : c = z := by simpa using h3
    subst h1 h2 h3
    rfl
  | _ :: xs, _ :: ys, _ :: zs, i + 1, x, y, z, h1, h2, h3 => by
    show (zip3 xs ys zs)[i]? = _
    exact zip3_get (by simpa using h1) (by simpa using h2) (by simpa using h3)
theorem isWalk_zip3 {K : PySem.W.Frag} {H1 : Hp} {a b c : Addr} {vs ws us : List V} {xs : List α} {ys : List β} {zs : List γ} (ha : H1 a = some (.tup vs)) (hb : H1 b = some (.tup ws)) (hc : H1 c = some (.tup us)) (r : Reps H1 vs xs) (r2 : Reps H1 ws ys) (r3 : Reps H1 us zs)
    (l2 : ys.length = xs.length) (l3 : zs.length = xs.length) (hl : vs.length ≤ sizeLine) : IsWalk (MkZ.It3 K a b c) H1 (zip3 xs ys zs) [] := by
  rw [r.len] at hl
  have hlen := zip3_len l2 l3
  refine ⟨by rw [hlen]; omega, fun Kp hK => ⟨fun i H hi k => ?_, fun H k => ?_, fun i H v H' hi k y => ?_⟩⟩
  · exact ⟨vs, ws, us, .inl (.inl ((hK H k).1 a _ ha trivial)), .inl (.inl ((hK H k).1 b _ hb trivial)), .inl (.inl ((hK H k).1 c _ hc trivial)), by rw [r.len, r2.len, l2], by rw [r.len, r3.len, l3], by rw [r.len]; omega⟩
  · exact ⟨vs, ws, us, .inl (.inl ((hK H k).1 a _ ha trivial)), .inl (.inl ((hK H k).1 b _ hb trivial)), .inl (.inl ((hK H k).1 c _ hc trivial)), by rw [r.len, r2.len, l2], by rw [r.len, r3.len, l3], by rw [r.len]; omega⟩
  · obtain ⟨T, x, y, z, rfl, hT, rfl, f1, f2, f3⟩ := y
    obtain ⟨x', h1, g1⟩ := r.get (f1 vs (.inl (.inl ((hK H k).1 a _ ha trivial))))
    obtain ⟨y', h2, g2⟩ := r2.get (f2 ws (.inl (.inl ((hK H k).1 b _ hb trivial))))
    obtain ⟨z', h3, g3⟩ := r3.get (f3 us (.inl (.inl ((hK H k).1 c _ hc trivial))))
    have l : Le none H (upd H T (.tup [x, y, z])) := Le.new hT
    refine ⟨l.same, ⟨x', y', z'⟩, zip3_get h1 h2 h3, T, x, y, z, rfl, upd_same, Im.keep l.tle (Im.keep (hK H k).1 g1), Im.keep l.tle (Im.keep (hK H k).1 g2), Im.keep l.tle (Im.keep (hK H k).1 g3)⟩
theorem bnd_tri {i j k : Nat} {x y z : Str} {px py pz pos : Pos} {kk : Nat} (hN : C.N[i]? = some x := by rfl) (hM : C.N[j]? = some y := by rfl) (hO : C.N[k]? = some z := by rfl) (hx : Sto C x := by first | exact Or.inl rfl | exact Or.inr ⟨rfl, rfl⟩) (hy : Sto C y := by first | exact Or.inl rfl | exact Or.inr ⟨rfl, rfl⟩) (hz : Sto C z := by first | exact Or.inl rfl | exact Or.inr ⟨rfl, rfl⟩)
    (h1 : ∀ env, (assignEach [.Name x px, .Name y py, .Name z pz] env).length = 3 := by intro _; rfl) (h2 : ∀ env, List.findIdx? (fun x => x.1) (assignEach [.Name x px, .Name y py, .Name z pz] env) = none := by intro _; rfl)
    (h3 : ∀ env, (assignEach [.Name x px, .Name y py, .Name z pz] env).map (fun x => x.2) = assign (.Name x px) env :: (assignEach [.Name y py, .Name z pz] env).map (fun x => x.2) := by intro _; rfl)
    (h4 : ∀ env, (assignEach [.Name y py, .Name z pz] env).map (fun x => x.2) = assign (.Name y py) env :: (assignEach [.Name z pz] env).map (fun x => x.2) := by intro _; rfl)
    (h5 : ∀ env, (assignEach [.Name z pz] env).map (fun x => x.2) = assign (.Name z pz) env :: (assignEach [] env).map (fun x => x.2) := by intro _; rfl) :
    Bnd C (.Tuple [.Name x px, .Name y py, .Name z pz] kk pos) (fun (a : Tri α β γ) G => ((G.set i (.im a.x)).set j (.im a.y)).set k (.im a.z)) [i, j, k] := by
  refine ⟨gTup C.T.K 3 (gCons (gName i) (gCons (gName j) (gCons (gName k) gNil))), fun X ok => by
    rw [← ok.K]
    exact pg_tup ok.calm (pgs_cons (pg_name (by rw [ok.N]; exact ok.nd) (by rw [ok.N]; exact hN) (hx.loc ok) (hx.fn ok)) (pgs_cons (pg_name (by rw [ok.N]; exact ok.nd) (by rw [ok.N]; exact hM) (hy.loc ok) (hy.fn ok)) (pgs_cons (pg_name (by rw [ok.N]; exact ok.nd) (by rw [ok.N]; exact hO) (hz.loc ok) (hz.fn ok)) pgs_nil (h5 _)) (h4 _)) (h3 _)) (h1 _) (h2 _),
    fun _ _ => by rw [List.length_set, List.length_set, List.length_set], fun B G σ H v x Q E hl r q => ?_⟩
  obtain ⟨a, u, w, t, ev, ha, r1, r2, r3⟩ := r
  have hi : i < C.N.length := (List.getElem?_eq_some_iff.mp hN).1
  have hj : j < C.N.length := (List.getElem?_eq_some_iff.mp hM).1
  have hk : k < C.N.length := (List.getElem?_eq_some_iff.mp hO).1
  refine ⟨a, [u, w, t], ev, .inl (.inl ha), rfl, u, [w, t], rfl, w, [t], rfl, t, [], rfl, rfl, q _ (fun B' H' tl E' => ((E'.set_im (by rw [hl]; exact hi) (Im.keep tl r1)).set_im (by rw [List.length_set, hl]; exact hj) (Im.keep tl r2)).set_im (by rw [List.length_set, List.length_set, hl]; exact hk) (Im.keep tl r3)) fun vs hv => ?_⟩
  rw [wipe_set (hv k (by simp)), wipe_set (hv j (by simp)), wipe_set (hv i (by simp))]
end
def iZ3 (K : PySem.W.Frag) (ta : TA) : TI := fun σ H R => ta σ H fun vs H1 => ∃ a b c xs ys zs, vs = [.ref a, .ref b, .ref c] ∧ SqT K H1 a xs ∧ SqT K H1 b ys ∧ SqT K H1 c zs ∧ R (MkZ.It3 K a b c) H1
theorem z3_go (sb : Bool) {X : Cx} {pins : List (Addr × Obj)} {σ : L2.St} {H1 : Hp} {s1 : Shared} {a b c : Addr} {xs ys zs : List V} {elts : List Expr} {kk : Nat} {tpos : Pos} {R : It → Hp → Prop} (I1 : Inv X pins σ H1 s1) (hqx : SqT X.K H1 a xs) (hqy : SqT X.K H1 b ys) (hqz : SqT X.K H1 c zs) (q : R (MkZ.It3 X.K a b c) H1)
    {h' : Heap} (hz : MkZ.ZipB sb h' (s1.heap.objs.size + 5) (s1.heap.objs.size + 3) (s1.heap.objs.size + 4) .none) (hTI : IsTupOf3 h' (s1.heap.objs.size + 3) (.ref s1.heap.objs.size) (.ref (s1.heap.objs.size + 1)) (.ref (s1.heap.objs.size + 2)))
    (hTO : IsTupOf3 h' (s1.heap.objs.size + 4) .none .none .none) (g1 : h'.get? s1.heap.objs.size = some { cls := .type "tuple_iterator", data := .fields #[.ref a, .int 0 0] }) (g2 : h'.get? (s1.heap.objs.size + 1) = some { cls := .type "tuple_iterator", data := .fields #[.ref b, .int 0 0] })
    (g3 : h'.get? (s1.heap.objs.size + 2) = some { cls := .type "tuple_iterator", data := .fields #[.ref c, .int 0 0] }) (hk : ∀ c o, s1.heap.get? c = some o → h'.get? c = some o) :
    wpAny (model X.prog X.w) X.A (pyIter (.ref (s1.heap.objs.size + 5))) (PIE X pins σ (.Tuple elts kk tpos) R) X.xe { s1 with heap := h' } := by
  obtain ⟨its, rv, p1, _⟩ := I1.tuple hqx
  obtain ⟨its2, rv2, p2, _⟩ := I1.tuple hqy
  obtain ⟨its3, rv3, p3, _⟩ := I1.tuple hqz
  obtain ⟨o1, ho1, _⟩ := id p1
  obtain ⟨o2, ho2, _⟩ := id p2
  obtain ⟨o3, ho3, _⟩ := id p3
  have fresh6 : ∀ c, c ∈ [s1.heap.objs.size + 5, s1.heap.objs.size + 3, s1.heap.objs.size + 4, s1.heap.objs.size, s1.heap.objs.size + 1, s1.heap.objs.size + 2] → FpOk X pins H1 c := fun c hcm => by
    have e' : c = s1.heap.objs.size + 5 ∨ c = s1.heap.objs.size + 3 ∨ c = s1.heap.objs.size + 4 ∨ c = s1.heap.objs.size ∨ c = s1.heap.objs.size + 1 ∨ c = s1.heap.objs.size + 2 := by simpa using hcm
    have hle : s1.heap.objs.size ≤ c := by
      rcases e' with z | z | z | z | z | z <;> rw [z] <;> first | exact Nat.le_refl _ | exact Nat.le_add_right _ _
    exact I1.fpOk hle (I1.hok.fresh hle)
  refine MkZ.iter_zip sb hz ?_
  have I2 : Inv X pins σ H1 { s1 with heap := h' } := I1.kept (t' := s1.toks) hk
  have S : ZipSep3 (s1.heap.objs.size + 5) (s1.heap.objs.size + 3) (s1.heap.objs.size + 4) s1.heap.objs.size (s1.heap.objs.size + 1) (s1.heap.objs.size + 2) [s1.heap.objs.size, a] [s1.heap.objs.size + 1, b] [s1.heap.objs.size + 2, c] :=
    zip_sep3 (fun b hb => by rw [List.mem_singleton.mp hb]; exact Heap.lt_size ho1) (fun b hb => by rw [List.mem_singleton.mp hb]; exact Heap.lt_size ho2) (fun b hb => by rw [List.mem_singleton.mp hb]; exact Heap.lt_size ho3)
  refine ⟨s1.heap.objs.size + 5, [s1.heap.objs.size + 5, s1.heap.objs.size + 3, s1.heap.objs.size + 4, s1.heap.objs.size, s1.heap.objs.size + 1, s1.heap.objs.size + 2], _, _, H1, rfl, I2, MkZ.turn3 sb S, ⟨hz, hTI, ⟨_, _, _, hTO⟩, ?_, ?_, ?_⟩, fresh6, q⟩
  · exact ⟨_, g1, rfl, rfl⟩
  · exact ⟨_, g2, rfl, rfl⟩
  · exact ⟨_, g3, rfl, rfl⟩
theorem pi_z3 {X : Cx} {e e2 e3 : Expr} {ta : TA} {p pos tpos : Pos} {elts : List Expr} {kk : Nat} (hg : Gl X "zip") (hm : X.mg "zip" = none) (ha : PA X [e, e2, e3] ta)
    (hs : starEach [e, e2, e3] X.env = (false, eval e X.env) :: starEach [e2, e3] X.env) (hpl : (backTo pos (starEach [e2, e3] X.env)).any (·.1) = false) :
    PI X (.Tuple elts kk tpos) (.Call (.Name "zip" p) [e, e2, e3] [] pos) (iZ3 X.K ta) := by
  refine ⟨fun pins s σ H R I h => ?_⟩
  refine Call_ (ld_blt I hg hm PyProof.Rows.boot_zip (PyProof.Rows.callWith_type1 (thn (ha.run pos pins s σ H _ I h) fun us s1 ⟨vs, H1, I1, r1, q1⟩ => ?_) hs hpl))
  obtain ⟨a, b, c, xs, ys, zs, rfl, hqx, hqy, hqz, q⟩ := q1
  rcases r1 with _ | ⟨⟨⟩, r1⟩
  rcases r1 with _ | ⟨⟨⟩, r1⟩
  rcases r1 with _ | ⟨⟨⟩, r1⟩
  cases r1
  obtain ⟨its, rv, p1, _⟩ := I1.tuple hqx
  obtain ⟨its2, rv2, p2, _⟩ := I1.tuple hqy
  obtain ⟨its3, rv3, p3, _⟩ := I1.tuple hqz
  exact zip_begins3 (begins_tuple a its.toArray) (begins_tuple b its2.toArray) (begins_tuple c its3.toArray) p1 p2 p3 fun h' hz hTI hTO g1 g2 g3 _ hk => z3_go false I1 hqx hqy hqz q hz hTI hTO g1 g2 g3 hk
theorem pi_z3K {X : Cx} {e e2 e3 : Expr} {ta : TA} {p pos tpos kp cq : Pos} {cp : Nat} {elts : List Expr} {kk : Nat} (hg : Gl X "zip") (hm : X.mg "zip" = none) (ha : PA X [e, e2, e3] ta)
    (hs : backTo pos (starEach [e, e2, e3] X.env) = (false, eval e X.env) :: backTo pos (starEach [e2, e3] X.env)) (hpl : (backTo pos (starEach [e, e2, e3] X.env)).any (·.1) = false)
    (hall : (backToKw pos (keywordEach [⟨some "strict", .Constant (.bool true) cp cq, kp⟩] X.env)).all (·.1.isSome) = true) (hn : (backToKw pos (keywordEach [⟨some "strict", .Constant (.bool true) cp cq, kp⟩] X.env)).any (·.1.isNone) = false)
    (hks : (backToKw pos (keywordEach [⟨some "strict", .Constant (.bool true) cp cq, kp⟩] X.env)).filterMap (·.1) = [("strict" : Str)]) :
    PI X (.Tuple elts kk tpos) (.Call (.Name "zip" p) [e, e2, e3] [⟨some "strict", .Constant (.bool true) cp cq, kp⟩] pos) (iZ3 X.K ta) := by
  refine ⟨fun pins s σ H R I h => ?_⟩
  refine wpAny_Call_Name_kw (ld_blt I hg hm PyProof.Rows.boot_zip ?_)
  refine cw_typeK hs hpl hall hn (thn (ha.run pos pins s σ H _ I h) fun us s1 ⟨vs, H1, I1, r1, q1⟩ => kws_cons ?_)
  obtain ⟨a, b, c, xs, ys, zs, rfl, hqx, hqy, hqz, q⟩ := q1
  rcases r1 with _ | ⟨⟨⟩, r1⟩
  rcases r1 with _ | ⟨⟨⟩, r1⟩
  rcases r1 with _ | ⟨⟨⟩, r1⟩
  cases r1
  obtain ⟨its, rv, p1, _⟩ := I1.tuple hqx
  obtain ⟨its2, rv2, p2, _⟩ := I1.tuple hqy
  obtain ⟨its3, rv3, p3, _⟩ := I1.tuple hqz
  refine wpAny_pure (kws_nil ?_)
  rw [hks]
  exact MkZ.zipK_begins (begins_tuple a its.toArray) (begins_tuple b its2.toArray) (begins_tuple c its3.toArray) p1 p2 p3 fun h' hz hTI hTO g1 g2 g3 hk => z3_go true I1 hqx hqy hqz q hz hTI hTO g1 g2 g3 hk
section
variable {α β γ : Type} [Im α] [Im β] [Im γ] {e e2 e3 : Expr} {elts : List Expr} {kk : Nat} {p pos tpos kp cq : Pos} {cp : Nat} {xs : List α} {ys : List β} {zs : List γ}
theorem ei_z3_go {it : Expr} (ht : ∀ X, Cok C X → PI X (.Tuple elts kk tpos) it (iZ3 X.K (tCons (tE C e) (tCons (tE C e2) (tCons (tE C e3) tNil))))) (ha : EvR C G e (.im (· = xs))) (hb : EvR C G e2 (.im (· = ys))) (hc : EvR C G e3 (.im (· = zs))) (l2 : ys.length = xs.length) (l3 : zs.length = xs.length) :
    EvI C G (.Tuple elts kk tpos) it (· = zip3 xs ys zs) := fun B σ H own le D ln ow R q => by
  refine tI_of (wi := iZ3 C.T.K (tCons (tE C e) (tCons (tE C e2) (tCons (tE C e3) tNil)))) (fun X ok => by rw [← ok.K]; exact ht X ok) ?_
  refine ha B σ H ⟨le, D, ln, own, ow⟩ _ fun v H1 ⟨l, _, e1, a, vs, ev, h1, r1⟩ => ?_
  refine hb B σ H1 ⟨le.trans l, D, ln, own, ow.go D l⟩ _ fun w H2 ⟨l2', _, e2, b, ws, ew, h2, r2⟩ => ?_
  refine tE_len (hc B σ H2 ⟨(le.trans l).trans l2', D, ln, own, (ow.go D l).go D l2'⟩ _ fun u H3 ⟨l3', _, e3, c, us, eu, h3, r3⟩ hl => ?_)
  subst e1 e2 e3 ev ew eu
  have h1' := (l2'.trans l3').tle a _ h1 trivial
  have r1' := r1.keep (l2'.trans l3').tle
  have h2' := l3'.tle b _ h2 trivial
  have r2' := r2.keep l3'.tle
  exact ⟨a, b, c, vs, ws, us, rfl, .inl (.inl h1'), .inl (.inl h2'), .inl (.inl h3), q _ H3 _ [] ((l.trans l2').trans l3') rfl (isWalk_zip3 h1' h2' h3 r1' r2' r3 l2 l3 (hl a vs (.inr h1'))) (fun _ z => by simp at z)⟩
theorem ei_zip3 (bl : Blt C.T) (ha : EvR C G e (.im (· = xs))) (hb : EvR C G e2 (.im (· = ys))) (hc : EvR C G e3 (.im (· = zs))) (l2 : ys.length = xs.length) (l3 : zs.length = xs.length) (hg : C.sc.names.lookup ("zip" : Str) = some .globalImplicit := by rfl)
    (hs : ∀ env, starEach [e, e2, e3] env = (false, eval e env) :: starEach [e2, e3] env := by intro _; rfl) (hs2 : ∀ env, starEach [e2, e3] env = (false, eval e2 env) :: starEach [e3] env := by intro _; rfl) (hs3 : ∀ env, starEach [e3] env = (false, eval e3 env) :: starEach [] env := by intro _; rfl)
    (hpl : ∀ env, (backTo pos (starEach [e2, e3] env)).any (·.1) = false := by intro _; rfl) :
    EvI C G (.Tuple elts kk tpos) (.Call (.Name "zip" p) [e, e2, e3] [] pos) (· = zip3 xs ys zs) :=
  ei_z3_go (e := e) (e2 := e2) (e3 := e3) (fun X ok => pi_z3 (gl_of ok hg) (by rw [ok.mg]; exact bl.zip) (pa_cons (pe_tE ok) (pa_cons (pe_tE ok) (pa_cons (pe_tE ok) pa_nil (hs3 _)) (hs2 _)) (hs _)) (hs _) (hpl _)) ha hb hc l2 l3
theorem ei_zip3K (bl : Blt C.T) (ha : EvR C G e (.im (· = xs))) (hb : EvR C G e2 (.im (· = ys))) (hc : EvR C G e3 (.im (· = zs))) (l2 : ys.length = xs.length) (l3 : zs.length = xs.length) (hg : C.sc.names.lookup ("zip" : Str) = some .globalImplicit := by rfl)
    (hs : ∀ env, starEach [e, e2, e3] env = (false, eval e env) :: starEach [e2, e3] env := by intro _; rfl) (hs2 : ∀ env, starEach [e2, e3] env = (false, eval e2 env) :: starEach [e3] env := by intro _; rfl) (hs3 : ∀ env, starEach [e3] env = (false, eval e3 env) :: starEach [] env := by intro _; rfl)
    (hs0 : ∀ env, backTo pos (starEach [e, e2, e3] env) = (false, eval e env) :: backTo pos (starEach [e2, e3] env) := by intro _; rfl) (hpl : ∀ env, (backTo pos (starEach [e, e2, e3] env)).any (·.1) = false := by intro _; rfl) :
    EvI C G (.Tuple elts kk tpos) (.Call (.Name "zip" p) [e, e2, e3] [⟨some "strict", .Constant (.bool true) cp cq, kp⟩] pos) (· = zip3 xs ys zs) :=
  ei_z3_go (e := e) (e2 := e2) (e3 := e3) (fun X ok => pi_z3K (gl_of ok hg) (by rw [ok.mg]; exact bl.zip) (pa_cons (pe_tE ok) (pa_cons (pe_tE ok) (pa_cons (pe_tE ok) pa_nil (hs3 _)) (hs2 _)) (hs _)) (hs0 _) (hpl _) rfl rfl rfl) ha hb hc l2 l3
end
end Mk
-- MkDcx
namespace Mk
open Im (rep)
open PySem PySem.Spec PyProof.Rows L2
structure DKind (T : Tx) where
  e0 : Addr → HO
  put : Hp → Addr → V → V → Hp → Prop
  ok0 : ∀ (H : Hp) (h : Heap), sysModules < h.objs.size → ObjOk T.P T.w H (h.push { cls := .type "dict", data := .dict #[] }) h.objs.size (e0 h.objs.size)
  set : ∀ {X : Cx} {pins : List (Addr × Obj)} {σ : L2.St} {H H' : Hp} {s : Shared} {E : Value → Shared → Prop} {D : Addr} {y z : V} {u r : Value} {Q : Unit → Shared → Prop}, X.prog = T.P → X.w = T.w → X.A.units + 64 < cLine → Inv X pins σ H s → put H D y z H' → RelV y u → RelV z r →
    (∀ s', Inv X pins σ H' s' → Q () s') → wpAny (model X.prog X.w) X.A (dictSet D u r) Q E s
def tDx {T : Tx} (Kd : DKind T) (wi : TI) (g : TG) (tk tv : TE) (vs : List Nat) : TE := fun σ H Q => wi σ H fun J H1 => ∀ D, H1 D = none → ∃ W : Nat → Nat → Hp → Prop, (∃ m, W 0 m (upd H1 D (Kd.e0 D))) ∧ ∀ i m H, W i m H →
  (J.stop i H ∧ Q (.ref D) H) ∨ (J.go i H ∧ ∃ Nx : Hp → Prop, (∀ H', Nx H' → ∃ m', m' < m ∧ W (i + 1) m' H') ∧ ∀ x H', J.yld i H x H' → g x (wipe σ vs) H' fun σ2 H2 => wipe σ2 vs = wipe σ vs ∧
    tk σ2 H2 fun y H4 => tv σ2 H4 fun z H5 => ∃ H6, Kd.put H5 D y z H6 ∧ Nx H6)
section
variable {X : Cx}
theorem pe_dx {T : Tx} (Kd : DKind T) {kx vx tg iter : Expr} {scope : Scope} {own : List (Str × Nat)} {pos : Pos} {wi : TI} {g : TG} {tk tv : TE} (hP : X.prog = T.P) (hw : X.w = T.w) (hu : X.A.units + 64 < cLine) (hc : X.calm = true) (hN : X.N.Nodup) (hi : PI X tg iter wi) (ok : BlkOk X.N X.env.scope scope own)
    (hg : ∀ s H Ca cl fp, PG (X.blk s H scope (compEnvC scope cl Ca X.env) fp) tg g) (hk : ∀ s H Ca cl fp, PE (X.blk s H scope (compEnvC scope cl Ca X.env) fp) kx tk)
    (he : ∀ s H Ca cl fp, PE (X.blk s H scope (compEnvC scope cl Ca X.env) fp) vx tv) (hs : ∀ x, foldedSetIterable iter X.env x = pure x) :
    PE X (.DictComp kx vx [⟨tg, iter, [], 0⟩] scope pos) (tDx Kd wi g tk tv (own.map (·.2))) := by
  refine ⟨fun pins s σ H Q I hh => ?_⟩
  rw [arm_eval_DictComp]
  have clo : ∀ y ∈ scope.names, y.2 = .free → ∃ c, X.env.cells.lookup y.1 = some c := fun y hy e => (ok.free y hy e).elim (fun z => I.ok.has _ (.inl z)) fun z => I.ok.has _ (.inr z)
  refine wpAny_comprehension_free (use := none) rfl hs (closure_ok clo) ok.kind (fun y hy e => by rw [ok.uniq y hy, e]) (thn (hi.run pins s σ H _ I hh) fun itr sa hx => thn hx fun itv sb h2 => ?_)
  obtain ⟨it, fp, tn, J, Hb, e, Ib, T1, stb, fb, q⟩ := h2
  subst e
  refine wpAny_newObj_type (newEnv_comp ?_)
  generalize hD : sb.heap.objs.size = D
  have free0 : Hb D = none := Ib.hok.fresh (Nat.le_of_eq hD)
  obtain ⟨W, ⟨m0, w0⟩, turn⟩ := q D free0
  generalize hsc : ({ sb with heap := sb.heap.push { cls := .type "dict", data := .dict #[] } } : Shared) = sc
  have heapc : sc.heap = sb.heap.push { cls := .type "dict", data := .dict #[] } := by rw [← hsc]
  have Ic : Inv X pins σ (upd Hb D (Kd.e0 D)) sc := by
    rw [← hsc]
    refine Ib.laid (t' := sb.toks) (fun b o z => Heap.get?_push_of_some _ z) (Nat.le_of_eq hD) ?_
    rw [← hD, hP, hw]
    exact Kd.ok0 _ _ Ib.big
  have fc : ∀ b ∈ fp, FpOk X pins (upd Hb D (Kd.e0 D)) b ∧ b < sc.heap.objs.size := fun b hb => by
    obtain ⟨ob, eb, _⟩ := T1.obj _ _ stb b hb
    have hlt := Heap.lt_size eb
    refine ⟨⟨?_, (fb b hb).2⟩, by rw [heapc, Heap.size_push]; exact Nat.lt_succ_of_lt hlt⟩
    rw [upd_ne (by rw [← hD]; exact Nat.ne_of_lt hlt)]
    exact (fb b hb).1
  have stc : tn 0 sc.heap := T1.keep _ _ _ stb fun b _ o z => by rw [heapc]; exact Heap.get?_push_of_some _ z
  have Id := block_start Ic ok hN fc
  have g1 := hg sc (upd Hb D (Kd.e0 D)) sc.heap.objs.size (cellsFrom (sc.heap.objs.size + 1) scope.names (cloFrom X.env.cells scope.names [])) fp
  have k1 := hk sc (upd Hb D (Kd.e0 D)) sc.heap.objs.size (cellsFrom (sc.heap.objs.size + 1) scope.names (cloFrom X.env.cells scope.names [])) fp
  have v1 := he sc (upd Hb D (Kd.e0 D)) sc.heap.objs.size (cellsFrom (sc.heap.objs.size + 1) scope.names (cloFrom X.env.cells scope.names [])) fp
  have nofp : ∀ b ∈ fp, (upd Hb D (Kd.e0 D)) b = none := fun b hb => (fc b hb).1.1
  show codeAny _ _ (.compStart (.DictComp kx vx [⟨tg, iter, [], 0⟩] scope pos) 0 (.ref it) (.ref D) (compEnvC scope (cellsFrom (sc.heap.objs.size + 1) scope.names (cloFrom X.env.cells scope.names [])) sc.heap.objs.size X.env)) (compPost (model X.prog X.w) X.A X.xe none (EP X pins σ Q) (.ref D) sc.heap.objs.size) { sc with heap := pushCells (sc.heap.push { cls := .type "dict", data := .dict #[] }) scope.names }
  generalize hce : compEnvC scope (cellsFrom (sc.heap.objs.size + 1) scope.names (cloFrom X.env.cells scope.names [])) sc.heap.objs.size X.env = ce at Id g1 k1 v1 ⊢
  have locs : ce.locals = sc.heap.objs.size := by subst hce; rfl
  generalize hHc : upd Hb D (Kd.e0 D) = Hc at Ic Id g1 k1 v1 w0 nofp fc
  generalize hsd : ({ sc with heap := pushCells (sc.heap.push { cls := .type "dict", data := .dict #[] }) scope.names } : Shared) = sd at Id ⊢
  have std : tn 0 sd.heap := T1.keep _ _ _ stc fun b _ o z => by rw [← hsd]; exact pushCells_keeps _ _ _ _ (Heap.get?_push_of_some _ z)
  have foot : ∀ {σ' : L2.St} {H' : Hp} {s' : Shared}, Inv (X.blk sc Hc scope ce fp) [] σ' H' s' → (∀ b ∈ fp, H' b = none) → ∀ b ∈ fp, FpOk (X.blk sc Hc scope ce fp) [] H' b := fun {σ' H' s'} I' hn b hb =>
    ⟨hn b hb, (I'.ok.exf b hb).1, I'.ok.exfs b hb, .inl hb, fun x c z => (I'.ok.exf b hb).2 x c z, fun p hp => absurd (show p ∈ ([] : List (Addr × Obj)) ++ [] from hp) (by simp)⟩
  have loop : codeAny (model X.prog X.w) X.A (.compLoop (.DictComp kx vx [⟨tg, iter, [], 0⟩] scope pos) 0 (.ref it) (.ref D) ce) (compPost (model X.prog X.w) X.A X.xe none (EP X pins σ Q) (.ref D) sc.heap.objs.size) sd := by
    refine compLoop_anyD (fun n s' => ∃ i H', Inv (X.blk sc Hc scope ce fp) [] (wipe σ (own.map (·.2))) H' s' ∧ tn i s'.heap ∧ (∀ b ∈ fp, H' b = none) ∧ W i n H') ?_ m0 ⟨0, Hc, Id, std, nofp, w0⟩
    rintro n se ⟨i, He, Ie, ste, ne, we⟩
    rcases turn i n He we with ⟨stop, qq⟩ | ⟨go, Nx, hNx, step⟩
    · have fin := T1.done (X.blk sc Hc scope ce fp) rfl rfl rfl hc i [] se _ He (fun _ _ => False) Ie (foot Ie ne) ste stop
      refine thnF fin fun r sf ⟨hr, If⟩ => ?_
      subst hr
      have Ig : Inv X pins σ He sf := Ic.call' (ch := fp) If.os If.base If.hok If.bare fun b hb => ⟨(fc b hb).1.2.2.2.1, (fc b hb).1.2.1, (fc b hb).1.2.2.2.2.1, (fc b hb).1.2.2.2.2.2⟩
      have nC : He sc.heap.objs.size = none := locs ▸ If.free
      obtain ⟨m, hn, _⟩ := If.loc
      have hn : sf.heap.Ns ce.locals m := hn
      rw [locs] at hn
      refine ⟨m, hn, fun h'' sbut => ?_⟩
      obtain ⟨f0, f1, f2, f3, f4, f5⟩ := Ic.fpOk (Nat.le_refl _) nC
      exact ⟨.ref D, He, Ig.turned (t' := sf.toks) (fun b o hb z => (sbut.2 b hb).trans z) f0 f1 f3 f4 f5, rfl, qq⟩
    · have nxt := T1.item (X.blk sc Hc scope ce fp) rfl rfl rfl hc i [] se _ He (fun _ _ => False) Ie (foot Ie ne) ste go
      refine thnF nxt fun r sf ⟨u, hr, h6⟩ => ?_
      subst hr
      refine thnF h6 fun _ sg ⟨x, Hg, Ig, rg, yg, stg, ng⟩ => ?_
      have Ig' := Ig.pinned (foot Ig ng) (T1.obj _ _ stg)
      refine thnF (g1.run _ sg _ Hg x u _ Ig' rg (step x Hg yg)) fun _ sh ⟨σh, Hh, Ih, hwh, qh⟩ => ?_
      refine wpAny_pure ?_
      simp only [if_true]
      refine thnF (k1.run _ sh σh Hh _ Ih qh) fun ku si ⟨yk, Hi, Ii, ri, qi⟩ => ?_
      refine thnF (v1.run _ si σh Hi _ Ii qi) fun vu sj ⟨yv, Hj, Ij, rj, Hk, hput, nx⟩ => ?_
      refine Kd.set (X := X.blk sc Hc scope ce fp) hP hw hu Ij hput ri rj fun sk Ik => ?_
      obtain ⟨m', hm, w'⟩ := hNx Hk nx
      have kept : ∀ b ∈ fp, ∀ o, sg.heap.get? b = some o → sk.heap.get? b = some o ∧ Hk b = none := fun b hb o z => by
        have p := Ik.pin (b, o) (List.mem_append_right _ (List.mem_append_right _ (mem_pinsAt hb z)))
        exact ⟨p.1, p.2.1⟩
      have hl : (wipe σ (own.map (·.2))).length = σh.length := by rw [← hwh, wipe_length]
      refine ⟨m', hm, i + 1, Hk, (Ik.unpinned (pins := [])).weak hl (fun j v z => ?_), T1.keep _ _ _ stg fun b hb o z => (kept b hb o z).1, fun b hb => ?_, w'⟩
      · rw [← hwh] at z
        exact (wipe_some z).1
      · obtain ⟨o, z, _⟩ := T1.obj _ _ stg b hb
        exact (kept b hb o z).2
  exact codeAny_compStart_dict loop (T1.self X.A 0 _ _ _ std loop)
end
end Mk
-- MkPar
namespace Mk
open Im (rep)
open PySem PySem.Spec PyProof.Rows L2
variable {C : Cg} {G : List Slot}
def Puts (d : Option Addr) (r : Ret) (i : Nat) (K : List Slot → List Slot → Prop) : Prop := ∀ B (G : List Slot) σ H v H2, i < G.length → Env d B G σ H → retIs d H r v H2 → ∃ G', K G G' ∧ Env d B G' (σ.set i (some v)) H2
section
variable {d : Option Addr} {i : Nat}
theorem put_im {α : Type} [Im α] {P : α → Prop} : Puts d (.im P) i fun G G' => ∃ a, P a ∧ G' = G.set i (.im a) := fun B G σ H v H2 hi E ⟨l, a, p, r⟩ => ⟨_, ⟨a, p, rfl⟩, (E.go l).set_im hi r⟩
theorem put_ls {α : Type} [Im α] {P : List α → Prop} : Puts d (.ls P) i fun G G' => ∃ a, P a ∧ G' = G.set i (.ls a) := fun B G σ H v H2 hi E ⟨l, p, vs, xs, ev, n, h1, r, px⟩ => ⟨_, ⟨xs, px, rfl⟩, by rw [ev]; exact E.set_new hi n l ⟨vs, h1, r⟩⟩
theorem put_ro {α : Type} [Im α] {P : List α → Prop} : Puts d (.ls P) i fun G G' => ∃ a, P a ∧ G' = G.set i (.ro a) := fun B G σ H v H2 hi E ⟨l, p, vs, xs, ev, n, h1, r, px⟩ => ⟨_, ⟨xs, px, rfl⟩, by rw [ev]; exact E.set_ro hi n l h1 r⟩
theorem put_dk {β : Type} [Im β] {P : List (Str × β) → Prop} : Puts d (.dk P) i fun G G' => ∃ a, P a ∧ G' = G.set i (.dk a) := fun B G σ H v H2 hi E ⟨l, p, vs, xs, ev, n, h1, r, px⟩ => ⟨_, ⟨xs, px, rfl⟩, by rw [ev]; exact E.set_new hi n l ⟨vs, h1, r⟩⟩
theorem put_dt {β : Type} [Im β] {P : List (List Str × β) → Prop} : Puts d (.dt P) i fun G G' => ∃ a, P a ∧ G' = G.set i (.dt a) := fun B G σ H v H2 hi E ⟨l, p, vs, xs, ev, n, h1, r, px⟩ => ⟨_, ⟨xs, px, rfl⟩, by rw [ev]; exact E.set_new hi n l ⟨vs, h1, r⟩⟩
theorem Env.set_rk {β : Type} [Im β] {B H H1 : Hp} {σ : L2.St} {p : Addr} {vs : List (Key × V)} {xs : List (Str × β)} (E : Env d B G σ H) (hi : i < G.length) (hp : H p = none) (k : Le d H H1) (h1 : H1 p = some (.dK vs)) (r : RepK H1 vs xs) : Env d B (G.set i (.rk xs)) (σ.set i (some (.ref p))) H1 := by
  obtain ⟨le, D, ln, own, h⟩ := E
  have hg := h.go D k
  refine ⟨le.trans k, D, by rw [List.length_set, List.length_set]; exact ln, own, hg.free, hg.cell, fun j s e => ?_⟩
  rcases slot_other e with ⟨rfl, rfl, _⟩ | ⟨hj, e⟩
  · exact ⟨p, vs, by rw [List.getElem?_set_self (by rw [ln]; exact hi)]; rfl, h.free p hp, (D.le le).ne hp, h1, r⟩
  · rw [sig_other hj]
    exact hg.slots j s e
theorem put_rk {β : Type} [Im β] {P : List (Str × β) → Prop} : Puts d (.dk P) i fun G G' => ∃ a, P a ∧ G' = G.set i (.rk a) := fun B G σ H v H2 hi E ⟨l, p, vs, xs, ev, n, h1, r, px⟩ => ⟨_, ⟨xs, px, rfl⟩, by rw [ev]; exact E.set_rk hi n l h1 r⟩
end
section
variable {e : Expr} {pos pos' : Pos} {rest : List Stmt} {D : GEnds} {i : Nat} {x : Str} {r : Ret} {K : List Slot → List Slot → Prop}
theorem run_let (hp : Puts C.d r i K) (h : EvR C G e r) (k : ∀ G', K G G' → Run C G' rest D) (hi : i < G.length := by exact Nat.le_of_ble_eq_true rfl) (hN : C.N[i]? = some x := by rfl) (hx : Sto C x := by first | exact Or.inl rfl | exact Or.inr ⟨rfl, rfl⟩)
    (hs : ∀ env : PySem.Env, env.scope = C.sc → swapsWith e (some (.Name x pos')) pos.line env = pure false := by first | (intro _ _; rfl) | (intro env e; cases env; cases e; rfl)) : Run C G (.Assign [.Name x pos'] e pos :: rest) D :=
  run_asg (K := K G) hN hx hs h (fun B σ H v H2 E hv => hp B G σ H v H2 hi E hv) k
variable {a b : Expr} {y : Str} {j : Nat} {r1 r2 : Ret} {K1 K2 : List Slot → List Slot → Prop} {px py pt pt2 : Pos} {kt k2 : Nat}
theorem run_par (hp1 : Puts C.d r1 i K1) (hp2 : Puts C.d r2 j K2) (ha : EvR C G a r1) (hb : EvR C G b r2) (k : ∀ G' G'', K1 G G' → K2 G' G'' → Run C G'' rest D) (hK : ∀ G', K1 G G' → G'.length = G.length) (hi : i < G.length := by exact Nat.le_of_ble_eq_true rfl) (hj : j < G.length := by exact Nat.le_of_ble_eq_true rfl) (hij : i ≠ j := by decide)
    (hN : C.N[i]? = some x := by rfl) (hM : C.N[j]? = some y := by rfl) (hx : C.sc.names.lookup x = some .local := by rfl) (hy : C.sc.names.lookup y = some .local := by rfl) (hs1 : ∀ env, starEach [a, b] env = (false, eval a env) :: starEach [b] env := by intro _; rfl) (hs2 : ∀ env, starEach [b] env = (false, eval b env) :: starEach [] env := by intro _; rfl)
    (hw : ∀ env : PySem.Env, env.scope = C.sc → swappedStores [.Tuple [.Name x px, .Name y py] kt pt] (.Tuple [a, b] k2 pt2) env = pure (some [x, y]) := by (intro env e; cases env; cases e; rfl))
    (hs : ∀ env, swapsWithSole [.Tuple [.Name x px, .Name y py] kt pt] (.Tuple [a, b] k2 pt2) pos.line env = pure false := by intro _; rfl) : Run C G (.Assign [.Tuple [.Name x px, .Name y py] kt pt] (.Tuple [a, b] k2 pt2) pos :: rest) D := fun B σ H E => by
  refine tSs_of (t := tSeq (tPar i j (tCons (tE C a) (tCons (tE C b) tNil))) (tSs C rest)) (fun X ok => pss_cons (ps_par ok.calm (by rw [ok.N]; exact ok.nd) (by rw [ok.N]; exact hN) (by rw [ok.N]; exact hM) hij (by rw [ok.sc]; exact hx) (by rw [ok.sc]; exact hy) (pa_cons (pe_tE ok) (pa_cons (pe_tE ok) pa_nil (hs2 _)) (hs1 _)) (hw _ ok.sc) (hs _)) (pss_tS ok)) ?_
  refine ha B σ H E _ fun v H1 hv => hb B σ H1 (E.go hv.1) _ fun w H2 hw2 => ⟨v, w, rfl, ?_⟩
  obtain ⟨G', hG', E'⟩ := hp1 B G σ H v H1 hi E hv
  obtain ⟨G'', hG'', E''⟩ := hp2 B G' _ H1 w H2 (by rw [hK G' hG']; exact hj) E' hw2
  exact k G' G'' hG' hG'' B _ H2 E''
end
theorem ev_neg {a : Expr} {pos : Pos} {i : Int} (ha : EvR C G a (.im (· = i))) : EvR C G (.UnaryOp .USub a pos) (.im (· = -i)) := fun B σ H E Q q => by
  refine tE_of (t := tUn (rU fun i => .int (-i)) (tE C a)) (fun X ok => pe_un un_neg (pe_tE ok)) ?_
  exact ha B σ H E _ fun v H1 ⟨l, z, e, r⟩ => ⟨z, r, q _ H1 ⟨l, -z, by rw [e], rfl⟩⟩
end Mk
-- MkF1
namespace Mk
open Im (rep)
open PySem PySem.Spec PyProof.Rows L2
variable {T : Tx}
theorem def_ok {β : Type} {dice : Bool} {args : β → List Slot} {pre : β → Prop} {post : β → Ret} {k i : Nat} {x : Str} {N ps : List Str} (F : DefT T i x) (S : FnScope N ps (defScope (top i)))
    (hb : ∀ (kV doc pm : Value) (an : Option Addr) (cdv ct : Value) (us : List Value), us.length = ps.length → bindArgs (PySem.W.fnOf x x (defArgs (top i)) (defBody (top i)) (defScope (top i)) .none kV doc pm an cdv ct) ⟨us, []⟩ = pure (ps.zip us)) (hl : ∀ b, (args b).length = ps.length)
    (h : ∀ b d, (dice = false → d = none) → pre b → Run ⟨T, N, defScope (top i), k, d, fun _ => true⟩ (args b ++ List.replicate (N.length - ps.length) .no) (defBody (top i)) { nx := fun _ => post b = .non, rt := post b }) : Fn T (k + 1) x (spC dice args pre post) := by
  obtain ⟨f, fd, F, hm⟩ := F
  exact fn_ok F hm S (FunD.bindsN F hb) hl h
theorem fn_okQ {β : Type} {T : Tx} {dice : Bool} {args : β → List Slot} {pre : β → Prop} {post : β → Ret} {k : Nat} {x nm q : Str} {N ps : List Str} {params : Arguments} {body : List Stmt} {scope : Scope} {f : Addr} {fd : FuncData}
    (F : FunD T.K nm q params body scope [] [] f fd) (hm : T.mg x = some (.ref f)) (S : FnScope N ps scope) (hb : Binds T.K fd ps []) (hl : ∀ b, (args b).length = ps.length)
    (h : ∀ b d, (dice = false → d = none) → pre b → Run ⟨T, N, scope, k, d, fun _ => true⟩ (args b ++ List.replicate (N.length - ps.length) .no) body { nx := fun _ => post b = .non, rt := post b }) : Fn T (k + 1) x (spC dice args pre post) := by
  refine ⟨f, fd, ps, [], [], spC dice args pre post, fn_okF F S hl h, hm, F.kp, hb, .nil, fun vs H Q E z => by rw [List.append_nil]; exact z⟩
def ltN (a b : Nm) : Prop := a.s.cps.toList < b.s.cps.toList
instance : DecidableRel ltN := fun a b => by unfold ltN; infer_instance
structure Cols (cs : List Nm) : Prop where
  asc : cs.Pairwise ltN
  len : cs.length ≤ 8
theorem Nm.signs (a : Nm) : ∀ c ∈ a.s.cps.toList, c ∈ ("abcdefghijklmnopqrstuvwxyz" : Str).cps.toList := fun c hc => by
  have h := a.ok
  unfold nmOk at h
  simp only [Bool.and_eq_true, List.all_eq_true, decide_eq_true_eq] at h
  have h1 := h.2.2 c hc
  have key : ∀ n, n < 26 → 97 + n ∈ ("abcdefghijklmnopqrstuvwxyz" : Str).cps.toList := by decide +kernel
  have := key (c - 97) (by omega)
  rwa [show 97 + (c - 97) = c by omega] at this
theorem Nm.len (a : Nm) : 1 ≤ a.s.length ∧ a.s.length ≤ 8 := by
  have h := a.ok
  unfold nmOk at h
  simp only [Bool.and_eq_true, decide_eq_true_eq] at h
  exact ⟨h.1, h.2.1⟩
theorem sc_is_integer : FnScope ["value"] ["value"] (defScope (top 13)) := ⟨rfl, rfl, rfl, by decide +kernel, rfl, by decide +kernel, by decide +kernel⟩
theorem ok_is_integer (h : Top T) : Fn T 1 "is_integer" (spC (β := Int) false (fun b => [.im b]) (fun _ => True) (fun _ => .im (· = true))) := by
  refine def_ok (at_is_integer h) sc_is_integer (fun _ _ _ _ _ _ us hl => match us, hl with | [_], _ => rfl) (fun b => rfl) fun b d hd _ => ?_
  refine run_ret ((ev_and (x := true) (y := true) (ev_isi (P := (· = b)) (blt h) ((ev_var (i := 0) rfl)) (blt h).int (fun K => kit_ty (by decide +kernel)) PyProof.Rows.boot_int) fun _ => ev_one ((ev_not (ev_isi (P := (· = b)) (b := false) (blt h) ((ev_var (i := 0) rfl)) (blt h).bool (fun K => kit_ty (by decide +kernel)) PyProof.Rows.boot_bool)).to rfl)).to rfl)
theorem sc_is_index : FnScope ["total", "value"] ["total", "value"] (defScope (top 14)) := ⟨rfl, rfl, rfl, by decide +kernel, rfl, by decide +kernel, by decide +kernel⟩
theorem ok_is_index (h : Top T) : Fn T 2 "is_index" (spC (β := Int × Int) false (fun b => [.im b.1, .im b.2]) (fun _ => True) (fun b => .im (· = (decide (0 ≤ b.2) && decide (b.2 < b.1))))) := by
  refine def_ok (at_is_index h) sc_is_index (fun _ _ _ _ _ _ us hl => match us, hl with | [_, _], _ => rfl) (fun b => rfl) fun b d hd _ => ?_
  exact run_ret ((ev_and (x := true) (ev_call (ok_is_integer h) b.2 (ea_var (i := 1) rfl ea_nil) rfl trivial) fun _ => ev_one (ev_leLt ev_int ((ev_var (i := 1) rfl)) ((ev_var (i := 0) rfl))).v).to (Bool.true_and _))
theorem sc_is_name : FnScope ["value", "sign"] ["value"] (defScope (top 15)) := ⟨rfl, rfl, rfl, by decide +kernel, rfl, by decide +kernel, by decide +kernel⟩
theorem ok_is_name (h : Top T) : Fn T 1 "is_name" (spC (β := Nm) false (fun b => [.im b]) (fun _ => True) (fun _ => .im (· = true))) := by
  refine def_ok (at_is_name h) sc_is_name (fun _ _ _ _ _ _ us hl => match us, hl with | [_], _ => rfl) (fun b => rfl) fun b d hd _ => ?_
  have hz := b.len
  refine run_if (b := false) (EvT.to (et_w (ew_or (x := false) (y := false) ((et_not (et_val (ev_isi (P := (· = b)) (b := true) (blt h) ((ev_var (i := 0) rfl)) (blt h).str (fun K => kit_ty (by decide +kernel)) PyProof.Rows.boot_str))).to rfl) fun _ => ew_or1 ((et_not (ev_leLe ev_int (ev_lenS (blt h) (ev_nmS ((ev_var (i := 0) rfl))) (by omega)) (ev_glob (v := .int 8) (g_MOST_SIGNS h) fun H => rfl)).t).to ?_))) rfl) (fun z => by cases z) fun _ => run_nil ?_
  · rw [decide_eq_true (show (1 : Int) ≤ (b.s.length : Int) by omega), decide_eq_true (show (b.s.length : Int) ≤ 8 by omega)]; rfl
  refine run_ret ((ev_all (blt h) (ev_lc (own := [("sign", 1)]) (lc_map (fun _ : Str => true) rfl (ei_str (ev_nmS ((ev_var (i := 0) rfl))) (by omega)) (by kernel_rfl) (bnd_name (i := 1)) (by decide) fun x hx => ?_))).to ?_)
  · obtain ⟨c, hc, rfl⟩ := List.mem_map.mp hx
    exact (ev_inSign ((ev_var (i := 1) rfl)) (ev_glob (v := .str "abcdefghijklmnopqrstuvwxyz") (g_SIGNS h) fun H => rfl)).v.to (decide_eq_true (b.signs c hc))
  · rw [List.all_map]
    exact List.all_eq_true.mpr fun _ _ => rfl
theorem sc_are_columns : FnScope ["value", "name", "one", "other"] ["value"] (defScope (top 16)) := ⟨rfl, rfl, rfl, by decide +kernel, rfl, by decide +kernel, by decide +kernel⟩
theorem asc_zip {cs : List Nm} (h : cs.Pairwise ltN) : ∀ x ∈ cs.zip (cs.drop 1), ltN x.1 x.2 := by
  induction cs with
  | nil => intro x hx; simp at hx
  | cons a cs ih =>
    intro x hx
    cases cs with
    | nil => simp at hx
    | cons b cs =>
      rw [List.drop_one, List.tail_cons, List.zip_cons_cons] at hx
      obtain ⟨h1, h2⟩ := List.pairwise_cons.mp h
      rcases List.mem_cons.mp hx with e | hx
      · subst e; exact h1 b List.mem_cons_self
      · exact ih h2 x (by rw [List.drop_one, List.tail_cons]; exact hx)
theorem ok_are_columns (h : Top T) : Fn T 2 "are_columns" (spC (β := List Nm) false (fun b => [.im b]) Cols (fun _ => .im (· = true))) := by
  refine def_ok (at_are_columns h) sc_are_columns (fun _ _ _ _ _ _ us hl => match us, hl with | [_], _ => rfl) (fun b => rfl) fun b d hd hc => ?_
  have hz := hc.len
  refine run_if (b := false) (EvT.to (et_w (ew_or (x := false) (y := false) ((et_not (et_val (ev_isi (P := (· = b)) (b := true) (blt h) ((ev_var (i := 0) rfl)) (blt h).tuple (fun K => kit_ty (by decide +kernel)) PyProof.Rows.boot_tuple))).to rfl)
    fun _ => ew_or (x := false) (y := false) ((ev_gtE (ev_len (P := (· = b)) (n := b.length) (blt h) (es_im ((ev_var (i := 0) rfl))) (fun xs e => by rw [e])) (ev_glob (v := .int 8) (g_MOST_COLUMNS h) fun H => rfl)).t.to (decide_eq_false (by omega)))
    fun _ => ew_or1 ((et_not (et_val (ev_all (blt h) (ev_lc (own := [("name", 1)]) (lc_map (fun _ : Nm => true) rfl (ei_tup ((ev_var (i := 0) rfl))) (by kernel_rfl) (bnd_name (i := 1)) (by decide) fun x hx => ev_call (ok_is_name h) x (ea_var (i := 1) rfl ea_nil) rfl trivial))))).to ?_))) rfl) (fun z => by cases z) fun _ => run_nil ?_
  · simp
  refine run_ret ((ev_all (blt h) (ev_lc (own := [("one", 2), ("other", 3)]) (lc_map (fun _ : Nm × Nm => true) rfl (ei_zip (blt h) ((ev_var (i := 0) rfl)) (ev_tail ((ev_var (i := 0) rfl)))) (by kernel_rfl) (bnd_pair (i := 2) (j := 3)) (by decide) fun x hx => ?_))).to ?_)
  · exact (ev_ltS (ev_nmS ((ev_var (i := 2) rfl))) (ev_nmS ((ev_var (i := 3) rfl)))).v.to (decide_eq_true (asc_zip hc.asc x hx))
  · rw [List.all_map]
    exact List.all_eq_true.mpr fun _ _ => rfl
theorem fn_ok0 {β : Type} {T : Tx} {args : β → List Slot} {pre : β → Prop} {post : β → Ret} {k : Nat} {x : Str} {N ps : List Str} {params : Arguments} {body : List Stmt} {scope : Scope} {f : Addr} {fd : FuncData} {kn : Str} {dv : Int}
    (F : FunD T.K x x params body scope [] [(kn, .int dv)] f fd) (hm : T.mg x = some (.ref f)) (S : FnScope N ps scope) (hb : ∃ ds, Vals [V.int dv] ds ∧ Binds T.K fd ps ds) (hl : ∀ b, (args b).length + 1 = ps.length)
    (h : ∀ b, pre b → Run ⟨T, N, scope, k, none, fun _ => true⟩ ((args b ++ [.im dv]) ++ List.replicate (N.length - ps.length) .no) body { nx := fun _ => post b = .non, rt := post b }) : Fn T (k + 1) x (spC false args pre post) := by
  obtain ⟨ds, hv, hB⟩ := hb
  refine ⟨f, fd, ps, ds, [.int dv], fun vs H Q E => ∃ ws, vs = ws ++ [.int dv] ∧ spC false args pre post ws H Q E, F.ok S (fun vs H Q E hsp => ?_) (fun cdv A outer s H vs Q E hr hsp => ?_), hm, F.kp, hB, hv, fun vs H Q E z => ⟨vs, rfl, z⟩⟩
  · obtain ⟨ws, e, b, d, _, _, _, ha, _⟩ := hsp
    rw [e, List.length_append, (args_env ha).1, List.length_singleton, hl b]
  · obtain ⟨ws, e, b, d, hd, hp, D, ha, hq⟩ := hsp
    subst e
    have hd0 := hd rfl
    subst hd0
    have hpl : ps.length ≤ N.length := by
      have := congrArg List.length S.pre
      rw [List.length_take] at this
      omega
    have ha' : ArgsOk none H (ws ++ [.int dv]) (args b ++ [.im dv]) := by
      have key : ∀ (vs : List V) (ss : List Slot), ArgsOk none H vs ss → ArgsOk none H (vs ++ [.int dv]) (ss ++ [.im dv]) := by
        intro vs
        induction vs with
        | nil => intro ss z; cases ss with
          | nil => exact ⟨⟨_, rfl, rfl⟩, trivial⟩
          | cons => exact z.elim
        | cons v vs ih => intro ss z; cases ss with
          | nil => exact z.elim
          | cons s ss => exact ⟨z.1, ih ss z.2⟩
      exact key _ _ ha
    have hlen : (args b ++ [Slot.im dv]).length = ps.length := by rw [List.length_append, List.length_singleton, hl b]
    have E0 := env_start D ha' (by rw [hlen]; exact hpl)
    rw [hlen] at E0
    have hrun := h b hp H (start N (ws ++ [.int dv])) H E0
    refine ⟨tSs ⟨T, N, scope, k, none, fun _ => true⟩ body, PSs.nox (pss_tS ⟨rfl, rfl, rfl, rfl, rfl, rfl, S.nd, rfl, rfl, hr, rfl, fun _ _ => rfl⟩), ?_⟩
    intro X ok pins s1 I
    refine thn (hrun X ok pins s1 I) fun fl s2 q => ?_
    cases fl with
    | next =>
      obtain ⟨σ', H', I', G', hG, E'⟩ := q
      exact ⟨σ', H', I', hq _ _ ⟨E'.le, by rw [show post b = .non from hG]; rfl⟩⟩
    | ret u =>
      obtain ⟨v, σ', H', I', r, hv⟩ := q
      exact ⟨v, σ', H', I', r, hq _ _ hv⟩
    | brk => obtain ⟨_, _, _, _, z, _⟩ := q; exact z.elim
    | cont => obtain ⟨_, _, _, _, z, _⟩ := q; exact z.elim
theorem sc_is_columns : FnScope ["value", "least"] ["value", "least"] (defScope (top 17)) := ⟨rfl, rfl, rfl, by decide +kernel, rfl, by decide +kernel, by decide +kernel⟩
theorem ok_is_columns (h : Top T) : Fn T 3 "is_columns" (spC (β := List Nm) false (fun b => [.im b]) Cols (fun _ => .im (· = true))) := by
  obtain ⟨fd, F⟩ := d_is_columns h
  refine fn_ok0 F (g_is_columns h) sc_is_columns (FunD.binds0 F 1 (by simp) rfl fun D doc pm an cdv ct us ks h1 h2 => ?_) (fun b => rfl) fun b hc => ?_
  · match us, ks, h1, h2 with
    | [u], [k], _, _ => exact ⟨_, _, _, _, _, _, rfl, rfl, rfl⟩
  refine run_if (b := false) ((et_not (et_val (ev_call (ok_is_index h) ((8 : Int) + 1, 0) (ea_im (ev_addE (ev_glob (v := .int 8) (g_MOST_COLUMNS h) fun H => rfl) ev_int) (ea_var (i := 1) rfl ea_nil)) rfl trivial))).to rfl) (fun z => by cases z) fun _ => run_nil ?_
  refine run_ret ((ev_and (x := true) (y := true) (ev_call (ok_are_columns h) b (ea_var (i := 0) rfl ea_nil) rfl hc) fun _ => ev_one ((ev_geE (ev_len (P := (· = b)) (n := b.length) (blt h) (es_im ((ev_var (i := 0) rfl))) (fun xs e => by rw [e])) ((ev_var (i := 1) rfl))).v.to (decide_eq_true (by omega)))).to rfl)
theorem sc_require_columns : FnScope ["columns"] ["columns"] (defScope (top 18)) := ⟨rfl, rfl, rfl, by decide +kernel, rfl, by decide +kernel, by decide +kernel⟩
theorem ok_require_columns_rows (h : Top T) : Fn T 3 "require_columns_rows" (spC (β := List Nm) false (fun b => [.im b]) Cols (fun _ => .non)) := by
  obtain ⟨f, fd, F, hm⟩ := at_require_columns_rows h
  refine fn_okQ F hm sc_require_columns (FunD.bindsN F (fun _ _ _ _ _ _ us hl => match us, hl with | [_], _ => rfl)) (fun b => rfl) fun b d hd hc => ?_
  exact run_if (b := false) ((et_not (et_val (ev_call (ok_are_columns h) b (ea_var (i := 0) rfl ea_nil) rfl hc))).to rfl) (fun z => by cases z) fun _ => run_nil (run_nil rfl)
theorem sc_require_columns2 : FnScope ["value"] ["value"] (defScope (top 26)) := ⟨rfl, rfl, rfl, by decide +kernel, rfl, by decide +kernel, by decide +kernel⟩
theorem ok_require_columns_rules (h : Top T) : Fn T 4 "require_columns_rules" (spC (β := List Nm) false (fun b => [.im b]) Cols (fun _ => .non)) := by
  obtain ⟨f, fd, F, hm⟩ := at_require_columns_rules h
  refine fn_okQ F hm sc_require_columns2 (FunD.bindsN F (fun _ _ _ _ _ _ us hl => match us, hl with | [_], _ => rfl)) (fun b => rfl) fun b d hd hc => ?_
  exact run_if (b := false) ((et_not (et_val (ev_call (ok_is_columns h) b (ea_var (i := 0) rfl ea_nil) rfl hc))).to rfl) (fun z => by cases z) fun _ => run_nil (run_nil rfl)
theorem sc_is_row_in : FnScope ["size", "value", "one"] ["size", "value"] (defScope (top 20)) := ⟨rfl, rfl, rfl, by decide +kernel, rfl, by decide +kernel, by decide +kernel⟩
theorem ok_is_row_in (h : Top T) : Fn T 2 "is_row_in" (spC (β := Int × List Int) false (fun b => [.im b.1, .im b.2]) (fun b => (b.2.length : Int) = b.1) (fun _ => .im (· = true))) := by
  refine def_ok (at_is_row_in h) sc_is_row_in (fun _ _ _ _ _ _ us hl => match us, hl with | [_, _], _ => rfl) (fun b => rfl) fun b d hd hc => ?_
  obtain ⟨n, xs⟩ := b
  refine run_ret ((ev_and (x := true) (y := true) (ev_isi (P := (· = xs)) (blt h) ((ev_var (i := 1) rfl)) (blt h).tuple (fun K => kit_ty (by decide +kernel)) PyProof.Rows.boot_tuple) fun _ => ev_and (x := true) (y := true) ((ev_eqD (ev_len (P := (· = xs)) (n := xs.length) (blt h) (es_im ((ev_var (i := 1) rfl))) (fun xs e => by rw [e])) ((ev_var (i := 0) rfl))).v.to (decide_eq_true hc)) fun _ =>
    ev_one ((ev_all (blt h) (ev_lc (own := [("one", 2)]) (lc_map (fun _ : Int => true) rfl (ei_tup ((ev_var (i := 1) rfl))) (by kernel_rfl) (bnd_name (i := 2)) (by decide) fun x hx => ev_call (ok_is_integer h) x (ea_var (i := 2) rfl ea_nil) rfl trivial))).to (by simp))).to rfl)
theorem sc_is_row : FnScope ["columns", "value"] ["columns", "value"] (defScope (top 21)) := ⟨rfl, rfl, rfl, by decide +kernel, rfl, by decide +kernel, by decide +kernel⟩
theorem ok_is_row (h : Top T) : Fn T 4 "is_row" (spC (β := List Nm × List Int) false (fun b => [.im b.1, .im b.2]) (fun b => Cols b.1 ∧ b.2.length = b.1.length) (fun _ => .im (· = true))) := by
  refine def_ok (at_is_row h) sc_is_row (fun _ _ _ _ _ _ us hl => match us, hl with | [_, _], _ => rfl) (fun b => rfl) fun b d hd hc => ?_
  obtain ⟨cs, xs⟩ := b
  refine run_expr (ev_call (ok_require_columns_rows h) cs (ea_var (i := 0) rfl ea_nil) rfl hc.1) ?_
  exact run_ret (ev_call (ok_is_row_in h) ((cs.length : Int), xs) (ea_im (ev_len (P := (· = cs)) (n := cs.length) (blt h) (es_im ((ev_var (i := 0) rfl))) (fun xs e => by rw [e])) (ea_var (i := 1) rfl ea_nil)) rfl (by show (xs.length : Int) = cs.length; rw [hc.2]))
end Mk
-- MkSort
namespace Mk
open Im (rep)
open PySem PySem.Spec PyProof.Rows L2 PySem.W
section
variable {prog : Program} {w : World} {A : Around} {E : Value → Shared → Prop} {s : Shared}
theorem call_tup_lt {Q : Value → Shared → Prop} {l b : Addr} {items items2 : Array Value} {e r : Nat → Bool} (hl : s.heap.IsTuple l items) (hb : s.heap.IsTuple b items2)
    (he : ∀ j (h1 : j < items.size) (h2 : j < items2.size), SeqAt.EqAt A.in1 s items[j] items2[j] (e j)) (hr : ∀ j (h1 : j < items.size) (h2 : j < items2.size), e j = false → SeqAt.RcLt A.in1 s items[j] items2[j] (r j))
    (h : Q (.bool (SeqAt.firstLt e r (decide (items.size < items2.size)) (List.range (min items.size items2.size)))) s) : wpAny (model prog w) A (call (.builtin "tuple.__lt__") [.ref l, .ref b]) Q E s := by
  obtain ⟨⟨cls, dd, data, sl⟩, ho, hc, n, hd⟩ := id hl
  obtain ⟨⟨cls2, dd2, data2, sl2⟩, ho2, hc2, n2, hd2⟩ := id hb
  simp only at hc hd hc2 hd2
  subst hc hd hc2 hd2
  exact call_meets F.slot_tuple_lt ⟨_, ho, rfl⟩ F.entry_tuple_lt (F.args_tuple_lt_2 _ _) (SeqAt.tuple_ltAt l b items items2 n n2 dd dd2 sl sl2 e r) ⟨ho, ho2, he, hr, h⟩
theorem oneLt_tups {xs ys : List PyData} {a b : Value} {as bs : List Addr} {Q : Bool → Shared → Prop} (ra : Reads s.heap a (.tuple xs) as) (rb : Reads s.heap b (.tuple ys) bs) (hal : alikeAll xs ys = true)
    (hu : A.units + min (PyData.tuple xs).depth (PyData.tuple ys).depth < cLine) (hq : Q (dataLt (.tuple xs) (.tuple ys)) s) : wpAny (model prog w) A (oneLt' true a b) Q E s := by
  cases ra with
  | @tuple l o vs n _ as₁ h1 h2 h3 h4 =>
    cases rb with
    | @tuple l' o' vs' n' _ bs₁ k1 k2 k3 k4 =>
      have n1 : vs.size = xs.length := by simpa using SeqAt.ReadsAll.length _ _ _ h4
      have n2 : vs'.size = ys.length := by simpa using SeqAt.ReadsAll.length _ _ _ k4
      rw [dataLt_tuple, ← firstLt_toks xs ys hal, ← n1, ← n2] at hq
      rw [oneLt'_eq]
      simp only [if_true]
      refine wpAny_bind (wpAny_cRoomFor (SeqAt.room_here hu) ?_)
      refine wpAny_bind (wpAny_callSpecialIfBound?_slot (T := "tuple") ⟨_, h1, h2⟩ F.slot_tuple_lt (call_tup_lt (e := SeqAt.pairEq xs ys) (r := fun j => dataLt (xs.getD j .none) (ys.getD j .none)) ⟨_, h1, h2, _, h3⟩ ⟨_, k1, k2, _, k3⟩ (fun j j1 j2 => ?_) (fun j j1 j2 hj => ?_) ?_))
      · have := eqAt_alikeAll xs ys A.in1 s vs.toList vs'.toList _ _ h4 k4 hal (SeqAt.room_in hu) j (by simpa using j1) (by simpa using j2)
        simpa using this
      · have := rcLt_alikeAll xs ys A.in1 s vs.toList vs'.toList _ _ h4 k4 hal (SeqAt.room_in hu) j (by simpa using j1) (by simpa using j2) hj
        simpa using this
      · exact wpAny_truthy_bool hq
end
theorem mapM_ex {M : Model} {A : Around} {E : Value → Shared → Prop} {s : Shared} {α β : Type} {f : α → Sem β} {R : α → β → Prop} : ∀ {vs : List α} {Q : List β → Shared → Prop},
    (∀ v ∈ vs, ∃ r, R v r ∧ ∀ Q' : β → Shared → Prop, Q' r s → wpAny M A (f v) Q' E s) → (∀ rs, EachIs R vs rs → Q rs s) → wpAny M A (vs.mapM f) Q E s
  | [], Q, _, h => by rw [List.mapM_nil]; exact wpAny_pure (h [] .nil)
  | v :: vs, Q, hv, h => by
    rw [List.mapM_cons]
    obtain ⟨r, hr, hf⟩ := hv v List.mem_cons_self
    refine wpAny_bind (hf _ ?_)
    refine wpAny_bind (mapM_ex (fun v' h' => hv v' (List.mem_cons_of_mem _ h')) fun rs hrs => ?_)
    exact wpAny_pure (h _ (.cons hr hrs))
section
variable {prog : Program} {w : World} {A : Around} {s : Shared}
theorem kind_tups {M : Model} {E : Value → Shared → Prop} {vs : List Value} {ds : List PyData} {Q : SortKind → Shared → Prop} (e : EachIs (fun v d => ∃ as, Reads s.heap v d as) vs (.tuple [] :: ds)) (ht : ∀ d ∈ ds, ∃ xs, d = .tuple xs) (h : Q oneType' s) : wpAny M A (keyKind' vs.toArray) Q E s := by
  have look : ∀ v ∈ vs, Looks M s.heap (typeOf v) (.type "tuple") := fun v hv => by
    obtain ⟨d, hd, as, r⟩ := e.left v hv
    rcases List.mem_cons.mp hd with rfl | hd
    · exact looks_reads r
    · obtain ⟨xs, rfl⟩ := ht d hd
      exact looks_reads r
  have first : ∀ v ∈ vs, ∃ r : Option Value, (∀ as, Reads s.heap v (.tuple []) as → r = none) ∧ ∀ Q' : Option Value → Shared → Prop, Q' r s → wpAny M A (firstOfTuple' v) Q' E s := fun v hv => by
    obtain ⟨d, hd, as, r⟩ := e.left v hv
    have hd' : ∃ xs, d = .tuple xs := by
      rcases List.mem_cons.mp hd with rfl | hd
      · exact ⟨_, rfl⟩
      · exact ht d hd
    obtain ⟨xs, rfl⟩ := hd'
    cases r with
    | @tuple l o its n _ as1 h1 h2 h3 h4 =>
      refine ⟨its[0]?, fun as' r' => ?_, fun Q' q' => ?_⟩
      · cases r' with
        | @tuple _ o' its' n' _ _ k1 k2 k3 k4 =>
          rw [h1] at k1
          cases k1
          rw [h3] at k3
          cases k3
          have hz : its.size = ([] : List PyData).length := by simpa using SeqAt.ReadsAll.length _ _ _ k4
          exact Array.getElem?_eq_none (by rw [hz]; exact Nat.le_refl _)
      · rw [kas_first_eq]
        refine wpAny_bind ((look _ hv).here ?_)
        rw [if_neg (by simp)]
        exact wpAny_bind (listItems_at h1 h3 (wpAny_pure q'))
  cases e with
  | @cons v _ vs' _ r0 e' =>
    obtain ⟨as0, r0⟩ := r0
    rw [keyKind'_eq, List.mapM_toArray, map_eq_pure_bind]
    refine wpAny_bind (wpAny_bind (mapM_ex first fun rs hrs => wpAny_pure ?_))
    cases hrs with
    | @cons _ r _ rs' hr hrs' =>
      have er : r = none := hr as0 r0
      subst er
      rw [if_neg (by simp), if_neg (by simp)]
      rw [oneTypeOnly'_eq, List.mapM_toArray, map_eq_pure_bind]
      refine wpAny_bind (wpAny_bind (wpAny_bind (kas_mapM (r := Value.type "tuple") _ (fun v hv Q' hq => (look v hv).here hq) (wpAny_pure ?_))))
      have hall : ((List.map (fun _ => Value.type "tuple") (v :: vs')).toArray.all fun x => x == Value.type "tuple") = true := by
        simp only [List.all_toArray, List.all_map, List.all_eq_true]
        intro _ _
        rfl
      have h0 : (List.map (fun _ => Value.type "tuple") (v :: vs')).toArray[0]? = some (Value.type "tuple") := by simp
      rw [h0]
      simp only [hall, if_true]
      exact wpAny_pure (wpAny_pure h)
theorem sortsAt_tups {vs : List Value} {ds : List PyData} (e : EachIs (fun v d => ∃ as, Reads s.heap v d as) vs (.tuple [] :: ds)) (hal : AllAlike (.tuple [] :: ds)) (ht : ∀ d ∈ ds, ∃ xs, d = .tuple xs) (hu : ∀ d, d ∈ PyData.tuple [] :: ds → A.units + d.depth < cLine) :
    SortsAt prog w A s (dataKind s.heap (.tuple [] :: ds)) vs := by
  have tup : ∀ d ∈ PyData.tuple [] :: ds, ∃ xs, d = .tuple xs := fun d hd => by
    rcases List.mem_cons.mp hd with rfl | hd
    · exact ⟨_, rfl⟩
    · exact ht d hd
  refine ⟨fun v hv => ?_, oneType', ?_, fun h2 E Q hq => kind_tups e ht hq⟩
  · obtain ⟨d, hd, as, r⟩ := e.left v hv
    exact ⟨_, dataKind_some hal hd r⟩
  · intro E x y a b Q ha hb hq
    obtain ⟨d, as, hd, ra, rfl⟩ := dataKind_inv ha
    obtain ⟨d', as', hd', rb, rfl⟩ := dataKind_inv hb
    obtain ⟨xs, rfl⟩ := tup d hd
    obtain ⟨ys, rfl⟩ := tup d' hd'
    rw [keyLt'_oneType]
    exact oneLt_tups ra rb (by have := hal _ hd _ hd'; simpa [alike] using this) (Nat.lt_of_le_of_lt (Nat.add_le_add_left (Nat.min_le_left _ _) _) (hu _ hd)) hq
end
def SortFine (ds : List PyData) : Prop := Sortable ds ∨ ∃ r, ds = .tuple [] :: r ∧ ∀ d ∈ r, ∃ xs, d = .tuple xs
def rSortD (α : Type) [Dat α] (K : PySem.W.Frag) : List V → Hp → VK → Prop := fun vs H Q => ∃ (a : Addr) (bs : List (V × α)), vs = [V.ref a] ∧ SqL K H a (bs.map (·.1)) ∧ (∀ b ∈ bs, rep H b.1 b.2) ∧ AllAlike (bs.map fun b => Dat.data b.2) ∧ SortFine (bs.map fun b => Dat.data b.2) ∧
  ∀ p, H p = none → Q (.ref p) (upd H p (.lst ((bs.mergeSort (dataLe false fun b => Dat.data b.2)).map (·.1))))
section
variable {X : Cx} {α : Type} [Dat α]
theorem each_of_vals {R : V × α → Value → Prop} : ∀ {bs : List (V × α)} {us : List Value}, Vals (bs.map (·.1)) us → (∀ b ∈ bs, ∀ u, RelV b.1 u → R b u) → EachIs (fun u b => R b u) us bs
  | [], _, r, _ => by cases r; exact .nil
  | b :: bs, _, r, h => by
    cases r with
    | cons r1 r2 => exact .cons (h b List.mem_cons_self _ r1) (each_of_vals r2 fun b' hb' => h b' (List.mem_cons_of_mem _ hb'))
theorem vals_of_each : ∀ {bs : List (V × α)} {us : List Value}, EachIs (fun u (b : V × α) => RelV b.1 u) us bs → Vals (bs.map (·.1)) us
  | _, _, .nil => .nil
  | _, _, .cons h t => .cons h (vals_of_each t)
theorem cr_sortD (hd : Dat.dep α ≤ 60) (hu : X.A.units + 64 < cLine) : CallR X (.builtin "sorted") (rSortD α X.K) := by
  intro pins s σ H vs us Q I r h
  obtain ⟨a, bs, rfl, hs, hr, hal, hk, q⟩ := h
  obtain ⟨its, rv, hl, hz⟩ := I.list hs
  rw [Vals.ref1 r]
  have e : EachIs (fun u (b : V × α) => RelV b.1 u) its bs := each_of_vals rv fun b _ u z => z
  have er0 : EachIs (fun u (b : V × α) => ∃ as, Reads s.heap u (Dat.data b.2) as) its bs := each_of_vals (R := fun b u => ∃ as, Reads s.heap u (Dat.data b.2) as) rv fun b hb u z => Dp.reads I _ _ u (Dat.dp (hr b hb)) z
  have er : EachIs (fun u (b : V × α) => ∃ as, Reads (sortingHeap (copyHeap s.heap its) (s.heap.objs.size + 1) its) u (Dat.data b.2) as) its bs := er0.mono fun _ _ ⟨as, r⟩ => ⟨as, PyProof.Rows.Reads.keeps (fun _ _ => sorting_copy_old) r⟩
  have hb : ∀ d ∈ bs.map (fun b => Dat.data b.2), X.A.in1.in1.units + d.depth < cLine := fun d hd' => by
    obtain ⟨b, _, rfl⟩ := List.mem_map.mp hd'
    have h1 := Dat.depth b.2
    show X.A.units + 1 + 1 + _ < _
    omega
  have hlen : its.length = bs.length := by rw [← rv.length, List.length_map]
  have hL : its.length ≤ sizeLine := by rw [← rv.length]; exact hz
  have S : SortsAt X.prog X.w X.A.in1.in1 { s with heap := sortingHeap (copyHeap s.heap its) (s.heap.objs.size + 1) its } (dataKind (sortingHeap (copyHeap s.heap its) (s.heap.objs.size + 1) its) (bs.map fun b => Dat.data b.2)) its := by
    have em := each_map (R := fun v d => ∃ as, Reads (sortingHeap (copyHeap s.heap its) (s.heap.objs.size + 1) its) v d as) (fun b : V × α => Dat.data b.2) er
    rcases hk with hk | ⟨r', e1, e2⟩
    · exact SortsAt.data (s := { s with heap := sortingHeap (copyHeap s.heap its) (s.heap.objs.size + 1) its }) em hal hk hb
    · rw [e1] at em hal hb ⊢
      exact sortsAt_tups (s := { s with heap := sortingHeap (copyHeap s.heap its) (s.heap.objs.size + 1) its }) em hal e2 hb
  refine sorted_vals hl.isList S hL ?_
  have eo := sortVals_data (R := fun u (b : V × α) => RelV b.1 u) (enc := fun b : V × α => Dat.data b.2) false e er hal
  generalize sortVals (dataKind (sortingHeap (copyHeap s.heap its) (s.heap.objs.size + 1) its) (bs.map fun b => Dat.data b.2)) false its its = out at eo
  obtain ⟨ep, he'⟩ := PyProof.Rows.sortedAll_at s.heap its out.toArray
  have hl2 : ((bs.mergeSort (dataLe false fun b => Dat.data b.2)).map (·.1)).length ≤ sizeLine := by rw [List.length_map, (List.mergeSort_perm _ _).length_eq, ← hlen]; exact hL
  exact ⟨.ref _, upd H (s.heap.objs.size + 1) (.lst _), I.laid (t' := s.toks) (fun _ _ => PyProof.Rows.sortedAll_old) (Nat.le_succ _) ⟨hl2, out, ep, vals_of_each eo, he'⟩, rfl, q _ (I.hok.fresh (Nat.le_succ _))⟩
end
def srt {α : Type} [Dat α] (xs : List α) : List α := xs.mergeSort (dataLe false Dat.data)
section
variable {C : Cg} {G : List Slot} {α : Type} [Dat α]
theorem reps_pairs {H : Hp} : ∀ {vs : List V} {xs : List α}, Reps H vs xs → (vs.zip xs).map (·.1) = vs ∧ (vs.zip xs).map (·.2) = xs ∧ ∀ b ∈ vs.zip xs, rep H b.1 b.2
  | [], [], _ => ⟨rfl, rfl, fun _ h => by simp at h⟩
  | [], _ :: _, h => h.elim
  | _ :: _, [], h => h.elim
  | v :: vs, x :: xs, h => by
    obtain ⟨h1, h2, h3⟩ := reps_pairs h.2
    refine ⟨by rw [List.zip_cons_cons, List.map_cons, h1], by rw [List.zip_cons_cons, List.map_cons, h2], fun b hb => ?_⟩
    rw [List.zip_cons_cons] at hb
    rcases List.mem_cons.mp hb with rfl | hb
    · exact h.1
    · exact h3 b hb
theorem reps_maps {H : Hp} : ∀ {bs : List (V × α)}, (∀ b ∈ bs, rep H b.1 b.2) → Reps H (bs.map (·.1)) (bs.map (·.2))
  | [], _ => trivial
  | b :: bs, h => ⟨h b List.mem_cons_self, reps_maps fun b' hb' => h b' (List.mem_cons_of_mem _ hb')⟩
theorem ev_sorted {e : Expr} {p pos : Pos} {P : List α → Prop} (b : Blt C.T) (h : EvL C G e P) (hal : ∀ xs, P xs → AllAlike (xs.map Dat.data)) (hf : ∀ xs, P xs → SortFine (xs.map Dat.data)) (hd : Dat.dep α ≤ 60 := by decide) (hg : C.sc.names.lookup ("sorted" : Str) = some .globalImplicit := by rfl)
    (hs : ∀ env, starEach [e] env = (false, eval e env) :: starEach [] env := by intro _; rfl) : EvR C G (.Call (.Name "sorted" p) [e] [] pos) (.ls fun ys => ∃ xs, P xs ∧ ys = srt xs) := fun B σ H E Q q => by
  refine ev_blt1 (f := rSortD α C.T.K) (fun X ok => by rw [← ok.K]; exact cr_sortD hd ok.room.units) b.sorted PyProof.Rows.boot_sorted ?_ hg (by decide) (by decide) hs
  refine h B σ H E _ fun v H1 xs l px ⟨a, vs, ev, ha, nd, r⟩ => ?_
  subst ev
  obtain ⟨h1, h2, h3⟩ := reps_pairs r
  have hm : ((vs.zip xs).map fun b => Dat.data b.2) = xs.map Dat.data := by
    have : ((vs.zip xs).map fun b => Dat.data b.2) = ((vs.zip xs).map (·.2)).map Dat.data := by rw [List.map_map]; rfl
    rw [this, h2]
  refine ⟨a, vs.zip xs, rfl, .inl (.inl (by rw [h1]; exact ha)), h3, by rw [hm]; exact hal xs px, by rw [hm]; exact hf xs px, fun t ht => ?_⟩
  refine q _ _ ⟨l.trans (Le.new ht), t, _, srt xs, rfl, l.free ht, upd_same, ?_, xs, px, rfl⟩
  have e1 : srt xs = ((vs.zip xs).mergeSort (dataLe false fun b => Dat.data b.2)).map (·.2) := by
    have z := sort_maps (r := dataLe false fun b : V × α => Dat.data b.2) (s := dataLe false Dat.data) (·.2) (l := vs.zip xs) fun a _ b _ => rfl
    rw [z, h2]
    rfl
  rw [e1]
  exact (reps_maps fun b hb => h3 b ((List.mergeSort_perm _ _).mem_iff.mp hb)).keep (Le.new (d := none) ht).tle
end
end Mk
-- MkObj
namespace Mk
open Im (rep)
open PySem PySem.Spec PyProof.Rows L2
variable {T : Tx}
abbrev Rule : Type := List Nm × List Nm
structure Rul (C : Addr) where
  cols : List Nm
  rules : List Rule
  plain : List Rule
def insF (v1 v2 v3 : V) : List (Str × V) := [("own_columns", v1), ("own_rules", v2), ("own_plain", v3)]
instance {C : Addr} : Im (Rul C) := ⟨fun H v x => ∃ a dx v1 v2 v3, v = .ref a ∧ H a = some (.ins C dx (insF v1 v2 v3)) ∧ rep H v1 x.cols ∧ rep H v2 x.rules ∧ rep H v3 x.plain,
  fun k ⟨a, dx, v1, v2, v3, e, h, r1, r2, r3⟩ => ⟨a, dx, v1, v2, v3, e, k a _ h rfl, Im.keep k r1, Im.keep k r2, Im.keep k r3⟩⟩
abbrev RulT (T : Tx) : Type := Rul (gR T.K)
section
variable {C : Cg} {G : List Slot}
theorem ev_fld {α : Type} [Im α] {e : Expr} {f : Str} {pos : Pos} {x : RulT T} {y : α} (h : Top T) (n : NoAttr T.K (gR T.K) f) (he : EvR C G e (.im (· = x))) (hy : ∀ H v1 v2 v3, rep H v1 x.cols → rep H v2 x.rules → rep H v3 x.plain → ∃ v, (insF v1 v2 v3).lookup f = some v ∧ rep H v y)
    (hb : ∀ env, attributeBase e f env (eval e env) = eval e env) (hT : C.T = T := by rfl) : EvR C G (.Attribute e f pos) (.im (· = y)) := fun B σ H E Q q => by
  subst hT
  refine tE_of (t := tFld C.T.K (tE C e) f) (fun X ok => by rw [← ok.K]; exact pe_fld (pe_tE ok) (hb _)) ?_
  refine he B σ H E _ fun v H1 ⟨l, z, ez, a, dx, v1, v2, v3, ev, ha, r1, r2, r3⟩ => ?_
  subst ez
  obtain ⟨u, hu, ru⟩ := hy H1 v1 v2 v3 r1 r2 r3
  exact ⟨a, _, dx, _, u, ev, ha, c_cls h, n, hu, q u H1 ⟨l, y, rfl, ru⟩⟩
theorem ev_own_columns {e : Expr} {pos : Pos} {x : RulT T} (h : Top T) (he : EvR C G e (.im (· = x))) (hb : ∀ env, attributeBase e "own_columns" env (eval e env) = eval e env := by intro _; rfl) (hT : C.T = T := by rfl) : EvR C G (.Attribute e "own_columns" pos) (.im (· = x.cols)) :=
  ev_fld h (c_own_columns h) he (fun H v1 v2 v3 r1 r2 r3 => ⟨v1, by rfl, r1⟩) hb hT
theorem ev_own_rules {e : Expr} {pos : Pos} {x : RulT T} (h : Top T) (he : EvR C G e (.im (· = x))) (hb : ∀ env, attributeBase e "own_rules" env (eval e env) = eval e env := by intro _; rfl) (hT : C.T = T := by rfl) : EvR C G (.Attribute e "own_rules" pos) (.im (· = x.rules)) :=
  ev_fld h (c_own_rules h) he (fun H v1 v2 v3 r1 r2 r3 => ⟨v2, by rfl, r2⟩) hb hT
theorem sc_columns : FnScope ["self"] ["self"] (defScope (mth 4)) := ⟨rfl, rfl, rfl, by decide +kernel, rfl, by decide +kernel, by decide +kernel⟩
theorem sc_rules : FnScope ["self"] ["self"] (defScope (mth 5)) := ⟨rfl, rfl, rfl, by decide +kernel, rfl, by decide +kernel, by decide +kernel⟩
theorem sc_plain : FnScope ["self"] ["self"] (defScope (mth 6)) := ⟨rfl, rfl, rfl, by decide +kernel, rfl, by decide +kernel, by decide +kernel⟩
theorem getter_ok {K : PySem.W.Frag} {P : Program} {w : World} {mg : Str → Option Value} {base : Heap} {f o : Str} {j : Nat} {g : Addr} {fd : FuncData} {q : Str} (S : FnScope ["self"] ["self"] (defScope (mth j))) (F : FunD K f q (defArgs (mth j)) (defBody (mth j)) (defScope (mth j)) [] [] g fd)
    (hb : ∃ p1 p2 p3, defBody (mth j) = [.Return (some (.Attribute (.Name "self" p1) o p2)) p3]) (c : Cls K (gR K)) (n : NoAttr K (gR K) o) : FnOk P w K mg base CX0 1 g fd ["self"] (getSp (gR K) o) := by
  obtain ⟨oc, od, dV, kV, doc, pm, an, cdv, ct, osl, rfl, lk, hcd, _, _⟩ := F.ex
  obtain ⟨p1, p2, p3, hb⟩ := hb
  exact fn_getter (k := 0) lk hcd S rfl hb c n
theorem ev_prop {α : Type} [Im α] {e : Expr} {f o : Str} {pos : Pos} {x : RulT T} {y : α} {g : Addr} {fd : FuncData} (h : Top T) (he : EvR C G e (.im (· = x))) (hp : PropOf T.K (gR T.K) f (He.ma T.K (gR T.K) f) g) (F : FnOk T.P T.w T.K T.mg T.base CX0 1 g fd ["self"] (getSp (gR T.K) o))
    (hbd : Binds T.K fd ["self"] []) (hy : ∀ H v1 v2 v3, rep H v1 x.cols → rep H v2 x.rules → rep H v3 x.plain → ∃ v, (insF v1 v2 v3).lookup o = some v ∧ rep H v y) (hk : 2 ≤ C.k) (hb : ∀ env, attributeBase e f env (eval e env) = eval e env) (hT : C.T = T := by rfl) : EvR C G (.Attribute e f pos) (.im (· = y)) := fun B σ H E Q q => by
  subst hT
  refine tE_of (t := tProp (gR C.T.K) (getSp (gR C.T.K) o) [] E0 (tE C e)) (fun X ok => pe_prop (k := 1) (pe_tE ok) (by rw [ok.K]; exact c_cls h) (by rw [ok.K]; exact hp) (by rw [ok.prog, ok.w, ok.K, ok.mg, ok.base]; exact F) (ok.room.mono hk) (by rw [ok.K]; exact hbd) .nil pass0 (hb _)) ?_
  refine he B σ H E _ fun v H1 ⟨l, z, ez, a, dx, v1, v2, v3, ev, ha, r1, r2, r3⟩ => ?_
  subst ez
  obtain ⟨u, hu, ru⟩ := hy H1 v1 v2 v3 r1 r2 r3
  exact ⟨a, dx, _, ev, ha, a, dx, _, u, rfl, ha, hu, q u H1 ⟨l, y, rfl, ru⟩⟩
theorem bind_self {K : PySem.W.Frag} {f q : Str} {j : Nat} {g : Addr} {fd : FuncData} (F : FunD K f q (defArgs (mth j)) (defBody (mth j)) (defScope (mth j)) [] [] g fd)
    (h : ∀ (kV doc pm : Value) (an : Option Addr) (cdv ct : Value) (u : Value), bindArgs (PySem.W.fnOf f q (defArgs (mth j)) (defBody (mth j)) (defScope (mth j)) .none kV doc pm an cdv ct) ⟨[u], []⟩ = pure [(("self" : Str), u)]) : Binds K fd ["self"] [] :=
  FunD.bindsN F fun kV doc pm an cdv ct us hl => match us, hl with | [u], _ => h kV doc pm an cdv ct u
theorem ev_columns {e : Expr} {pos : Pos} {x : RulT T} (h : Top T) (he : EvR C G e (.im (· = x))) (hk : 2 ≤ C.k := by exact Nat.le_of_ble_eq_true rfl) (hb : ∀ env, attributeBase e "columns" env (eval e env) = eval e env := by intro _; rfl) (hT : C.T = T := by rfl) : EvR C G (.Attribute e "columns" pos) (.im (· = x.cols)) := by
  obtain ⟨fd, F⟩ := d_columns h
  exact ev_prop h he (prop_of (ex_all h).1) (getter_ok sc_columns F ⟨_, _, _, rfl⟩ (c_cls h) (c_own_columns h)) (bind_self F fun _ _ _ _ _ _ _ => rfl) (fun H v1 v2 v3 r1 r2 r3 => ⟨v1, by rfl, r1⟩) hk hb hT
theorem ev_rules {e : Expr} {pos : Pos} {x : RulT T} (h : Top T) (he : EvR C G e (.im (· = x))) (hk : 2 ≤ C.k := by exact Nat.le_of_ble_eq_true rfl) (hb : ∀ env, attributeBase e "rules" env (eval e env) = eval e env := by intro _; rfl) (hT : C.T = T := by rfl) : EvR C G (.Attribute e "rules" pos) (.im (· = x.rules)) := by
  obtain ⟨fd, F⟩ := d_rules h
  exact ev_prop h he (prop_of (ex_all h).2.1) (getter_ok sc_rules F ⟨_, _, _, rfl⟩ (c_cls h) (c_own_rules h)) (bind_self F fun _ _ _ _ _ _ _ => rfl) (fun H v1 v2 v3 r1 r2 r3 => ⟨v2, by rfl, r2⟩) hk hb hT
theorem ev_plain {e : Expr} {pos : Pos} {x : RulT T} (h : Top T) (he : EvR C G e (.im (· = x))) (hk : 2 ≤ C.k := by exact Nat.le_of_ble_eq_true rfl) (hb : ∀ env, attributeBase e "plain" env (eval e env) = eval e env := by intro _; rfl) (hT : C.T = T := by rfl) : EvR C G (.Attribute e "plain" pos) (.im (· = x.plain)) := by
  obtain ⟨fd, F⟩ := d_plain h
  exact ev_prop h he (prop_of (ex_all h).2.2.1) (getter_ok sc_plain F ⟨_, _, _, rfl⟩ (c_cls h) (c_own_plain h)) (bind_self F fun _ _ _ _ _ _ _ => rfl) (fun H v1 v2 v3 r1 r2 r3 => ⟨v3, by rfl, r3⟩) hk hb hT
theorem ev_isRules {a : Expr} {p p2 pos : Pos} {x : RulT T} (h : Top T) (ha : EvR C G a (.im (· = x))) (hg : C.sc.names.lookup ("isinstance" : Str) = some .globalImplicit := by rfl) (hgt : C.sc.names.lookup ("Rules" : Str) = some .globalImplicit := by rfl)
    (hs : ∀ env, starEach [a, .Name "Rules" p2] env = (false, eval a env) :: starEach [.Name "Rules" p2] env := by intro _; rfl) (hT : C.T = T := by rfl) : EvR C G (.Call (.Name "isinstance" p) [a, .Name "Rules" p2] [] pos) (.im (· = true)) := fun B σ H E Q q => by
  subst hT
  refine tE_of (t := tCB (rIsi C.T.K) (tCons (tE C a) (tCons (tC (.ref (gR C.T.K))) tNil))) (fun X ok => by
    rw [← ok.K]
    exact pe_callB call_isi (gl_of ok hg) (by rw [ok.mg]; exact (blt h).isinstance) PyProof.Rows.boot_isinstance (pa_cons (pe_tE ok) (pa_cons (pe_glob (v := .ref (gR X.K)) (gl_of ok hgt) (by rw [ok.mg, ok.K]; exact g_Rules h) rfl (by decide)) pa_nil rfl) (hs _)) (by decide) (by decide) (hs _) rfl) ?_
  refine ha B σ H E _ fun v H1 ⟨l, z, ez, a, dx, v1, v2, v3, ev, ha, _⟩ => ?_
  refine ⟨v, .ref (gR C.T.K), .ref (gR C.T.K), .ref (gR C.T.K), true, rfl, .own _, by rw [ev]; exact c_ins h ha, ?_, q _ H1 ⟨l, true, rfl, rfl⟩⟩
  unfold PySem.W.kitOne
  rw [if_pos (beq_self_eq_true _)]
def Md (T : Tx) (k : Nat) (m : Str) (sp : Sp) : Prop := ∃ fd ps, FnOk T.P T.w T.K T.mg T.base CX0 k (He.ma T.K (gR T.K) m) fd ps sp ∧ Binds T.K fd ps [] ∧ Meth T.K (gR T.K) m (He.ma T.K (gR T.K) m)
theorem ev_meth {β : Type} {args : β → List Slot} {pre : β → Prop} {post : β → Ret} {j : Nat} {m : Str} {o e : Expr} {es : List Expr} {apos pos : Pos} {x : RulT T} {ss : List Slot} (h : Top T) (F : Md T j m (spC false args pre post)) (b : β) (ho : EvR C G o (.im (· = x))) (ha : EvA C G (e :: es) (· = ss)) (hb : .im x :: ss = args b) (hp : pre b)
    (hm : m ≠ "own_columns" ∧ m ≠ "own_rules" ∧ m ≠ "own_plain" := by decide) (hn : noDi (args b) = true := by rfl) (hk : j ≤ C.k := by exact Nat.le_of_ble_eq_true rfl)
    (hst : ∀ env, starEach (e :: es) env = (false, eval e env) :: starEach es env := by intro _; rfl) (hpl : ∀ env, (backTo pos (starEach es env)).any (·.1) = false := by intro _; rfl)
    (ht : ∀ env, ∃ pl : Sem Bool, eval (.Call (.Attribute o m apos) (e :: es) [] pos) env = (do
      let ov ← eval o env
      standAt apos.atName
      let (f, first) ← holding [ov] (getMethod ov m pl)
      callWith pos f first (backTo pos (starEach (e :: es) env)) (backToKw pos (keywordEach [] env))) := by intro _; exact ⟨_, rfl⟩) (hT : C.T = T := by rfl) : EvR C G (.Call (.Attribute o m apos) (e :: es) [] pos) (post b) := fun B σ H E Q q => by
  subst hT
  obtain ⟨fd, ps, F, hbd, hmeth⟩ := F
  refine tE_of (t := tMeth (gR C.T.K) m (spC false args pre post) [] E0 (tE C o) (tA C (e :: es))) (fun X ok => by
    obtain ⟨pl, ht⟩ := ht X.env
    exact pe_meth (pl := pl) (pe_tE ok) (by rw [ok.K]; exact c_cls h) (by rw [ok.K]; exact hmeth) (by rw [ok.prog, ok.w, ok.K, ok.mg, ok.base]; exact F) (ok.room.mono hk) (by rw [ok.K]; exact hbd) .nil pass0 (pa_tA ok) (hst _) (hpl _) ht) ?_
  refine ho B σ H E _ fun v H1 ⟨l, z, ez, rz⟩ => ?_
  rw [show z = x from ez] at rz
  have rz' := rz
  obtain ⟨a, dx, v1, v2, v3, ev, hA, _⟩ := rz
  refine ⟨a, dx, _, ev, hA, ?_, ?_⟩
  · have e1 : (("own_columns" : Str) == m) = false := beq_eq_false_iff_ne.mpr (Ne.symm hm.1)
    have e2 : (("own_rules" : Str) == m) = false := beq_eq_false_iff_ne.mpr (Ne.symm hm.2.1)
    have e3 : (("own_plain" : Str) == m) = false := beq_eq_false_iff_ne.mpr (Ne.symm hm.2.2)
    have f1 : (m == ("own_columns" : Str)) = false := beq_eq_false_iff_ne.mpr hm.1
    have f2 : (m == ("own_rules" : Str)) = false := beq_eq_false_iff_ne.mpr hm.2.1
    have f3 : (m == ("own_plain" : Str)) = false := beq_eq_false_iff_ne.mpr hm.2.2
    simp only [insF, List.lookup, f1, f2, f3]
  refine ha B σ H1 (E.go l) _ fun vs H2 ss' l2 es' a => ?_
  rw [show ss' = ss from es'] at a
  rw [List.append_nil]
  have a2 : ArgsOk C.d H2 (v :: vs) (.im x :: ss) := ⟨⟨v, rfl, rep_le l2 rz'⟩, a⟩
  rw [hb] at a2
  exact ⟨b, none, fun _ => rfl, hp, DiceAt.no, ArgsOk.pure hn a2, fun u H' ⟨l', hv⟩ => q u H' (retIs.pre (l.trans l2) ⟨l'.of_none, hv⟩)⟩
end
theorem contains_own {prog : Program} {w : World} {A : Around} {E : Value → Shared → Prop} {s : Shared} {K : PySem.W.Frag} {x C f : Addr} {ox : Obj} {od : Option Obj} {u : Value} {Q : Bool → Shared → Prop} (X : K.In s.heap) (I : PySem.W.InstAt s.heap x ox C od) (hs : PySem.W.findIn K (.ref C) "__contains__" = some (some (.ref f))) (hf : PySem.W.isFn K (.ref f) = true)
    (h : wpAny (model prog w) A (call (.ref f) [.ref x, u]) (fun r s' => ∃ b, r = .bool b ∧ Q b s') E s) : wpAny (model prog w) A (contains (.ref x) u) Q E s := by
  unfold contains
  refine wpAny_holding ?_
  show wpAny (model prog w) A (specialOf (.ref x) "__contains__" >>= _) Q E s
  unfold specialOf
  refine wpAny_bind (wpAny_bind (I.type.here ((PySem.W.looks_findIn X hs).here ?_)))
  rw [if_neg (by simp)]
  refine wpAny_bind (m := callSpecialUnlessNone? (.ref x) "__contains__" [u] _) ?_
  unfold callSpecialUnlessNone?
  unfold specialOf
  refine wpAny_bind (wpAny_bind (I.type.here ((PySem.W.looks_findIn X hs).here ?_)))
  refine wpAny_holding (wpAny_bind ((PySem.W.bind_fn X (.ref x) (beq_iff_eq.mp hf)).here ?_))
  show wpAny (model prog w) A (ite _ _ _) _ E s
  rw [if_neg (by simp)]
  refine wpAny_bind (wpAny_mono h (fun r s' ⟨b, e, q⟩ => ?_) fun _ _ y => y)
  subst e
  exact wpAny_pure (wpAny_truthy_bool q)
section
variable {C : Cg} {G : List Slot}
theorem ev_inRules {a b : Expr} {pos : Pos} {j : Nat} {r : Rule} {x : RulT T} {ans : Rule × RulT T → Bool} {pre : Rule × RulT T → Prop} (h : Top T) (F : Md T j "__contains__" (spC (β := Rule × RulT T) false (fun b => [.im b.2, .im b.1]) pre (fun b => .im (· = ans b)))) (ha : EvR C G a (.im (· = r))) (hb : EvR C G b (.im (· = x))) (hp : pre (r, x))
    (hk : j ≤ C.k := by exact Nat.le_of_ble_eq_true rfl) (hm : behindInMarks .In b = false := by rfl) (hT : C.T = T := by rfl) : EvR C G (.Compare a [.In] [b] pos) (.im (· = ans (r, x))) := fun B σ H E Q q => by
  subst hT
  obtain ⟨fd, ps, F, hbd, hmeth⟩ := F
  let rr : R2 := fun v w H Q => rep H v r ∧ rep H w x ∧ ∀ H', Le none H H' → Q (.bl (ans (r, x))) H'
  refine tE_of (t := tOp rr (tE C a) (tE C b)) (fun X ok => pe_cmpR (r := rr) (fun pins s σ H y z u u2 Q I ry rz hq => ?_) (pe_tE ok) (pe_tE ok) hm) ?_
  · obtain ⟨h1, h2, hq⟩ := hq
    have h2' := h2
    obtain ⟨a, dx, v1, v2, v3, ev, hA, _⟩ := h2
    subst ev
    obtain rfl : u2 = Value.ref a := rz
    obtain ⟨mA, O, _⟩ := ins_get I.hok hA
    obtain ⟨od, J, _⟩ := O.look
    show wpAny (model X.prog X.w) X.A (do return Value.bool (← contains (.ref a) u)) _ _ s
    refine wpAny_bind (contains_own I.kIn J (by rw [ok.K]; exact hmeth.at_) (by rw [ok.K]; exact hmeth.fn) ?_)
    have F' : FnOk X.prog X.w X.K X.mg X.base CX0 j (He.ma C.T.K (gR C.T.K) "__contains__") fd ps (spC (β := Rule × RulT C.T) false (fun b => [.im b.2, .im b.1]) pre (fun b => .im (· = ans b))) := by rw [ok.prog, ok.w, ok.K, ok.mg, ok.base]; exact F
    refine thn (run_fn (Q := fun v H' => v = .bl (ans (r, x)) ∧ Le none H H') (us := [.ref a, u]) (vs := [.ref a, y]) F' (ok.room.mono hk) (by rw [ok.K]; exact hbd) .nil pass0 I (.cons rfl (.cons ry .nil)) ?_) fun u3 s3 ⟨v3', H3, I3, r3, e3, l3⟩ => ?_
    · exact ⟨(r, x), none, fun _ => rfl, hp, DiceAt.no, ⟨⟨_, rfl, h2'⟩, ⟨_, rfl, h1⟩, trivial⟩, fun v H' ⟨l', z, ez, rz⟩ => ⟨by rw [← ez]; exact rz, l'⟩⟩
    · subst e3
      exact ⟨_, r3, wpAny_pure ⟨.bl (ans (r, x)), H3, I3, rfl, hq H3 l3⟩⟩
  · refine ha B σ H E _ fun v H1 ⟨l, _, e1, r1⟩ => hb B σ H1 (E.go l) _ fun w H2 ⟨l2, _, e2, r2⟩ => ?_
    subst e1 e2
    exact ⟨rep_le l2 r1, r2, fun H' l3 => q _ H' ⟨(l.trans l2).trans l3.of_none, _, rfl, rfl⟩⟩
end
end Mk
-- MkView
namespace Mk
open Im (rep)
open PySem PySem.Spec PyProof.Rows L2
variable {C : Cg} {G : List Slot}
theorem Env.view {d : Option Addr} {B H : Hp} {σ : L2.St} {α : Type} [Im α] {xs : List α} {i : Nat} (E : Env d B G σ H) (e : G[i]? = some (.ls xs)) : ∃ B', Env d B' (G.set i (.ro xs)) σ H := by
  obtain ⟨p, vs, h1, h0, h2, h3, h4, h5⟩ := E.ls e
  obtain ⟨le, D, ln, own, h⟩ := E
  have hp := h5 own h
  let own' : Addr → Option Nat := fun a => if a = p then none else own a
  have o1 : ∀ {a}, own a = none → own' a = none := fun {a} z => by show (if a = p then none else own a) = none; split <;> first | rfl | exact z
  have o2 : ∀ {a j}, j ≠ i → own a = some j → own' a = some j := fun {a j} hj z => by
    show (if a = p then none else own a) = some j
    rw [if_neg (fun q => by rw [q, hp] at z; exact hj (Option.some.inj z).symm)]
    exact z
  refine ⟨frame H own', ⟨fun a o z => .inl (frame_of z).1, fun a z => ?_, by rw [List.length_set]; exact ln, own', fun a z => o1 (h.free a z), fun a j z => ?_, fun j s z => ?_⟩⟩
  · obtain ⟨o, h6, h7⟩ := (D.le le) a z
    have : own a = none := by
      cases q : own a with
      | none => rfl
      | some j =>
        obtain ⟨o', h8, _⟩ := D a z
        rw [(h.cell a j q).1] at h8
        cases h8
    exact ⟨o, by rw [frame_none (o1 this)]; exact h6, h7⟩
  · refine ⟨frame_some z, ?_⟩
    have z' : (if a = p then none else own a) = some j := z
    by_cases q : a = p
    · rw [if_pos q] at z'; cases z'
    · rw [if_neg q] at z'; exact (h.cell a j z').2
  · rcases slot_other z with ⟨rfl, rfl, _⟩ | ⟨hj, z⟩
    · exact ⟨p, vs, join_some.mpr h1, if_pos rfl, h2, h3, h4⟩
    · have hs := h.slots j s z
      cases s with
      | no => exact hs
      | im x => exact hs
      | ro ys => obtain ⟨a, ws, g1, g2, g3⟩ := hs; exact ⟨a, ws, g1, o1 g2, g3⟩
      | ls ys => obtain ⟨a, ws, g1, g2, g3, g4⟩ := hs; exact ⟨a, ws, g1, frame_some (o2 hj g3), o2 hj g3, g4⟩
      | dk ys => obtain ⟨a, ws, g1, g2, g3, g4⟩ := hs; exact ⟨a, ws, g1, frame_some (o2 hj g3), o2 hj g3, g4⟩
      | rk ys => obtain ⟨a, ws, g1, g2, g3⟩ := hs; exact ⟨a, ws, g1, o1 g2, g3⟩
      | dt ys => obtain ⟨a, ws, g1, g2, g3, g4⟩ := hs; exact ⟨a, ws, g1, frame_some (o2 hj g3), o2 hj g3, g4⟩
      | di => exact hs
      | ob a c dx fs P => obtain ⟨g1, g2, g3, g4⟩ := hs; exact ⟨g1, frame_some (o2 hj g3), o2 hj g3, g4⟩
      | fz a u P => obtain ⟨g1, g2, g3⟩ := hs; exact ⟨g1, o1 g2, g3⟩
section
variable {α : Type} [Im α] {xs : List α} {i : Nat} {e : Expr}
theorem EvR.ro {r : Ret} (hG : G[i]? = some (.ls xs)) (h : EvR C (G.set i (.ro xs)) e r) : EvR C G e r := fun B σ H E Q q => by
  obtain ⟨B', E'⟩ := E.view hG
  exact h B' σ H E' Q q
theorem EvT.ro {P : Bool → Prop} (hG : G[i]? = some (.ls xs)) (h : EvT C (G.set i (.ro xs)) e P) : EvT C G e P := fun B σ H E Q q => by
  obtain ⟨B', E'⟩ := E.view hG
  exact h B' σ H E' Q q
end
theorem run_retLs {α : Type} [Im α] {xs : List α} {P : List α → Prop} {i : Nat} {x : Str} {p pos : Pos} {rest : List Stmt} {D : GEnds} (hG : G[i]? = some (.ls xs)) (hr : D.rt = .ls P) (hp : P xs) (hN : C.N[i]? = some x := by rfl)
    (hv : Vis C.sc x := by first | exact Or.inl rfl | exact Or.inr (Or.inl rfl) | exact Or.inr (Or.inr rfl)) (hd : (x == ("__debug__" : Str)) = false := by decide) (hcd : (x == ("__classdict__" : Str)) = false := by decide) :
    Run C G (.Return (some (.Name x p)) pos :: rest) D := fun B σ H E => by
  refine tSs_of (t := tSeq (tRet (tVar i)) (fun _ _ _ => True)) (fun X ok => ?_) ?_
  · refine ⟨fun pins s σ H D I hh => wpAny_execs_cons (thn ((ps_ret (pos := pos) (pe_var (x := x) (pos := p) (i := i) (by rw [ok.N]; exact hN) (by rw [ok.sc]; exact hv) hd hcd)).run pins s σ H { D with nx := fun _ _ => False } I hh) fun f s1 q => ?_)⟩
    cases f with
    | next => obtain ⟨_, _, _, z⟩ := q; exact z.elim
    | ret v => exact q
    | brk => exact q
    | cont => exact q
  · obtain ⟨a, vs, h1, h0, h2, h3, h4, _⟩ := E.ls hG
    refine ⟨_, h1, ?_⟩
    show retIs C.d B D.rt (.ref a) H
    rw [hr]
    exact ⟨E.le, a, vs, xs, rfl, h0, h3, h4, hp⟩
end Mk
-- MkLock
namespace Mk
open Im (rep)
open PySem PySem.Spec PyProof.Rows L2
variable {C : Cg} {G : List Slot}
def noAl : Slot → Prop
  | @Slot.ro _ _ _ => False
  | @Slot.rk _ _ _ => False
  | .fz _ _ _ => False
  | _ => True
section
variable {d : Option Addr} {B H : Hp} {σ : L2.St} {i : Nat} {a : Addr} {u0 u1 : HO} {P : Hp → Prop}
theorem Env.lock (E : Env d B G σ H) (hσ : σ[i]? = some (some (.ref a))) (hd : d ≠ some a) (h0 : H a = some u0) (s0 : ¬ Stable u0) (s1 : ¬ Stable u1)
    (hw : (∀ own : Addr → Option Nat, Owns d B H G σ own → own a = some i) ∨ ((∀ own : Addr → Option Nat, Owns d B H G σ own → own a = none) ∧ ∀ j s, G[j]? = some s → j ≠ i → noAl s))
    (hm : ∀ H1 H2, TLe H1 H2 → P H1 → P H2) (hP : P H) : ∃ B', Env d B' (G.set i (.fz a u1 P)) σ (upd H a u1) := by
  obtain ⟨le, D, ln, own, ow⟩ := E
  have tl : TLe H (upd H a u1) := TLe.upd fun o e => by rw [h0] at e; cases e; exact s0
  have hw' : own a = some i ∨ (own a = none ∧ ∀ j s, G[j]? = some s → j ≠ i → noAl s) := hw.elim (fun z => .inl (z own ow)) fun z => .inr ⟨z.1 own ow, z.2⟩
  have n1 : ∀ {b j}, j ≠ i → own b = some j → b ≠ a := fun {b j} hj z q => by
    subst q
    rcases hw' with y | ⟨y, _⟩
    · rw [z] at y; exact hj (Option.some.inj y)
    · rw [z] at y; cases y
  let own' : Addr → Option Nat := fun b => if b = a then none else own b
  have o1 : ∀ {b}, own b = none → own' b = none := fun {b} z => by show (if b = a then none else own b) = none; split <;> first | rfl | exact z
  have o2 : ∀ {b}, b ≠ a → own' b = own b := fun {b} z => if_neg z
  refine ⟨fun b => if b = a then none else frame H own' b, ⟨fun b o e => ?_, fun b e => ?_, by rw [List.length_set]; exact ln, own', fun b e => ?_, fun b j e => ?_, fun j s e => ?_⟩⟩
  · by_cases q : b = a
    · rw [if_pos q] at e; cases e
    · rw [if_neg q] at e; exact .inl (by rw [upd_ne q]; exact (frame_of e).1)
  · have q : b ≠ a := fun z => hd (by rw [e, z])
    obtain ⟨o, h6, h7⟩ := (D.le le) b e
    have : own b = none := by
      cases z : own b with
      | none => rfl
      | some j =>
        obtain ⟨o', h8, _⟩ := D b e
        rw [(ow.cell b j z).1] at h8
        cases h8
    exact ⟨o, by rw [if_neg q, frame_none (o1 this)]; exact h6, h7⟩
  · by_cases q : b = a
    · rw [q, upd_same] at e; cases e
    · rw [upd_ne q] at e; exact o1 (ow.free b e)
  · have q : b ≠ a := fun z => by rw [z] at e; simp [own'] at e
    rw [o2 q] at e
    refine ⟨by rw [if_neg q]; exact frame_some (by rw [o2 q]; exact e), ?_⟩
    rw [upd_ne q]
    exact (ow.cell b j e).2
  · rcases slot_other e with ⟨rfl, rfl, _⟩ | ⟨hj, e⟩
    · exact ⟨join_some.mpr hσ, if_pos rfl, hd, upd_same, hm, hm _ _ tl hP⟩
    · have hs := ow.slots j s e
      have n2 : ¬ noAl s → ∀ {b}, own b = none → b ≠ a := fun hn b z q => by
        rw [q] at z
        rcases hw' with y | ⟨_, y⟩
        · rw [z] at y; cases y
        · exact hn (y j s e hj)
      cases s with
      | no => exact hs
      | im x => obtain ⟨v, g1, g2⟩ := hs; exact ⟨v, g1, Im.keep tl g2⟩
      | ro ys => obtain ⟨b, ws, g1, g2, g3, g4, g5⟩ := hs; exact ⟨b, ws, g1, o1 g2, g3, by rw [upd_ne (n2 id g2)]; exact g4, g5.keep tl⟩
      | ls ys => obtain ⟨b, ws, g1, g2, g3, g4, g5⟩ := hs; have q := n1 hj g3; exact ⟨b, ws, g1, (if_neg q).trans (frame_some (by rw [o2 q]; exact g3)), by rw [o2 q]; exact g3, by rw [upd_ne q]; exact g4, g5.keep tl⟩
      | dk ys => obtain ⟨b, ws, g1, g2, g3, g4, g5⟩ := hs; have q := n1 hj g3; exact ⟨b, ws, g1, (if_neg q).trans (frame_some (by rw [o2 q]; exact g3)), by rw [o2 q]; exact g3, by rw [upd_ne q]; exact g4, g5.keep tl⟩
      | rk ys => obtain ⟨b, ws, g1, g2, g3, g4, g5⟩ := hs; exact ⟨b, ws, g1, o1 g2, g3, by rw [upd_ne (n2 id g2)]; exact g4, g5.keep tl⟩
      | dt ys => obtain ⟨b, ws, g1, g2, g3, g4, g5⟩ := hs; have q := n1 hj g3; exact ⟨b, ws, g1, (if_neg q).trans (frame_some (by rw [o2 q]; exact g3)), by rw [o2 q]; exact g3, by rw [upd_ne q]; exact g4, g5.keep tl⟩
      | di => exact hs
      | ob b c dx fs R => obtain ⟨g1, g2, g3, g4, g5, g6, g7⟩ := hs; have q := n1 hj g3; exact ⟨g1, (if_neg q).trans (frame_some (by rw [o2 q]; exact g3)), by rw [o2 q]; exact g3, by rw [upd_ne q]; exact g4, g5, g6, g6 _ _ tl g7⟩
      | fz b u R => obtain ⟨g1, g2, g3, g4, g5, g6⟩ := hs; exact ⟨g1, o1 g2, g3, by rw [upd_ne (n2 id g2)]; exact g4, g5, g5 _ _ tl g6⟩
theorem retIs.unlock {r : Ret} {v : V} {H2 : Hp} (hd : d ≠ some a) (h0 : H a = some u0) (s1 : ¬ Stable u1) (h : retIs d (upd H a u1) r v H2) : H2 a = some u1 ∧ retIs d H r v (upd H2 a u0) := by
  obtain ⟨l, h⟩ := h
  have h2 : H2 a = some u1 := l.keep upd_same hd
  have tl : TLe H2 (upd H2 a u0) := TLe.upd fun o e => by rw [h2] at e; cases e; exact s1
  have old : ∀ {p}, upd H a u1 p = none → p ≠ a ∧ H p = none := fun {p} e => by
    have q : p ≠ a := fun z => by rw [z, upd_same] at e; cases e
    rw [upd_ne q] at e
    exact ⟨q, e⟩
  refine ⟨h2, fun b o e => ?_, ?_⟩
  · by_cases q : b = a
    · subst q; rw [h0] at e; cases e; exact .inl upd_same
    · rw [upd_ne q]; exact l b o (by rw [upd_ne q]; exact e)
  · cases r with
    | im P => obtain ⟨x, p, g⟩ := h; exact ⟨x, p, Im.keep tl g⟩
    | ls P => obtain ⟨p, vs, xs, e, n, g, g2, px⟩ := h; exact ⟨p, vs, xs, e, (old n).2, by rw [upd_ne (old n).1]; exact g, g2.keep tl, px⟩
    | dk P => obtain ⟨p, vs, xs, e, n, g, g2, px⟩ := h; exact ⟨p, vs, xs, e, (old n).2, by rw [upd_ne (old n).1]; exact g, g2.keep tl, px⟩
    | dt P => obtain ⟨p, vs, xs, e, n, g, g2, px⟩ := h; exact ⟨p, vs, xs, e, (old n).2, by rw [upd_ne (old n).1]; exact g, g2.keep tl, px⟩
    | non => exact h
end
section
variable {β : Type} [Im β] {kvs : List (List Str × β)} {i : Nat} {e : Expr}
abbrev lkT (a : Addr) (od : Obj) (ks : List (List Key × V)) (kvs : List (List Str × β)) : Slot := .fz a (.frz od (.dT ks)) fun H => RepT H ks kvs
abbrev lkK (a : Addr) (od : Obj) (ks : List (Key × V)) {γ : Type} [Im γ] (kvs : List (Str × γ)) : Slot := .fz a (.frz od (.dK ks)) fun H => RepK H ks kvs
theorem EvR.lockT {r : Ret} (hG : G[i]? = some (.dt kvs)) (h : ∀ a od ks, EvR C (G.set i (lkT a od ks kvs)) e r) : EvR C G e r := fun B σ H E Q q => by
  obtain ⟨a, ks, h1, h2, h3, h4, h5, h6⟩ := E.dt hG
  refine tE_of (t := tLockE (tE C e)) (fun X ok => pe_lock (pe_tE ok)) ⟨a, .dT ks, h4, trivial, fun od => ?_⟩
  obtain ⟨B', E'⟩ := E.lock (u1 := .frz od (.dT ks)) (P := fun H => RepT H ks kvs) h1 h3 h4 id id (.inl h6) (fun H1 H2 k r => r.keep k) h5
  exact h a od ks B' σ _ E' _ fun v H2 hv => by
    obtain ⟨g1, g2⟩ := hv.unlock h3 h4 id
    exact ⟨g1, q v _ g2⟩
theorem EvT.lockT {P : Bool → Prop} (hG : G[i]? = some (.dt kvs)) (h : ∀ a od ks, EvR C (G.set i (lkT a od ks kvs)) e (.im P)) (hs : ∀ env whole, PySem.isTrue e env whole = (do let v ← whole; standAt e.pos; holding [v] (truthy v)) := by intro _ _; rfl) : EvT C G e P := et_valP (EvR.lockT hG h) hs
theorem EvR.lockK {γ : Type} [Im γ] {kvs : List (Str × γ)} {r : Ret} (hG : G[i]? = some (.rk kvs)) (hal : ∀ j s, G[j]? = some s → j ≠ i → noAl s) (h : ∀ a od ks, EvR C (G.set i (lkK a od ks kvs)) e r) : EvR C G e r := fun B σ H E Q q => by
  have E0 := E
  obtain ⟨le, D, ln, own, ow⟩ := E0
  obtain ⟨a, ks, h1, h2, h3, h4, h5⟩ := ow.slots i _ hG
  have h1 := join_some.mp h1
  have hn : ∀ own' : Addr → Option Nat, Owns C.d B H G σ own' → own' a = none := fun own' ow' => by
    obtain ⟨a', ks', g1, g2, _⟩ := ow'.slots i _ hG
    have g1 := join_some.mp g1
    rw [h1] at g1
    cases g1
    exact g2
  refine tE_of (t := tLockE (tE C e)) (fun X ok => pe_lock (pe_tE ok)) ⟨a, .dK ks, h4, trivial, fun od => ?_⟩
  obtain ⟨B', E'⟩ := E.lock (u1 := .frz od (.dK ks)) (P := fun H => RepK H ks kvs) h1 h3 h4 id id (.inr ⟨hn, hal⟩) (fun H1 H2 k r => r.keep k) h5
  exact h a od ks B' σ _ E' _ fun v H2 hv => by
    obtain ⟨g1, g2⟩ := hv.unlock h3 h4 id
    exact ⟨g1, q v _ g2⟩
theorem RepT.get : ∀ {H : Hp} {ks : List (List Key × V)} {kvs : List (List Str × β)} {n : Nat} {k : List Key} {v : V}, RepT H ks kvs → ks[n]? = some (k, v) → ∃ t b, kvs[n]? = some (t, b) ∧ k = t.map Sum.inr ∧ rep H v b
  | _, [], [], n, k, v, _, e => by simp at e
  | _, [], _ :: _, _, _, _, h, _ => h.elim
  | _, _ :: _, [], _, _, _, h, _ => h.elim
  | _, q :: ks, p :: kvs, 0, k, v, h, e => by
    have e : q = (k, v) := by simpa using e
    subst e
    exact ⟨p.1, p.2, rfl, h.1, h.2.1⟩
  | _, _ :: ks, _ :: kvs, n + 1, k, v, h, e => by
    obtain ⟨t, b, e1, e2⟩ := RepT.get (n := n) (k := k) (v := v) h.2.2 (by simpa using e)
    exact ⟨t, b, by simpa using e1, e2⟩
theorem RepT.len : ∀ {H : Hp} {ks : List (List Key × V)} {kvs : List (List Str × β)}, RepT H ks kvs → ks.length = kvs.length
  | _, [], [], _ => rfl
  | _, [], _ :: _, h => h.elim
  | _, _ :: _, [], h => h.elim
  | _, _ :: ks, _ :: kvs, h => by rw [List.length_cons, List.length_cons, RepT.len h.2.2]
theorem rep_nms {H : Hp} {a : Addr} {t : List Nm} (h : H a = some (.tup ((t.map Nm.s).map fun s => kV (Sum.inr s)))) : rep H (.ref a) t := by
  refine ⟨a, _, rfl, h, reps_nm.mpr ?_⟩
  rw [List.map_map]
  rfl
theorem isWalk_keysT {H1 : Hp} {a : Addr} {od : Obj} {ks : List (List Key × V)} {ts : List (List Nm)} (h : H1 a = some (.frz od (.dT ks))) (r : RepT H1 ks kvs) (hk : kvs.map (·.1) = ts.map (·.map Nm.s)) (hl : ts.length ≤ sizeLine) : IsWalk (Itkt a od ks) H1 ts [a] := by
  have ln : ks.length = ts.length := by rw [r.len, ← List.length_map (f := fun x : List Str × β => x.1), hk, List.length_map]
  refine ⟨hl, fun Kp hK => ?_⟩
  rw [← ln]
  refine (walk_keysT (d := a) (o := od) (kvs := ks)).mono (fun H k => by rw [(hK H k).2 a (by simp)]; exact h) fun i H v H' hi k y => ?_
  obtain ⟨e, k', w, q, h2, ev, hq⟩ := y
  subst e ev
  obtain ⟨t, b, e1, e2, _⟩ := r.get h2
  have e3 : (kvs.map (·.1))[i]? = some t := by rw [List.getElem?_map, e1]; rfl
  rw [hk, List.getElem?_map] at e3
  obtain ⟨x, hx, ex⟩ := Option.map_eq_some_iff.mp e3
  refine ⟨fun _ _ z => z, x, hx, rep_nms ?_⟩
  rw [ex, hq, e2, List.map_map]
  rfl
theorem ei_keysT {tg : Expr} {x : Str} {pos : Pos} {a : Addr} {od : Obj} {ks : List (List Key × V)} {ts : List (List Nm)} (hG : G[i]? = some (lkT a od ks kvs)) (hk : kvs.map (·.1) = ts.map (·.map Nm.s)) (hl : ts.length ≤ 100000) (hN : C.N[i]? = some x := by rfl) (hv : Vis C.sc x := by first | exact Or.inl rfl | exact Or.inr (Or.inl rfl) | exact Or.inr (Or.inr rfl))
    (hd : (x == ("__debug__" : Str)) = false := by decide) (hcd : (x == ("__classdict__" : Str)) = false := by decide) : EvI C G tg (.Name x pos) (· = ts) := fun B σ H own le D ln ow R q => by
  obtain ⟨h1, h2, h3, h4, h5, h6⟩ := ow.slots i _ hG
  have h1 := join_some.mp h1
  refine tI_of (wi := iKeys (tVar i)) (fun X ok => pi_keys (pe_var (i := i) (by rw [ok.N]; exact hN) (by rw [ok.sc]; exact hv) hd hcd)) ⟨_, h1, a, od, rfl, .inr ⟨ks, h4, q _ H ts [a] (Le.refl _ _) rfl (isWalk_keysT h4 h6 hk (by rw [sizeLine_eq]; omega)) fun b hb => ?_⟩⟩
  rw [List.mem_singleton.mp hb]
  exact ⟨h2, h3, _, h4⟩
theorem run_setLcRT {α : Type} [Im α] {j : Nat} {x : Str} {pos pos' lpos : Pos} {rest : List Stmt} {D : GEnds} {elt tg iter : Expr} {ifs : List Expr} {scope : Scope} {own : List (Str × Nat)} {P : List α → Prop} (hG : G[i]? = some (.dt kvs)) (h : ∀ a od ks, LcOk C (G.set i (lkT a od ks kvs)) elt tg iter ifs scope own (.ls P))
    (k : ∀ a, P a → Run C (G.set j (.ro a)) rest D) (hi : j < G.length := by exact Nat.le_of_ble_eq_true rfl) (hN : C.N[j]? = some x := by rfl)
    (hx : C.sc.names.lookup x = some .local := by rfl) (hk0 : C.sc.kind = .function := by rfl) (hln : (pos'.line == lpos.line) = true := by rfl) (han : (scope.names.any fun (n, k) => n == x && (k == .local || k == .cell)) = false := by decide +kernel)
    (hs : ∀ env x, foldedSetIterable iter env x = pure x := by intro _ _; rfl) : Run C G (.Assign [.Name x pos'] (.ListComp elt [⟨tg, iter, ifs, 0⟩] scope lpos) pos :: rest) D := fun B σ H E => by
  obtain ⟨a, ks, h1, h2, h3, h4, h5, h6⟩ := E.dt hG
  refine tSs_of (t := tSeq (tLock (tSt C _)) (tSs C rest)) (fun X ok => pss_cons (ps_lock (ps_tS ok)) (pss_tS ok)) ⟨a, .dT ks, h4, trivial, fun od => ?_⟩
  obtain ⟨B', E'⟩ := E.lock (u1 := .frz od (.dT ks)) (P := fun H => RepT H ks kvs) h1 h3 h4 id id (.inl h6) (fun H1 H2 k r => r.keep k) h5
  obtain ⟨g, tt, te, k1, k2⟩ := h a od ks
  refine tS_of (t := tAsg (tLc (tI C tg iter) g tt te (own.map (·.2))) (gName j)) (fun X ok => ps_setLc ok.calm (by rw [ok.N]; exact ok.nd) (by rw [ok.N]; exact hN) (by rw [ok.sc]; exact hx)
    (sw_true (by rw [ok.sc]; exact hk0) (by rw [ok.sc]; exact hx) hln han) (pi_tI ok) (k1 X ok).1 (k1 X ok).2.1 (k1 X ok).2.2.1 (k1 X ok).2.2.2 (hs _)) ?_
  refine k2 B' σ _ E' _ fun v H2 hv => ?_
  obtain ⟨g1, l, p, vs, xs, ev, n, hp, r, px⟩ := hv.unlock h3 h4 id
  refine ⟨g1, ?_⟩
  rw [ev]
  exact k xs px B _ _ (E.set_ro hi n l hp r)
end
end Mk
-- MkDt
namespace Mk
open Im (rep)
open PySem PySem.Spec PyProof.Rows L2
variable {C : Cg} {G : List Slot}
theorem inr_inj : ∀ {s t : List Str}, s.map (Sum.inr : Str → Key) = t.map Sum.inr → s = t
  | [], [], _ => rfl
  | [], _ :: _, h => by simp at h
  | _ :: _, [], h => by simp at h
  | a :: s, b :: t, h => by
    rw [List.map_cons, List.map_cons, List.cons.injEq] at h
    rw [Sum.inr.inj h.1, inr_inj h.2]
section
variable {β : Type} [Im β] {H : Hp}
theorem repT_any (s : List Str) : ∀ {ks : List (List Key × V)} {kvs : List (List Str × β)}, RepT H ks kvs → (ks.any fun q => decide (q.1 = s.map Sum.inr)) = kvs.any fun p => decide (p.1 = s)
  | [], [], _ => rfl
  | [], _ :: _, h => h.elim
  | _ :: _, [], h => h.elim
  | q :: ks, p :: kvs, h => by
    rw [List.any_cons, List.any_cons, repT_any s h.2.2, h.1]
    congr 1
    by_cases e : p.1 = s
    · rw [decide_eq_true e, decide_eq_true (by rw [e])]
    · rw [decide_eq_false e, decide_eq_false (fun z => e (inr_inj z))]
theorem repT_val (s : List Str) : ∀ {ks : List (List Key × V)} {kvs : List (List Str × β)}, RepT H ks kvs → (valV ks (s.map Sum.inr) = none ∧ valS kvs s = none) ∨ ∃ v b, valV ks (s.map Sum.inr) = some v ∧ valS kvs s = some b ∧ rep H v b
  | [], [], _ => .inl ⟨rfl, rfl⟩
  | [], _ :: _, h => h.elim
  | _ :: _, [], h => h.elim
  | q :: ks, p :: kvs, h => by
    by_cases e : p.1 = s
    · refine .inr ⟨q.2, p.2, valV_pos (by rw [h.1, e]), ?_, h.2.1⟩
      unfold valS
      rw [List.find?_cons, decide_eq_true e]; rfl
    · have e1 : valV (q :: ks) (s.map Sum.inr) = valV ks (s.map Sum.inr) := valV_neg (by rw [h.1]; exact fun z => e (inr_inj z))
      have e2 : valS (p :: kvs) s = valS kvs s := by
        unfold valS
        rw [List.find?_cons, decide_eq_false e]
      rw [e1, e2]
      exact repT_val s h.2.2
theorem RepT.app : ∀ {ks ls : List (List Key × V)} {kvs lvs : List (List Str × β)}, RepT H ks kvs → RepT H ls lvs → RepT H (ks ++ ls) (kvs ++ lvs)
  | [], _, [], _, _, h => h
  | [], _, _ :: _, _, h, _ => h.elim
  | _ :: _, _, [], _, h, _ => h.elim
  | _ :: _, _, _ :: _, _, h, g => ⟨h.1, h.2.1, RepT.app h.2.2 g⟩
theorem repT_set (s : List Str) {v : V} {b : β} (r : rep H v b) : ∀ {ks : List (List Key × V)} {kvs : List (List Str × β)}, RepT H ks kvs → RepT H (ks.map fun q => if q.1 = s.map Sum.inr then (q.1, v) else q) (kvs.map fun p => if p.1 = s then (p.1, b) else p)
  | [], [], _ => trivial
  | [], _ :: _, h => h.elim
  | _ :: _, [], h => h.elim
  | q :: ks, p :: kvs, h => by
    rw [List.map_cons, List.map_cons]
    by_cases e : p.1 = s
    · rw [if_pos e, if_pos (by rw [h.1, e])]
      exact ⟨h.1, r, repT_set s r h.2.2⟩
    · rw [if_neg e, if_neg (by rw [h.1]; exact fun z => e (inr_inj z))]
      exact ⟨h.1, h.2.1, repT_set s r h.2.2⟩
theorem RepT.put {ks : List (List Key × V)} {kvs : List (List Str × β)} {s : List Str} {v : V} {b : β} (h : RepT H ks kvs) (r : rep H v b) : RepT H (putK ks (s.map Sum.inr) v) (putS kvs s b) := by
  unfold putK putS
  rw [repT_any s h]
  split
  · exact repT_set s r h
  · exact h.app ⟨rfl, r, trivial⟩
def mergeT (kvs more : List (List Key × V)) : List (List Key × V) := more.foldl (fun acc kv => putK acc kv.1 kv.2) kvs
theorem RepT.putAll : ∀ {ms : List (List Key × V)} {mvs : List (List Str × β)} {ks : List (List Key × V)} {kvs : List (List Str × β)}, RepT H ks kvs → RepT H ms mvs → RepT H (mergeT ks ms) (Mk.putAll kvs mvs)
  | [], [], _, _, h, _ => h
  | [], _ :: _, _, _, _, g => g.elim
  | _ :: _, [], _, _, _, g => g.elim
  | m :: ms, n :: mvs, ks, kvs, h, g => by
    show RepT H (mergeT (putK ks m.1 m.2) ms) (Mk.putAll (putS kvs n.1 n.2) mvs)
    rw [g.1]
    exact RepT.putAll (h.put g.2.1) g.2.2
theorem key_rep {v : V} {t : List Nm} (r : rep H v t) : ∃ b, v = .ref b ∧ H b = some (.tup (((t.map Nm.s).map (Sum.inr : Str → Key)).map kV)) := by
  obtain ⟨b, vs, e, h, rs⟩ := r
  refine ⟨b, e, ?_⟩
  rw [h, reps_nm.mp rs, List.map_map, List.map_map]
  rfl
end
def kT (T : Tx) : DKind T where
  e0 := fun _ => .dT []
  put := fun H D y z H' => ∃ kvs k b, H D = some (.dT kvs) ∧ y = .ref b ∧ H b = some (.tup (k.map kV)) ∧ kvs.length < sizeLine ∧ H' = upd H D (.dT (putK kvs k z))
  ok0 := fun H h hb => dt_empty h hb
  set := by
    intro X pins σ H H' s E D y z u r Q _ _ hu I ⟨kvs, k, b, hD, ey, hb, hl, eH⟩ ry rz h
    subst ey eH
    cases (show u = Value.ref b from ry)
    obtain ⟨hz, hd, xs, rel, dd⟩ := dt_of I.hok hD
    have hx : xs.length ≤ sizeLine := by rw [← Paired.length rel]; exact hz
    have hp : (putK kvs k z).length ≤ sizeLine := by have := length_putK kvs k z; omega
    have room : (tupleKind (mixKind X.prog X.w)).room X.A := Nat.lt_of_le_of_lt (Nat.le_add_right _ _) hu
    refine wpAny_dictSet_heap (hsz := hx) room (key_of I.hok hb) dd fun h' dd' hs => h _ ?_
    obtain ⟨q, es, ep, hq, h2, h3, h4, _, h5⟩ := dd'
    refine d_write I (by rw [hD]; exact True.intro) hs ⟨q, hq⟩ ⟨hp, hd, _, (rel.put k hb rz).keeps fun c ys ec => ?_, q, es, ep, hq, h2, h3, h4, h5⟩
    rw [upd_ne (ne_of ec hD (fun z => nomatch z))]
    exact ec
theorem dx_it {T : Tx} (Kd : DKind T) {J : It} {n : Nat} {Gd : Hp → Prop} {Y : Nat → Hp → V → Hp → Prop} (w : Walk J n Gd Y) {g : TG} {tk tv : TE} {vs : List Nat} {σ : L2.St} {H1 : Hp} {D : Addr} {Qd : Hp → Prop} (Pv : Nat → Hp → Prop) (h0 : Pv 0 (upd H1 D (Kd.e0 D))) (hG : ∀ i H, i ≤ n → Pv i H → Gd H)
    (hs : ∀ i x H H', i < n → Pv i H → Y i H x H' → g x (wipe σ vs) H' fun σ2 H2 => wipe σ2 vs = wipe σ vs ∧ tk σ2 H2 fun y H4 => tv σ2 H4 fun z H5 => ∃ H6, Kd.put H5 D y z H6 ∧ Pv (i + 1) H6) (hd : ∀ H, Pv n H → Qd H) :
    ∃ W : Nat → Nat → Hp → Prop, (∃ m, W 0 m (upd H1 D (Kd.e0 D))) ∧ ∀ i m H, W i m H →
      (J.stop i H ∧ Qd H) ∨ (J.go i H ∧ ∃ Nx : Hp → Prop, (∀ H', Nx H' → ∃ m', m' < m ∧ W (i + 1) m' H') ∧ ∀ x H', J.yld i H x H' → g x (wipe σ vs) H' fun σ2 H2 => wipe σ2 vs = wipe σ vs ∧
        tk σ2 H2 fun y H4 => tv σ2 H4 fun z H5 => ∃ H6, Kd.put H5 D y z H6 ∧ Nx H6) := by
  refine ⟨fun i m H => m = n - i ∧ i ≤ n ∧ Pv i H, ⟨n, by simp, Nat.zero_le _, h0⟩, ?_⟩
  rintro i m H ⟨rfl, hi, p⟩
  have q := hG i H hi p
  by_cases hlt : i < n
  · refine .inr ⟨w.goes i H hlt q, Pv (i + 1), fun H' p' => ⟨n - (i + 1), by omega, rfl, hlt, p'⟩, fun x H' y => hs i x H H' hlt p (w.yields i H x H' hlt q y)⟩
  · have e : i = n := by omega
    subst e
    exact .inl ⟨w.stops H q, hd H p⟩
theorem te_dx {T : Tx} (Kd : DKind T) {α κ β : Type} [Im α] [Im κ] [Im β] {kx vx tg iter : Expr} {scope : Scope} {own : List (Str × Nat)} {pos : Pos} {xs : List α} {put : α → List Slot → List Slot} {ws : List Nat} (fk : α → κ) (fv : α → β) (St : List (κ × β) → Addr → Hp → Prop)
    (s0 : ∀ H D, H D = none → St [] D (upd H D (Kd.e0 D))) (sk : ∀ {d L D H H'}, d ≠ some D → Le d H H' → St L D H → St L D H')
    (st : ∀ {L D H y z k b}, L.length < sizeLine → St L D H → rep H y k → rep H z b → ∃ H', Kd.put H D y z H' ∧ St (L ++ [(k, b)]) D H' ∧ ∀ d H0, H0 D = none → Le d H0 H → Le d H0 H')
    (hl : G.length = C.N.length) (hi : EvI C G tg iter (· = xs)) (ok : blkC C.N C.sc scope own = true) (hb : Bnd (C.blk scope) tg put ws) (hw : ∀ j ∈ ws, j ∈ own.map (·.2))
    (hk : ∀ x ∈ xs, EvR (C.blk scope) (put x (wipeG G (own.map (·.2)))) kx (.im (· = fk x))) (hv : ∀ x ∈ xs, EvR (C.blk scope) (put x (wipeG G (own.map (·.2)))) vx (.im (· = fv x)))
    (hs : ∀ env x, foldedSetIterable iter env x = pure x := by intro _ _; rfl) (hT : C.T = T := by rfl) (h1 : 1 ≤ C.k := by exact Nat.le_of_ble_eq_true rfl) : ∀ B σ H, Env C.d B G σ H → ∀ Q : VK, (∀ D H2, Le C.d H H2 → H D = none → St (xs.map fun x => (fk x, fv x)) D H2 → Q (.ref D) H2) → tE C (.DictComp kx vx [⟨tg, iter, [], 0⟩] scope pos) σ H Q := fun B σ H E Q q => by
  subst hT
  obtain ⟨g, hg, hpl, hbind⟩ := hb
  refine tE_of (t := tDx Kd (tI C tg iter) g (tE (C.blk scope) kx) (tE (C.blk scope) vx) (own.map (·.2))) (fun X okX => pe_dx Kd okX.prog okX.w (by have := okX.room.units; omega) okX.calm (by rw [okX.N]; exact okX.nd) (pi_tI okX) (by rw [okX.N, okX.sc]; exact blkOk_by ok) (fun s H Ca cl fp => hg _ okX.blk) (fun s H Ca cl fp => pe_tE okX.blk) (fun s H Ca cl fp => pe_tE okX.blk) (hs _)) ?_
  have E0 := E
  obtain ⟨le, Di, ln, ow0, ow⟩ := E
  refine hi B σ H ow0 le Di ln ow _ fun J H1 xs' cs l p w hcs => fun Da hD => ?_
  subst p
  have kp : ∀ H', Le C.d H1 H' → TLe H1 H' ∧ ∀ a ∈ cs, H' a = H1 a := fun H' k => ⟨k.tle, fun a ha => by
    obtain ⟨h1, h2, o, h3⟩ := hcs a ha
    rw [h3]
    exact k.keep h3 h2⟩
  have D1 : C.d ≠ some Da := fun z => by
    obtain ⟨o, h1, _⟩ := (Di.le le).le l Da z
    rw [hD] at h1
    cases h1
  refine dx_it Kd (w.2 (fun H' => Le C.d H1 H') kp) (fun i H' => Le C.d H1 H' ∧ St ((xs'.take i).map fun x => (fk x, fv x)) Da H') ⟨Le.new hD, by rw [List.take_zero]; exact s0 _ _ hD⟩ (fun i H' _ h => h.1) ?_ ?_
  · rintro i v H' H'' hlt ⟨k, hst⟩ ⟨sm, x, hx, r⟩
    have hmem : x ∈ xs' := List.mem_of_getElem? hx
    have ED : Env C.d B (wipeG G (own.map (·.2))) (wipe σ (own.map (·.2))) H'' := (((E0.go l).go k).go (Le.of_same sm)).wipe _
    have htk : (xs'.take (i + 1)).map (fun x => (fk x, fv x)) = (xs'.take i).map (fun x => (fk x, fv x)) ++ [(fk x, fv x)] := by
      rw [List.take_add_one, hx, List.map_append]; rfl
    refine hbind B _ _ H'' v x _ ED (by rw [wipeG_length]; exact hl) r fun σ2 E2 hwp => ⟨by rw [hwp _ hw, wipe_wipe], ?_⟩
    replace E2 := E2 _ _ (TLe.refl _) ED
    refine hk x hmem B σ2 H'' E2 _ fun y H4 ⟨k4, y', ey, ry⟩ => hv x hmem B σ2 H4 (E2.go k4) _ fun z H5 ⟨k5, z', ez, rz⟩ => ?_
    subst ey ez
    have k45 : Le C.d H' H5 := ((Le.of_same sm).trans k4).trans k5
    have hsz := w.1
    obtain ⟨H6, g1, g2, g3⟩ := st (by rw [List.length_map, List.length_take]; omega) (sk D1 k45 hst) (Im.keep k5.tle ry) rz
    exact ⟨H6, g1, g3 _ _ hD (k.trans k45), by rw [htk]; exact g2⟩
  · rintro H' ⟨k, hst⟩
    rw [List.take_length] at hst
    exact q Da H' (l.trans k) (l.free hD) hst
theorem ev_dx {T : Tx} (Kd : DKind T) {α κ β : Type} [Im α] [Im κ] [Im β] {kx vx tg iter : Expr} {scope : Scope} {own : List (Str × Nat)} {pos : Pos} {xs : List α} {put : α → List Slot → List Slot} {ws : List Nat} (fk : α → κ) (fv : α → β) (St : List (κ × β) → Addr → Hp → Prop) {r : Ret}
    (s0 : ∀ H D, H D = none → St [] D (upd H D (Kd.e0 D))) (sk : ∀ {d L D H H'}, d ≠ some D → Le d H H' → St L D H → St L D H')
    (st : ∀ {L D H y z k b}, L.length < sizeLine → St L D H → rep H y k → rep H z b → ∃ H', Kd.put H D y z H' ∧ St (L ++ [(k, b)]) D H' ∧ ∀ d H0, H0 D = none → Le d H0 H → Le d H0 H')
    (fin : ∀ {d D H H0}, H0 D = none → Le d H0 H → St (xs.map fun x => (fk x, fv x)) D H → retIs d H0 r (.ref D) H)
    (hl : G.length = C.N.length) (hi : EvI C G tg iter (· = xs)) (ok : blkC C.N C.sc scope own = true) (hb : Bnd (C.blk scope) tg put ws) (hw : ∀ j ∈ ws, j ∈ own.map (·.2))
    (hk : ∀ x ∈ xs, EvR (C.blk scope) (put x (wipeG G (own.map (·.2)))) kx (.im (· = fk x))) (hv : ∀ x ∈ xs, EvR (C.blk scope) (put x (wipeG G (own.map (·.2)))) vx (.im (· = fv x)))
    (hs : ∀ env x, foldedSetIterable iter env x = pure x := by intro _ _; rfl) (hT : C.T = T := by rfl) (h1 : 1 ≤ C.k := by exact Nat.le_of_ble_eq_true rfl) : EvR C G (.DictComp kx vx [⟨tg, iter, [], 0⟩] scope pos) r := fun B σ H E Q q =>
  te_dx Kd fk fv St s0 sk st hl hi ok hb hw hk hv hs hT h1 B σ H E Q fun D H2 l n h => q _ _ (fin n l h)
theorem ev_dxT {α β : Type} [Im α] [Im β] {kx vx tg iter : Expr} {scope : Scope} {own : List (Str × Nat)} {pos : Pos} {xs : List α} {put : α → List Slot → List Slot} {ws : List Nat} (fk : α → List Nm) (fv : α → β)
    (hl : G.length = C.N.length) (hi : EvI C G tg iter (· = xs)) (ok : blkC C.N C.sc scope own = true) (hb : Bnd (C.blk scope) tg put ws) (hw : ∀ j ∈ ws, j ∈ own.map (·.2))
    (hk : ∀ x ∈ xs, EvR (C.blk scope) (put x (wipeG G (own.map (·.2)))) kx (.im (· = fk x))) (hv : ∀ x ∈ xs, EvR (C.blk scope) (put x (wipeG G (own.map (·.2)))) vx (.im (· = fv x)))
    (hs : ∀ env x, foldedSetIterable iter env x = pure x := by intro _ _; rfl) (h1 : 1 ≤ C.k := by exact Nat.le_of_ble_eq_true rfl) : EvR C G (.DictComp kx vx [⟨tg, iter, [], 0⟩] scope pos) (.dt (· = putAll [] (xs.map fun x => ((fk x).map Nm.s, fv x)))) := by
  refine ev_dx (kT C.T) fk fv (fun L D H => ∃ ks, H D = some (.dT ks) ∧ RepT H ks (putAll [] (L.map fun p : List Nm × β => (p.1.map Nm.s, p.2)))) (fun H D hD => ⟨[], upd_same, trivial⟩) (fun {d L D H H'} hd k ⟨ks, h1, h2⟩ => ⟨ks, k.keep h1 hd, h2.keep k.tle⟩) ?_ ?_ hl hi ok hb hw hk hv hs rfl h1
  · intro L D H y z k b hz ⟨ks, h2, h3⟩ ry rz
    obtain ⟨c, rfl, hc⟩ := key_rep ry
    have tl : TLe H (upd H D (.dT (putK ks ((k.map Nm.s).map Sum.inr) z))) := TLe.upd fun o ho => by rw [h2] at ho; cases ho; exact id
    have hlen : ks.length ≤ L.length := by
      rw [h3.len]
      have := putAll_len (L.map fun p : List Nm × β => (p.1.map Nm.s, p.2)) ([] : List (List Str × β))
      rw [List.length_map, List.length_nil] at this
      omega
    refine ⟨_, ⟨ks, (k.map Nm.s).map Sum.inr, c, h2, rfl, hc, by omega, rfl⟩, ⟨_, upd_same, ?_⟩, fun d H0 h0 le => le.mut h0⟩
    rw [List.map_append]
    show RepT _ _ (List.foldl _ _ (_ ++ [_]))
    rw [List.foldl_append]
    exact (h3.keep tl).put (Im.keep tl rz)
  · intro d D H H0 h0 le ⟨ks, h2, h3⟩
    refine ⟨le, D, ks, _, rfl, h0, h2, h3, ?_⟩
    rw [List.map_map]
    rfl
def rUpdT : V → List V → Hp → VK → Prop := fun x xs H Q => ∃ (a b : Addr) (ks ms : List (List Key × V)), x = .ref a ∧ xs = [.ref b] ∧ a ≠ b ∧ H a = some (.dT ks) ∧ H b = some (.dT ms) ∧ (ks ≠ [] ∨ ms.length ≤ 1) ∧ ks.length + ms.length ≤ sizeLine ∧ Q .non (upd H a (.dT (mergeT ks ms)))
theorem KT_merge {H : Hp} : ∀ {ms : List (List Key × V)} {ys : List (List Key × Addr × Value)} {ks : List (List Key × V)} {xs : List (List Key × Addr × Value)}, KT H ms ys → KT H ks xs → KT H (mergeT ks ms) (storedAllH xs ys)
  | _, _, ks, xs, .nil, h => h
  | _, _, ks, xs, .cons (a := p) (b := q) g t, h => by
    refine KT_merge (ks := putK ks p.1 p.2) (xs := storedH xs q.1 q.2.1 q.2.2) t ?_
    rw [← g.1]
    exact h.put p.1 g.2.1 g.2.2
theorem mt_updateT {X : Cx} (hu : X.A.units + 64 < cLine) : MtR X "dict.update" rUpdT := by
  intro pins s σ H x xs v us Q I rx rxs h
  obtain ⟨a, b, ks, ms, rfl, rfl, hne, ha, hb, hor, hz, q⟩ := h
  obtain rfl : v = Value.ref a := rx
  obtain ⟨u, rfl, ru⟩ := vals1 rxs
  obtain rfl : u = Value.ref b := ru
  obtain ⟨za, hda, va, ra, dda⟩ := dt_of I.hok ha
  obtain ⟨zb, hdb, vb, rb, ddb⟩ := dt_of I.hok hb
  have la : ks.length = va.length := Paired.length ra
  have lb : ms.length = vb.length := Paired.length rb
  refine call_update_dictH (tupleKind_room_in1 (by omega)) hne hdb dda ddb ?_ (by omega) fun h' dd' _ hs => ?_
  · rcases hor with z | z
    · exact .inl fun e => z (List.length_eq_zero_iff.mp (by rw [la, e]; rfl))
    · obtain ⟨_, _, _, _, _, _, _, his, _⟩ := id ddb
      refine .inr ⟨fun y hy => tupleKind_stays.tuple (his y hy), ?_⟩
      rw [lb] at z
      match vb, z with
      | [], _ => exact List.nodup_nil
      | [_], _ => exact List.nodup_cons.mpr ⟨by simp, List.nodup_nil⟩
      | _ :: _ :: _, z => simp at z
  · obtain ⟨o, es, ep, ho, h2, h3, h4, _, h5⟩ := dd'
    have hl : (mergeT ks ms).length ≤ sizeLine := by
      have e1 := storedAllH_length vb va
      have e2 : (mergeT ks ms).length = (storedAllH va vb).length := Paired.length (KT_merge rb ra)
      omega
    have new : ObjOk X.prog X.w (upd H a (.dT (mergeT ks ms))) h' a (.dT (mergeT ks ms)) := by
      refine ⟨hl, hda, _, (KT_merge rb ra).keeps fun c ys ec => ?_, o, es, ep, ho, h2, h3, h4, h5⟩
      rw [upd_ne (ne_of ec ha (fun z => nomatch z))]
      exact ec
    exact ⟨.non, _, d_write (t' := s.toks) I (by rw [ha]; exact True.intro) hs ⟨o, ho⟩ new, rfl, q⟩
theorem own_dt {d : Option Addr} {B H : Hp} {σ : L2.St} {β : Type} [Im β] {kvs kvs' : List (List Str × β)} {i : Nat} (E : Env d B G σ H) (e : G[i]? = some (.dt kvs)) : ∃ p ks, σ[i]? = some (some (.ref p)) ∧ d ≠ some p ∧ H p = some (.dT ks) ∧ RepT H ks kvs ∧
    ∀ H1 ks', Le d H H1 → RepT H1 ks' kvs' → Env d B (G.set i (.dt kvs')) σ (upd H1 p (.dT ks')) := by
  obtain ⟨p, ks, h1, h0, h2, h3, h4, h5⟩ := E.dt e
  refine ⟨p, ks, h1, h2, h3, h4, fun H1 ks' l r => ?_⟩
  have hp1 : H1 p = some (.dT ks) := l.keep h3 h2
  have tl : TLe H1 (upd H1 p (.dT ks')) := TLe.upd fun o ho => by rw [hp1] at ho; cases ho; exact id
  exact Env.put (s := .no) (E.go l) h1 h0 (fun own ow => by
    obtain ⟨p', _, g1, _, _, _, _, g5⟩ := (E.go l).dt e
    rw [h1] at g1
    cases g1
    exact g5 own ow) hp1 id ⟨ks', upd_same, r.keep tl⟩
theorem run_updT {β : Type} [Im β] {kvs more : List (List Str × β)} {i : Nat} {y : Str} {p apos pos pos' : Pos} {e : Expr} {rest : List Stmt} {D : GEnds} (he : EvR C G e (.dt (· = more))) (hG : G[i]? = some (.dt kvs)) (hor : kvs ≠ [] ∨ more.length ≤ 1) (hz : kvs.length + more.length ≤ 100000) (k : Run C (G.set i (.dt (putAll kvs more))) rest D)
    (hN : C.N[i]? = some y := by rfl) (hv : Vis C.sc y := by first | exact Or.inl rfl | exact Or.inr (Or.inl rfl) | exact Or.inr (Or.inr rfl))
    (hd : (y == ("__debug__" : Str)) = false := by decide) (hcd : (y == ("__classdict__" : Str)) = false := by decide) (hs : ∀ env, swapsWith (.Call (.Attribute (.Name y p) "update" apos) [e] [] pos) none pos'.line env = pure false := by intro _; rfl)
    (hbase : ∀ env, attributeBase (.Name y p) "update" env (eval (.Name y p) env) = eval (.Name y p) env := by intro _; rfl)
    (hfew : ∀ env, ((backTo pos (starEach [e] env)).all (fun x => !x.1) && (backToKw pos (keywordEach [] env)).all (fun x => x.1.isSome)
      && decide (([e] : List Expr).length + ([] : List Keyword).length + (if ([] : List Keyword).isEmpty then 0 else 1) < 30)) = true := by intro _; rfl)
    (hline : (apos.endLine == pos.line) = true := by rfl) (hst : ∀ env, starEach [e] env = (false, eval e env) :: starEach [] env := by intro _; rfl) (hpl : ∀ env, (backTo pos (starEach [] env)).any (·.1) = false := by intro _; rfl) :
    Run C G (.Expr (.Call (.Attribute (.Name y p) "update" apos) [e] [] pos) pos' :: rest) D := fun B σ H E => by
  refine tSs_of (t := tSeq (tDrop (tBM C.T.K "dict" rUpdT (tVar i) (tCons (tE C e) tNil))) (tSs C rest)) (fun X ok => pss_cons (ps_expr (by
    rw [← ok.K]
    exact pe_bm F.plainAttrs_dict F.slot_dict_update F.type_dict_update (mt_updateT (by have := ok.room.units; omega)) (pe_var (i := i) (by rw [ok.N]; exact hN) (by rw [ok.sc]; exact hv) hd hcd) (pa_cons (pe_tE ok) pa_nil (hst _)) (hbase _) (hfew _) hline (hst _) (hpl _)) (hs _)) (pss_tS ok)) ?_
  obtain ⟨c, ks, h1, h2, h3, h4, h5⟩ := own_dt (kvs' := putAll kvs more) E hG
  refine ⟨_, h1, ?_, he B σ H E _ fun v H1 ⟨l, t, ms, mvs, ev, n, ht, r, px⟩ => ?_⟩
  · exact .inr (.inr (.inl ⟨rfl, .inr ⟨ks, h3⟩⟩))
  subst ev px
  have hor' : ks ≠ [] ∨ ms.length ≤ 1 := by
    rcases hor with z | z
    · exact .inl fun e => z (List.length_eq_zero_iff.mp (by rw [← h4.len, e]; rfl))
    · exact .inr (by rw [r.len]; exact z)
  refine ⟨c, t, ks, ms, rfl, rfl, (fun z => by rw [z, n] at h3; cases h3), l.keep h3 h2, ht, hor', by rw [h4.len, r.len, sizeLine_eq]; omega, ?_⟩
  exact k B σ _ (h5 H1 _ l ((h4.keep l.tle).putAll r))
theorem ev_newT {β : Type} [Im β] {pos : Pos} : EvR C G (.Dict [] [] pos) (.dt (· = ([] : List (List Str × β)))) := fun B σ H E Q q =>
  tE_of (t := tDNewT) (fun X ok => pe_dnewT) fun p hp => q _ _ ⟨Le.new hp, p, [], [], rfl, hp, upd_same, trivial, rfl⟩
end Mk
-- MkLc2
namespace Mk
open Im (rep)
open PySem PySem.Spec PyProof.Rows L2
variable {C : Cg} {G : List Slot}
section
variable {α β γ : Type} [Im α] [Im β] [Im γ]
theorem flat_take {xs : List α} {F : α → List γ} {i : Nat} {x : α} (hx : xs[i]? = some x) : (xs.take (i + 1)).flatMap F = (xs.take i).flatMap F ++ F x := by
  rw [List.take_add_one, hx, List.flatMap_append]
  simp
theorem run_setLc2 {i : Nat} {nm : Str} {pos' pos : Pos} {rest : List Stmt} {D : GEnds} {elt tg iter tg1 iter1 c : Expr} {scope : Scope} {own : List (Str × Nat)} {lpos : Pos} {xs : List α} {ys : List β} {put : α → List Slot → List Slot} {put1 : β → List Slot → List Slot} {ws ws1 vs1 : List Nat}
    (p : α → β → Bool) (f : α → β → γ) (hl : G.length = C.N.length) (hi : EvI C G tg iter (· = xs)) (ok : blkC C.N C.sc scope own = true) (hb : Bnd (C.blk scope) tg put ws) (hw : ∀ j ∈ ws, j ∈ own.map (·.2)) (hv1 : ∀ j ∈ vs1, j ∈ own.map (·.2))
    (hi1 : ∀ x ∈ xs, EvR (C.blk scope) (put x (wipeG G (own.map (·.2)))) iter1 (.im (· = ys))) (hb1 : Bnd (C.blk scope) tg1 put1 ws1) (hw1 : ∀ j ∈ ws1, j ∈ vs1)
    (ht : ∀ x ∈ xs, ∀ y ∈ ys, EvT (C.blk scope) (put1 y (wipeG (put x (wipeG G (own.map (·.2)))) vs1)) c (· = p x y)) (he : ∀ x ∈ xs, ∀ y ∈ ys, p x y = true → EvR (C.blk scope) (put1 y (wipeG (put x (wipeG G (own.map (·.2)))) vs1)) elt (.im (· = f x y)))
    (hz : xs.length * ys.length ≤ 100000) (k : Run C (G.set i (.ro (xs.flatMap fun x => (ys.filter (p x)).map (f x)))) rest D) (hii : i < G.length := by exact Nat.le_of_ble_eq_true rfl) (hN : C.N[i]? = some nm := by rfl)
    (hx : C.sc.names.lookup nm = some .local := by rfl) (hk0 : C.sc.kind = .function := by rfl) (hln : (pos'.line == lpos.line) = true := by rfl) (han : (scope.names.any fun (n, k) => n == nm && (k == .local || k == .cell)) = false := by decide +kernel)
    (hs : ∀ env x, foldedSetIterable iter env x = pure x := by intro _ _; rfl) (hs1 : ∀ env x, foldedSetIterable iter1 env x = pure x := by intro _ _; rfl) : Run C G (.Assign [.Name nm pos'] (.ListComp elt [⟨tg, iter, [], 0⟩, ⟨tg1, iter1, [c], 0⟩] scope lpos) pos :: rest) D := fun B σ H E => by
  obtain ⟨g, hg, hpl, hbind⟩ := hb
  obtain ⟨g1, hg1, hpl1, hbind1⟩ := hb1
  refine tSs_of (t := tSeq (tAsg (tLc2 (tI C tg iter) g tYes (iTup C.T.K (tE (C.blk scope) iter1)) g1 (tT (C.blk scope) c) (tE (C.blk scope) elt) (own.map (·.2)) vs1) (gName i)) (tSs C rest)) (fun X okX => pss_cons (ps_setLc2 okX.calm (by rw [okX.N]; exact okX.nd) (by rw [okX.N]; exact hN) (by rw [okX.sc]; exact hx)
    (sw_true (by rw [okX.sc]; exact hk0) (by rw [okX.sc]; exact hx) hln han) (pi_tI okX) (by rw [okX.N, okX.sc]; exact blkOk_by ok) hv1 (fun s H Ca cl fp => hg _ okX.blk) (fun s H Ca cl fp => pts_nil) (fun s H Ca cl fp => by rw [← okX.K]; exact pi_tup (pe_tE okX.blk)) (fun s H Ca cl fp => hg1 _ okX.blk) (fun s H Ca cl fp => pts_one (pt_tT okX.blk)) (fun s H Ca cl fp => pe_tE okX.blk) (hs _) hs1) (pss_tS okX)) ?_
  have E0 := E
  obtain ⟨le, Di, ln, ow0, ow⟩ := E
  show tLc2 (tI C tg iter) g tYes (iTup C.T.K (tE (C.blk scope) iter1)) g1 (tT (C.blk scope) c) (tE (C.blk scope) elt) (own.map (·.2)) vs1 σ H (fun v H2 => tSs C rest (ends C.d B D) (σ.set i (some v)) H2)
  refine hi B σ H ow0 le Di ln ow _ fun J H1 xs' cs l px w hcs => fun Da hD => ?_
  subst px
  have D1 : C.d ≠ some Da := fun z => by
    obtain ⟨o, h1, _⟩ := (Di.le le).le l Da z
    rw [hD] at h1
    cases h1
  have kp : ∀ H', Le C.d H1 H' → TLe H1 H' ∧ ∀ a ∈ cs, H' a = H1 a := fun H' k => ⟨k.tle, fun a ha => by
    obtain ⟨h1, h2, o, h3⟩ := hcs a ha
    rw [h3]
    exact k.keep h3 h2⟩
  let F : α → List γ := fun x => (ys.filter (p x)).map (f x)
  have wk := w.2 (fun H' => Le C.d H1 H') kp
  have hFl : ∀ x, (F x).length ≤ ys.length := fun x => by
    show ((ys.filter (p x)).map (f x)).length ≤ _
    rw [List.length_map]; exact List.length_filter_le _ _
  have hflat : ∀ n, ((xs'.take n).flatMap F).length ≤ n * ys.length := by
    intro n
    induction n with
    | zero => simp
    | succ n ih =>
      cases q : xs'[n]? with
      | none =>
        have : xs'.take (n + 1) = xs'.take n := by rw [List.take_add_one, q]; simp
        rw [this, Nat.succ_mul]; omega
      | some x => rw [flat_take q, List.length_append, Nat.succ_mul]; have := hFl x; omega
  let Pv : Nat → Hp → Prop := fun n H' => Le C.d H1 H' ∧ ∃ acc, H' Da = some (.lst acc) ∧ Reps H' acc ((xs'.take n).flatMap F)
  refine ⟨fun n m H' => m = xs'.length - n ∧ n ≤ xs'.length ∧ Pv n H', ⟨xs'.length, by simp, Nat.zero_le _, Le.new hD, [], upd_same, trivial⟩, ?_⟩
  rintro n m H' ⟨rfl, hn, kl, acc, hA, hr⟩
  by_cases hlt : n < xs'.length
  · refine .inr ⟨wk.goes n H' hlt kl, Pv (n + 1), fun H'' p' => ⟨xs'.length - (n + 1), by omega, rfl, hlt, p'⟩, fun v H'' yl => ?_⟩
    obtain ⟨sm, x, hx, r⟩ := wk.yields n H' v H'' hlt kl yl
    have hmem : x ∈ xs' := List.mem_of_getElem? hx
    have ED : Env C.d B (wipeG G (own.map (·.2))) (wipe σ (own.map (·.2))) H'' := (((E0.go l).go kl).go (Le.of_same sm)).wipe _
    refine hbind B _ _ H'' v x _ ED (by rw [wipeG_length]; exact hl) r fun σ2 E2' hwp => ⟨by rw [hwp _ hw, wipe_wipe], ?_⟩
    have E2 := E2' _ _ (TLe.refl _) ED
    unfold tYes
    show ite _ _ _
    rw [if_pos rfl]
    refine tE_len (hi1 x hmem B σ2 H'' E2 _ fun v1 H4 ⟨l4, ys', py, a4, vs4, ev4, ha4, r4⟩ hlen => ?_)
    subst py
    refine ⟨a4, ev4, ⟨vs4, .inl (.inl ha4)⟩, ?_⟩
    have k4 : Le C.d H' H4 := (Le.of_same sm).trans l4
    have w1 := isWalk_tup (K := C.T.K) ha4 r4 (hlen a4 vs4 (.inr ha4))
    have wk1 := w1.2 (fun H5 => TLe H4 H5) fun H5 k => ⟨k, fun a z => by simp at z⟩
    let Pv1 : Nat → Hp → Prop := fun j H5 => TLe H4 H5 ∧ Le C.d H1 H5 ∧ ∃ acc, H5 Da = some (.lst acc) ∧ Reps H5 acc ((xs'.take n).flatMap F ++ ((ys'.take j).filter (p x)).map (f x))
    refine ⟨fun j m H5 => m = ys'.length - j ∧ j ≤ ys'.length ∧ Pv1 j H5, ⟨ys'.length, by simp, Nat.zero_le _, TLe.refl _, kl.trans k4, acc, k4.keep hA D1, by simpa using hr.keep k4.tle⟩, ?_⟩
    rintro j m1 H5 ⟨rfl, hj, k5, l5, acc5, hA5, hr5⟩
    by_cases hlt1 : j < ys'.length
    · refine .inr ⟨wk1.goes j H5 hlt1 k5, Pv1 (j + 1), fun H6 p' => ⟨ys'.length - (j + 1), by omega, rfl, hlt1, p'⟩, fun v6 H6 yl1 => ?_⟩
      obtain ⟨sm1, y, hy, r6⟩ := wk1.yields j H5 v6 H6 hlt1 k5 yl1
      have hmem1 : y ∈ ys' := List.mem_of_getElem? hy
      have E5 : Env C.d B (put x (wipeG G (own.map (·.2)))) σ2 H5 := E2' _ _ (l4.tle.trans k5) (((E0.go l).go l5).wipe _)
      have ED1 := (E5.go (Le.of_same sm1)).wipe vs1
      refine hbind1 B _ _ H6 v6 y _ ED1 (by rw [wipeG_length, hpl, wipeG_length]; exact hl) r6 fun σ3 E3 hwp1 => ⟨by rw [hwp1 _ hw1, wipe_wipe], ?_⟩
      replace E3 := E3 _ _ (TLe.refl _) ED1
      have hlen5 : acc5.length < sizeLine := by
        rw [hr5.len, List.length_append, List.length_map, sizeLine_eq]
        have h1 := hflat n
        have h2 : ((ys'.take j).filter (p x)).length ≤ j := Nat.le_trans (List.length_filter_le _ _) (by rw [List.length_take]; omega)
        have h3 : (n + 1) * ys'.length ≤ xs'.length * ys'.length := Nat.mul_le_mul_right _ hlt
        rw [Nat.succ_mul] at h3
        omega
      have htk : ys'.take (j + 1) = ys'.take j ++ [y] := by rw [List.take_add_one, hy]; rfl
      refine ht x hmem y hmem1 B σ3 H6 E3 _ fun b H7 k7 tb => ?_
      have k57 : Le C.d H5 H7 := (Le.of_same sm1).trans k7
      cases b with
      | true =>
        refine iteT (he x hmem y hmem1 tb.symm B σ3 H7 (E3.go k7) _ fun u H8 ⟨k8, z, hz8, rz⟩ => ?_)
        subst hz8
        have k58 := k57.trans k8
        have hA8 : H8 Da = some (.lst acc5) := k58.keep hA5 D1
        have tl : TLe H8 (upd H8 Da (.lst (acc5 ++ [u]))) := TLe.upd fun o ho => by rw [hA8] at ho; cases ho; exact id
        refine ⟨acc5, hA8, hlen5, (k5.trans k58.tle).trans tl, (l5.trans k58).mut hD, acc5 ++ [u], upd_same, ?_⟩
        rw [htk, List.filter_append, List.map_append, ← List.append_assoc]
        have e1 : ([y].filter (p x)).map (f x) = [f x y] := by rw [List.filter_cons, if_pos tb.symm]; rfl
        rw [e1]
        exact ((hr5.keep k58.tle).keep tl).app (.one (Im.keep tl rz))
      | false =>
        refine iteF ⟨k5.trans k57.tle, l5.trans k57, acc5, k57.keep hA5 D1, ?_⟩
        rw [htk, List.filter_append, List.map_append]
        have e1 : ([y].filter (p x)).map (f x) = [] := by rw [List.filter_cons, if_neg (by rw [← tb]; exact Bool.false_ne_true)]; rfl
        rw [e1, List.append_nil]
        exact hr5.keep k57.tle
    · have e : j = ys'.length := by omega
      subst e
      rw [List.take_length] at hr5
      exact .inl ⟨wk1.stops H5 k5, l5, acc5, hA5, by rw [flat_take hx]; exact hr5⟩
  · have e : n = xs'.length := by omega
    subst e
    rw [List.take_length] at hr
    exact .inl ⟨wk.stops H' kl, k B _ H' (Env.set_ro E0 hii (l.free hD) (l.trans kl) hA hr)⟩
end
end Mk
-- MkEqL
namespace Mk
open Im (rep)
open PySem PySem.Spec PyProof.Rows L2
variable {C : Cg} {G : List Slot}
section
variable {α : Type} [Dat α]
theorem shaped_list (h : Dat.dep α ≤ 60) (xs : List α) : SeqAt.shaped (.list (xs.map Dat.data)) = true := by
  unfold SeqAt.shaped
  rw [PyData.canLay0, layAll xs, Bool.true_and, PyData.depth]
  have := depthAll_le xs
  exact decide_eq_true (by omega)
theorem eqv_list [DecidableEq α] (xs ys : List α) : PyData.eqv (.list (xs.map Dat.data)) (.list (ys.map Dat.data)) = decide (xs = ys) := by
  rw [PyData.eqv]
  by_cases e : xs = ys
  · rw [decide_eq_true e]; exact eqvAll_inj.mpr e
  · rw [decide_eq_false e]
    cases q : PyData.eqvAll (xs.map Dat.data) (ys.map Dat.data) with
    | false => rfl
    | true => exact absurd (eqvAll_inj.mp q) e
variable [DecidableEq α] {a b : Expr} {pos : Pos} {xs ys : List α}
theorem ev_eqL (ha : EvL C G a (· = xs)) (hb : EvL C G b (· = ys)) (hd : Dat.dep α ≤ 60 := by decide) : EvC C G (.Compare a [.Eq] [b] pos) (· = decide (xs = ys)) :=
  mk_evc (t := tOp (rEqD C.T.K) (tE C a) (tE C b)) (fun X ok => by rw [← ok.K]; exact pe_cmpR (op_eqD ok.room.units) (pe_tE ok) (pe_tE ok) (nobehind b (by decide) (by decide))) (fun X ok => by rw [← ok.K]; exact pt_cmpR (op_eqD ok.room.units) (pe_tE ok) (pe_tE ok) (nobehind b (by decide) (by decide))) fun B σ H E Q q =>
    ha B σ H E _ fun v H1 x l p r1 => hb B σ H1 (E.go l) _ fun w H2 y l2 p2 r2 => by
      obtain ⟨a1, vs, rfl, h1, _, g1⟩ := r1.le l2
      obtain ⟨a2, ws, rfl, h2, _, g2⟩ := r2
      exact ⟨_, _, .lst (.inl (.inl h1)) (dpAll g1), .lst (.inl (.inl h2)) (dpAll g2), shaped_list hd _, shaped_list hd _, q _ _ (l.trans l2) (by rw [eqv_list, p, p2])⟩
theorem ev_neL (ha : EvL C G a (· = xs)) (hb : EvL C G b (· = ys)) (hd : Dat.dep α ≤ 60 := by decide) : EvC C G (.Compare a [.NotEq] [b] pos) (· = !decide (xs = ys)) :=
  mk_evc (t := tOp (rNeD C.T.K) (tE C a) (tE C b)) (fun X ok => by rw [← ok.K]; exact pe_cmpR (op_neD ok.room.units) (pe_tE ok) (pe_tE ok) (nobehind b (by decide) (by decide))) (fun X ok => by rw [← ok.K]; exact pt_cmpR (op_neD ok.room.units) (pe_tE ok) (pe_tE ok) (nobehind b (by decide) (by decide))) fun B σ H E Q q =>
    ha B σ H E _ fun v H1 x l p r1 => hb B σ H1 (E.go l) _ fun w H2 y l2 p2 r2 => by
      obtain ⟨a1, vs, rfl, h1, _, g1⟩ := r1.le l2
      obtain ⟨a2, ws, rfl, h2, _, g2⟩ := r2
      exact ⟨_, _, .lst (.inl (.inl h1)) (dpAll g1), .lst (.inl (.inl h2)) (dpAll g2), shaped_list hd _, shaped_list hd _, q _ _ (l.trans l2) (by rw [eqv_list, p, p2])⟩
end
theorem reps_names {H : Hp} : ∀ {vs : List V} {xs : List Nm}, Reps H vs (xs.map Nm.s) ↔ Reps H vs xs
  | [], [] => Iff.rfl
  | [], _ :: _ => Iff.rfl
  | _ :: _, [] => Iff.rfl
  | v :: vs, x :: xs => and_congr Iff.rfl reps_names
theorem rep_names {H : Hp} {v : V} {xs : List Nm} (h : rep H v (xs.map Nm.s)) : rep H v xs := by
  obtain ⟨a, vs, e, h1, r⟩ := h
  exact ⟨a, vs, e, h1, reps_names.mp r⟩
theorem ev_names {e : Expr} {xs : List Nm} (h : EvR C G e (.im (· = xs.map Nm.s))) : EvR C G e (.im (· = xs)) := h.as fun H v r => rep_names r
theorem ev_lenP {α β : Type} [Im α] [Im β] {e : Expr} {x : α × β} {p pos : Pos} (b : Blt C.T) (h : EvR C G e (.im (· = x))) (hg : C.sc.names.lookup ("len" : Str) = some .globalImplicit := by rfl) (hs : ∀ env, starEach [e] env = (false, eval e env) :: starEach [] env := by intro _; rfl) :
    EvR C G (.Call (.Name "len" p) [e] [] pos) (.im (· = (2 : Int))) := fun B σ H E Q q => by
  refine ev_blt1 (f := fun xs H Q => ∃ x n, xs = [x] ∧ LenV C.T.K x H n ∧ Q (V.int n) H) (fun X ok => by rw [← ok.K]; exact call_len) b.len boot_len ?_ hg (by decide) (by decide) hs
  refine h B σ H E _ fun v H1 ⟨l, z, ez, a, u, w, ev, ha, r1, r2⟩ => ?_
  subst ev
  exact ⟨_, 2, rfl, .inr ⟨[u, w], .inl (.inl ha), rfl⟩, q _ H1 ⟨l, _, rfl, rfl⟩⟩
end Mk
-- MkF2
namespace Mk
open Im (rep)
open PySem PySem.Spec PyProof.Rows L2
variable {T : Tx}
def within (a b : List Nm) : Bool := a.all fun c => decide (c ∈ b)
structure ROk (cs : List Nm) (r : Rule) : Prop where
  hl : Cols r.1
  hr : Cols r.2
  ls : ∀ c ∈ r.1, c ∈ cs
  rs : ∀ c ∈ r.2, c ∈ cs
  ne : r.2 ≠ []
structure RulOk {C : Addr} (x : Rul C) : Prop where
  cols : Cols x.cols
  rules : ∀ r ∈ x.rules, ROk x.cols r
  few : x.rules.length ≤ 16
theorem all_true {α : Type} {xs : List α} {f : α → Bool} (h : ∀ x ∈ xs, f x = true) : (xs.map f).all id = true := by
  rw [List.all_map]; exact List.all_eq_true.mpr h
theorem sc_are_some_of : FnScope ["columns", "value", "column"] ["columns", "value"] (defScope (top 24)) := ⟨rfl, rfl, rfl, by decide +kernel, rfl, by decide +kernel, by decide +kernel⟩
theorem ok_are_some_of (h : Top T) : Fn T 4 "are_some_of" (spC (β := List Nm × List Nm) false (fun b => [.im b.1, .im b.2]) (fun b => Cols b.2 ∧ ∀ c ∈ b.2, c ∈ b.1) (fun _ => .im (· = true))) := by
  refine def_ok (at_are_some_of h) sc_are_some_of (fun _ _ _ _ _ _ us hl => match us, hl with | [_, _], _ => rfl) (fun b => rfl) fun b d hd hp => ?_
  obtain ⟨cs, xs⟩ := b
  refine run_ret ((ev_and (x := true) (y := true) (ev_call (ok_is_columns h) xs (ea_var (i := 1) rfl ea_nil) rfl hp.1) fun _ => ev_one ((ev_all (blt h) (ev_lc (own := [("column", 2)]) (lc_map (fun c : Nm => decide (c ∈ cs)) rfl (ei_tup ((ev_var (i := 1) rfl))) (by kernel_rfl) (bnd_name (i := 2)) (by decide) fun x hx => ?_))).to ?_)).to rfl)
  · exact (ev_inNm ((ev_var (i := 2) rfl)) (es_im ((ev_var (i := 0) rfl)))).v
  · exact all_true fun c hc => decide_eq_true (hp.2 c hc)
theorem sc_is_rule_over : FnScope ["columns", "value"] ["columns", "value"] (defScope (top 25)) := ⟨rfl, rfl, rfl, by decide +kernel, rfl, by decide +kernel, by decide +kernel⟩
theorem ok_is_rule_over (h : Top T) : Fn T 5 "is_rule_over" (spC (β := List Nm × Rule) false (fun b => [.im b.1, .im b.2]) (fun b => ROk b.1 b.2) (fun _ => .im (· = true))) := by
  refine def_ok (at_is_rule_over h) sc_is_rule_over (fun _ _ _ _ _ _ us hl => match us, hl with | [_, _], _ => rfl) (fun b => rfl) fun b d hd hp => ?_
  obtain ⟨cs, l, r⟩ := b
  refine run_if (b := false) (EvT.to (et_w (ew_or (x := false) (y := false) ((et_not (et_val (ev_isi (α := Rule) (P := (· = (l, r))) (b := true) (blt h) ((ev_var (i := 1) rfl)) (blt h).tuple (fun K => kit_ty (by decide +kernel)) PyProof.Rows.boot_tuple))).to rfl)
    fun _ => ew_or1 ((ev_neD (ev_lenP (α := List Nm) (β := List Nm) (blt h) (x := (l, r)) ((ev_var (i := 1) rfl))) ev_int).t.to rfl))) rfl) (fun z => by cases z) fun _ => run_nil ?_
  refine run_ret ((ev_and (x := true) (y := true) (ev_call (ok_are_some_of h) (cs, l) (ea_var (i := 0) rfl (ea_im (ev_fst (P := (· = (l, r))) (R := (· = l)) ((ev_var (i := 1) rfl)) (fun x e => by rw [e])) ea_nil)) rfl ⟨hp.hl, hp.ls⟩)
    fun _ => ev_and (x := true) (y := true) (ev_call (ok_are_some_of h) (cs, r) (ea_var (i := 0) rfl (ea_im (ev_snd (P := (· = (l, r))) (R := (· = r)) ((ev_var (i := 1) rfl)) (fun x e => by rw [e])) ea_nil)) rfl ⟨hp.hr, hp.rs⟩)
    fun _ => ev_one ((ev_neD (ev_snd (P := (· = (l, r))) (R := (· = r)) ((ev_var (i := 1) rfl)) (fun x e => by rw [e])) (ev_tup0 (α := Nm))).v.to (by rw [decide_eq_false hp.ne]; rfl))).to rfl)
theorem sc_require_rule : FnScope ["columns", "rule"] ["columns", "rule"] (defScope (top 28)) := ⟨rfl, rfl, rfl, by decide +kernel, rfl, by decide +kernel, by decide +kernel⟩
theorem ok_require_rule (h : Top T) : Fn T 6 "require_rule" (spC (β := List Nm × Rule) false (fun b => [.im b.1, .im b.2]) (fun b => ROk b.1 b.2) (fun _ => .non)) := by
  refine def_ok (at_require_rule h) sc_require_rule (fun _ _ _ _ _ _ us hl => match us, hl with | [_, _], _ => rfl) (fun b => rfl) fun b d hd hp => ?_
  exact run_if (b := false) ((et_not (et_val (ev_call (ok_is_rule_over h) b (ea_var (i := 0) rfl (ea_var (i := 1) rfl ea_nil)) rfl hp))).to rfl) (fun z => by cases z) fun _ => run_nil (run_nil rfl)
theorem sc_require_rules : FnScope ["rules"] ["rules"] (defScope (top 29)) := ⟨rfl, rfl, rfl, by decide +kernel, rfl, by decide +kernel, by decide +kernel⟩
theorem ok_require_rules (h : Top T) : Fn T 1 "require_rules" (spC (β := RulT T) false (fun b => [.im b]) (fun _ => True) (fun _ => .non)) := by
  refine def_ok (at_require_rules h) sc_require_rules (fun _ _ _ _ _ _ us hl => match us, hl with | [_], _ => rfl) (fun b => rfl) fun b d hd hp => ?_
  exact run_if (b := false) ((et_not (et_val (ev_isRules (x := b) h ((ev_var (i := 0) rfl))))).to rfl) (fun z => by cases z) fun _ => run_nil (run_nil rfl)
theorem sc_without_columns : FnScope ["columns", "struck", "column"] ["columns", "struck"] (defScope (top 30)) := ⟨rfl, rfl, rfl, by decide +kernel, rfl, by decide +kernel, by decide +kernel⟩
theorem ok_without_columns (h : Top T) : Fn T 1 "without_columns" (spC (β := List Nm × List Nm) false (fun b => [.im b.1, .im b.2]) (fun _ => True) (fun b => .im (· = b.1.filter fun c => !decide (c ∈ b.2)))) := by
  refine def_ok (at_without_columns h) sc_without_columns (fun _ _ _ _ _ _ us hl => match us, hl with | [_, _], _ => rfl) (fun b => rfl) fun b d hd _ => ?_
  obtain ⟨cs, xs⟩ := b
  refine run_ret ((ev_tuple (blt h) (es_ls (ev_lc (own := [("column", 2)]) (lc_filter (fun c : Nm => !decide (c ∈ xs)) id rfl (ei_tup ((ev_var (i := 0) rfl))) (by kernel_rfl) (bnd_name (i := 2)) (by decide) (fun x hx => ?_) fun x hx _ => ?_)))).imp fun ys e => e.trans (List.map_id _))
  · exact (ev_niNm ((ev_var (i := 2) rfl)) (es_im ((ev_var (i := 1) rfl)))).t
  · exact (ev_var (i := 2) rfl)
inductive Con where
  | tup (xs : List Nm)
  | dic (xs : List Nm)
def kS (xs : List Nm) : List (Str × Bool) := xs.map fun n => (n.s, true)
def Con.slot : Con → Slot
  | .tup xs => .im xs
  | .dic xs => .rk (kS xs)
def Con.mem : Con → List Nm
  | .tup xs => xs
  | .dic xs => xs
theorem kS_mem {xs : List Nm} {x : Nm} : decide (x.s ∈ (kS xs).map (·.1)) = decide (x ∈ xs) := by
  unfold kS
  rw [List.map_map]
  by_cases h : x ∈ xs
  · rw [decide_eq_true h]; exact decide_eq_true (List.mem_map.mpr ⟨x, h, rfl⟩)
  · rw [decide_eq_false h]; refine decide_eq_false fun z => ?_
    obtain ⟨y, hy, e⟩ := List.mem_map.mp z
    exact h (Nm.ext (a := y) (b := x) e ▸ hy)
abbrev spWithin : Sp := spC (β := List Nm × Con) false (fun b => [.im b.1, b.2.slot]) (fun _ => True) (fun b => .im (· = within b.1 b.2.mem))
theorem sc_are_within : FnScope ["columns", "others", "column"] ["columns", "others"] (defScope (top 38)) := ⟨rfl, rfl, rfl, by decide +kernel, rfl, by decide +kernel, by decide +kernel⟩
theorem ok_are_within (h : Top T) : Fn T 1 "are_within" spWithin := by
  refine def_ok (at_are_within h) sc_are_within (fun _ _ _ _ _ _ us hl => match us, hl with | [_, _], _ => rfl) (fun b => rfl) fun b d hd _ => ?_
  obtain ⟨cs, con⟩ := b
  cases con with
  | tup ys =>
    refine run_ret ((ev_all (blt h) (ev_lc (own := [("column", 2)]) (lc_map (fun c : Nm => decide (c ∈ ys)) rfl (ei_tup (ev_var (i := 0) (a := cs) rfl)) (by kernel_rfl) (bnd_name (i := 2)) (by decide) fun x hx => ?_))).to ?_)
    · exact (ev_inNm ((ev_var (i := 2) rfl)) (es_im (ev_var (i := 1) (a := ys) rfl))).v
    · rw [List.all_map]; rfl
  | dic ys =>
    refine run_ret ((ev_all (blt h) (ev_lc (own := [("column", 2)]) (lc_map (fun c : Nm => decide (c ∈ ys)) rfl (ei_tup (ev_var (i := 0) (a := cs) rfl)) (by kernel_rfl) (bnd_name (i := 2)) (by decide) fun x hx => ?_))).to ?_)
    · exact (ev_inDk (i := 1) (s := .rk (kS ys)) (ev_nmS (ev_var (i := 2) (a := x) rfl)) rfl (.inr rfl)).v.to kS_mem
    · rw [List.all_map]; rfl
section
variable {C : Cg} {G : List Slot}
theorem ev_within {a b : Expr} {p pos : Pos} {xs ys : List Nm} (h : Top T) (ha : EvR C G a (.im (· = xs))) (hb : EvR C G b (.im (· = ys))) (hk : 1 ≤ C.k := by exact Nat.le_of_ble_eq_true rfl) (hg : C.sc.names.lookup ("are_within" : Str) = some .globalImplicit := by rfl)
    (hs : ∀ env, starEach [a, b] env = (false, eval a env) :: starEach [b] env := by intro _; rfl) (hs2 : ∀ env, starEach [b] env = (false, eval b env) :: starEach [] env := by intro _; rfl) (hpl : ∀ env, (backTo pos (starEach [b] env)).any (·.1) = false := by intro _; rfl) (hT : C.T = T := by rfl) :
    EvR C G (.Call (.Name "are_within" p) [a, b] [] pos) (.im (· = within xs ys)) := ev_call (ok_are_within h) (xs, .tup ys) (ea_im ha (ea_im hb ea_nil hs2) hs) rfl trivial rfl hk hg hT (by decide) hs hpl
end
theorem sc_is_closed_in : FnScope ["rules", "columns", "left", "right"] ["rules", "columns"] (defScope (top 40)) := ⟨rfl, rfl, rfl, by decide +kernel, rfl, by decide +kernel, by decide +kernel⟩
def closedB (rs : List Rule) (cs : List Nm) : Bool := rs.all fun r => !within r.1 cs || within r.2 cs
theorem ok_is_closed_in (h : Top T) : Fn T 4 "is_closed_in" (spC (β := RulT T × List Nm) false (fun b => [.im b.1, .im b.2]) (fun _ => True) (fun b => .im (· = closedB b.1.rules b.2))) := by
  refine def_ok (at_is_closed_in h) sc_is_closed_in (fun _ _ _ _ _ _ us hl => match us, hl with | [_, _], _ => rfl) (fun b => rfl) fun b d hd _ => ?_
  obtain ⟨x, cs⟩ := b
  refine run_ret ((ev_all (blt h) (ev_lc (own := [("left", 2), ("right", 3)]) (lc_filter (fun r : Rule => within r.1 cs) (fun r => within r.2 cs) rfl (ei_tup (ev_rules (x := x) h ((ev_var (i := 0) rfl)))) (by kernel_rfl) (bnd_pair (i := 2) (j := 3)) (by decide) (fun r hr => ?_) fun r hr _ => ?_))).to ?_)
  · exact et_val (ev_within h ((ev_var (i := 2) rfl)) ((ev_var (i := 1) rfl)))
  · exact ev_within h ((ev_var (i := 3) rfl)) ((ev_var (i := 1) rfl))
  · rw [List.all_map]
    unfold closedB
    induction x.rules with
    | nil => rfl
    | cons r rs ih =>
      rw [List.all_cons, ← ih, List.filter_cons]
      cases e : within r.1 cs with
      | true => simp
      | false => simp
end Mk
-- MkNd
namespace Mk
open Im (rep)
open PySem PySem.Spec PyProof.Rows L2
def nkN (t : List Nm) : NestedKey := .tup (t.map fun c => .text c.s)
def nkR (r : Rule) : NestedKey := .tup [nkN r.1, nkN r.2]
theorem nkN_inj {s t : List Nm} (h : nkN s = nkN t) : s = t := by
  unfold nkN at h
  injection h with h
  induction s generalizing t with
  | nil => cases t with
    | nil => rfl
    | cons => simp at h
  | cons a s ih => cases t with
    | nil => simp at h
    | cons b t =>
      rw [List.map_cons, List.map_cons, List.cons.injEq] at h
      injection h.1 with e
      rw [Nm.ext e, ih h.2]
theorem nkR_inj {r q : Rule} (h : nkR r = nkR q) : r = q := by
  unfold nkR at h
  injection h with h
  injection h with h1 h2
  injection h2 with h2 _
  exact Prod.ext (nkN_inj h1) (nkN_inj h2)
theorem nkN_depth : ∀ t : List Nm, NestedKey.depthAll (t.map fun c => NestedKey.text c.s) = 0
  | [] => rfl
  | c :: t => by rw [List.map_cons, NestedKey.depthAll, nkN_depth t]; rfl
theorem nkR_depth (r : Rule) : (nkR r).depth ≤ 8 := by
  unfold nkR nkN
  simp only [NestedKey.depth, NestedKey.depthAll, nkN_depth]
  decide
section
variable {X : Cx} {pins : List (Addr × Obj)} {σ : L2.St} {H : Hp} {s : Shared}
theorem nested_names (I : Inv X pins σ H s) {u : V} {v : Value} {t : List Nm} (h : rep H u t) (r : RelV u v) : NestedIs s.heap (nkN t) v := by
  obtain ⟨a, vs, rfl, ha, rs⟩ := h
  obtain rfl : v = Value.ref a := r
  obtain ⟨_, its, rv, o, h1, h2, n, h3⟩ := (show ObjOk X.prog X.w H s.heap a (.tup vs) from I.hok a _ ha)
  refine .tup h1 h2 h3 ?_
  have e : vs = t.map fun n => V.str n.s := reps_nm.mp rs
  subst e
  have key : ∀ {t : List Nm} {its : List Value}, Vals (t.map fun n => V.str n.s) its → NestedAll s.heap (t.map fun c => .text c.s) its := by
    intro t
    induction t with
    | nil => intro its r; cases r; exact .nil
    | cons c t ih =>
      intro its r
      cases r with
      | cons r1 r2 =>
        obtain ⟨k, rfl⟩ := r1
        exact .cons (.text _ _) (ih r2)
  simpa using key rv
theorem nested_rule (I : Inv X pins σ H s) {a : Addr} {x : Rule} (h : rep H (.ref a) x) : (nestedKind X.prog X.w).is s.heap (nkR x) a := by
  obtain ⟨b, u, w, e, hb, r1, r2⟩ := h
  cases e
  obtain ⟨_, its, rv, o, h1, h2, n, h3⟩ := (show ObjOk X.prog X.w H s.heap a (.tup [u, w]) from I.hok a _ hb)
  cases rv with
  | cons v1 rv =>
    cases rv with
    | cons v2 rv =>
      cases rv
      exact ⟨.tup h1 h2 h3 (.cons (nested_names I r1 v1) (.cons (nested_names I r2 v2) .nil)), nkR_depth x⟩
end
def dN (P : Program) (w : World) (a : Addr) (xs : List (NestedKey × Addr × Value)) : HO := .ext fun h => (a == sysModules) = false ∧ ∃ o es ep, h.get? a = some o ∧ o.ExactDict ∧ o.data = .dict es ep ∧ es.toList = xs.map (entryOfKey (nestedKind P w)) ∧ (xs.map (·.1)).Nodup
def NdR (H : Hp) : List (NestedKey × Addr × Value) → List Rule → Prop
  | [], [] => True
  | x :: xs, r :: rs => x.1 = nkR r ∧ rep H (.ref x.2.1) r ∧ NdR H xs rs
  | _, _ => False
section
variable {H H' : Hp}
theorem NdR.keep (k : TLe H H') : ∀ {xs : List (NestedKey × Addr × Value)} {rs : List Rule}, NdR H xs rs → NdR H' xs rs
  | [], [], _ => trivial
  | [], _ :: _, h => h
  | _ :: _, [], h => h
  | _ :: _, _ :: _, h => ⟨h.1, Im.keep k h.2.1, NdR.keep k h.2.2⟩
theorem NdR.len : ∀ {xs : List (NestedKey × Addr × Value)} {rs : List Rule}, NdR H xs rs → xs.length = rs.length
  | [], [], _ => rfl
  | [], _ :: _, h => h.elim
  | _ :: _, [], h => h.elim
  | _ :: _, _ :: _, h => by rw [List.length_cons, List.length_cons, NdR.len h.2.2]
theorem NdR.mem : ∀ {xs : List (NestedKey × Addr × Value)} {rs : List Rule}, NdR H xs rs → ∀ x ∈ xs, ∃ r, x.1 = nkR r ∧ rep H (.ref x.2.1) r
  | [], [], _, x, hx => by simp at hx
  | [], _ :: _, h, _, _ => h.elim
  | _ :: _, [], h, _, _ => h.elim
  | y :: xs, r :: rs, h, x, hx => by
    rcases List.mem_cons.mp hx with e | z
    · rw [e]; exact ⟨r, h.1, h.2.1⟩
    · exact NdR.mem h.2.2 x z
theorem NdR.app : ∀ {xs ys : List (NestedKey × Addr × Value)} {rs qs : List Rule}, NdR H xs rs → NdR H ys qs → NdR H (xs ++ ys) (rs ++ qs)
  | [], _, [], _, _, h => h
  | [], _, _ :: _, _, h, _ => h.elim
  | _ :: _, _, [], _, h, _ => h.elim
  | _ :: _, _, _ :: _, _, h, g => ⟨h.1, h.2.1, NdR.app h.2.2 g⟩
theorem NdR.has (r : Rule) : ∀ {xs : List (NestedKey × Addr × Value)} {rs : List Rule}, NdR H xs rs → (atKey xs (nkR r)).isSome = decide (r ∈ rs)
  | [], [], _ => rfl
  | [], _ :: _, h => h.elim
  | _ :: _, [], h => h.elim
  | x :: xs, q :: rs, h => by
    have ih := NdR.has r h.2.2
    unfold atKey at ih ⊢
    rw [Option.isSome_map] at ih ⊢
    rw [List.find?_cons]
    by_cases e : q = r
    · rw [decide_eq_true (show x.1 = nkR r by rw [h.1, e])]
      rw [decide_eq_true (show r ∈ q :: rs by rw [e]; exact List.mem_cons_self)]
      rfl
    · rw [decide_eq_false (fun z => e (nkR_inj (h.1.symm.trans z)))]
      rw [ih]
      by_cases hm : r ∈ rs
      · rw [decide_eq_true hm, decide_eq_true (List.mem_cons_of_mem _ hm)]
      · rw [decide_eq_false hm, decide_eq_false (fun z => (List.mem_cons.mp z).elim (fun z => e z.symm) hm)]
theorem NdR.same (k : NestedKey) (v : Value) : ∀ {xs : List (NestedKey × Addr × Value)} {rs : List Rule}, NdR H xs rs → NdR H (xs.map (putAt k v)) rs
  | [], [], _ => trivial
  | [], _ :: _, h => h.elim
  | _ :: _, [], h => h.elim
  | x :: xs, q :: rs, h => by
    refine ⟨?_, ?_, NdR.same k v h.2.2⟩
    · unfold putAt; split <;> exact h.1
    · unfold putAt; split <;> exact h.2.1
def uniR (rs ms : List Rule) : List Rule := ms.foldl (fun acc c => if c ∈ acc then acc else acc ++ [c]) rs
def addR (rs : List Rule) (r : Rule) : List Rule := uniR rs [r]
theorem NdR.put {xs : List (NestedKey × Addr × Value)} {rs : List Rule} {r : Rule} {b : Addr} {v : Value} (h : NdR H xs rs) (hr : rep H (.ref b) r) : NdR H (storedH xs (nkR r) b v) (addR rs r) := by
  unfold storedH
  rw [h.has r]
  by_cases hm : r ∈ rs
  · rw [decide_eq_true hm, show addR rs r = rs from if_pos hm, if_pos rfl]; exact h.same _ _
  · rw [decide_eq_false hm, show addR rs r = rs ++ [r] from if_neg hm, if_neg Bool.false_ne_true]; exact h.app ⟨rfl, hr, trivial⟩
end
theorem dN_ok {P : Program} {w : World} {H : Hp} {h : Heap} {a : Addr} {xs : List (NestedKey × Addr × Value)} (h0 : (a == sysModules) = false) {o : Obj} {es : Array DictEntry} {ep : Nat} (h1 : h.get? a = some o) (h2 : o.ExactDict) (h3 : o.data = .dict es ep) (h4 : es.toList = xs.map (entryOfKey (nestedKind P w))) (h5 : (xs.map (·.1)).Nodup) : ObjOk P w H h a (dN P w a xs) :=
  ⟨⟨h0, o, es, ep, h1, h2, h3, h4, h5⟩, ⟨o, h1⟩, fun g1 g2 ⟨q0, o', es', ep', q1, q⟩ k => ⟨q0, o', es', ep', k _ q1, q⟩⟩
section
variable {X : Cx} {pins : List (Addr × Obj)} {σ : L2.St} {H : Hp} {s : Shared}
theorem dN_get (I : Inv X pins σ H s) {a : Addr} {xs : List (NestedKey × Addr × Value)} {rs : List Rule} (h : H a = some (dN X.prog X.w a xs)) (r : NdR H xs rs) : (a == sysModules) = false ∧ s.heap.DictOfH (nestedKind X.prog X.w) a xs := by
  obtain ⟨h0, o, es, ep, h1, h2, h3, h4, h5⟩ := (show (fun h => _) s.heap from (I.hok a _ h).1)
  refine ⟨h0, o, es, ep, h1, h2, h3, h4, fun x hx => ?_, h5⟩
  obtain ⟨q, e1, e2⟩ := r.mem x hx
  rw [e1]
  exact nested_rule I e2
end
def kNd (T : Tx) : DKind T where
  e0 := fun D => dN T.P T.w D []
  put := fun H D y z H' => ∃ xs rs b r bb, H D = some (dN T.P T.w D xs) ∧ NdR H xs rs ∧ y = .ref b ∧ rep H y r ∧ z = .bl bb ∧ xs.length < sizeLine ∧ H' = upd H D (dN T.P T.w D (storedH xs (nkR r) b (.bool bb)))
  ok0 := fun H h hb => dN_ok (beq_eq_false_iff_ne.mpr (Ne.symm (Nat.ne_of_lt hb))) (Heap.get?_push_size _ rfl) ⟨rfl, rfl, rfl⟩ rfl rfl List.nodup_nil
  set := by
    intro X pins σ H H' s E D y z u r Q hP hw hu I ⟨xs, rs, b, q, bb, hD, hr, ey, hq, ez, hl, eH⟩ ry rz h
    subst ey ez eH
    cases (show u = Value.ref b from ry)
    cases (show r = Value.bool bb from rz)
    rw [← hP, ← hw] at hD h
    obtain ⟨h0, dd⟩ := dN_get I hD hr
    have room : (nestedKind X.prog X.w).room X.A := by show X.A.units + 8 < cLine; omega
    refine wpAny_dictSet_heap (hsz := Nat.le_of_lt hl) room (nested_rule I hq) dd fun h' dd' hs => h _ ?_
    obtain ⟨o, es, ep, h1, h2, h3, h4, _, h5⟩ := dd'
    exact d_write I (by rw [hD]; exact True.intro) hs ⟨o, h1⟩ (dN_ok h0 h1 h2 h3 h4 h5)
theorem src_raw {prog : Program} {w : World} {d : Addr} {es : Array DictEntry} {ep : Nat} (lo : (d == sysModules) = false) : W.KdlSrc prog w "dict" d d es.size (fun i v => ∃ hi : i < es.size, v = es[i].key) (fun h => h.DictRaw d es ep) where
  type := fun _ hm => hm.typeIs
  there := fun _ hm => by
    obtain ⟨o, ho, _⟩ := hm
    exact ⟨Heap.lt_size ho, Heap.lt_size ho⟩
  keep := fun _ _ hm hk => hm.at fun o e => hk d (.inl rfl) o e
  notList := by decide
  notTuple := by decide
  hint := fun _ _ _ _ hm hq => W.kdl_hint_dict hm.typeIs hq
  iter := fun _ s hh hm => by
    have hlt : d < s.heap.objs.size := by obtain ⟨o, ho, _⟩ := hm; exact Heap.lt_size ho
    exact ⟨_, _, (fun _ _ hq => wpAny_pyIter_dict_raw lo hm hq), Walks.rawKeys hh _ d (Nat.ne_of_lt hlt) es ep, ⟨⟨_, Heap.get?_push_size _ rfl, rfl, rfl⟩, hm.at fun o e => Heap.get?_push_of_some _ e⟩⟩
def prs (xs : List (NestedKey × Addr × Value)) (rs : List Rule) : List (V × Rule) := (xs.zip rs).map fun z => (V.ref z.1.2.1, z.2)
theorem prs_rep {H : Hp} : ∀ {xs : List (NestedKey × Addr × Value)} {rs : List Rule}, NdR H xs rs → (∀ b ∈ prs xs rs, rep H b.1 b.2) ∧ (prs xs rs).map (·.2) = rs ∧ (prs xs rs).map (·.1) = xs.map fun x => V.ref x.2.1
  | [], [], _ => ⟨fun _ h => by simp [prs] at h, rfl, rfl⟩
  | [], _ :: _, h => h.elim
  | _ :: _, [], h => h.elim
  | x :: xs, r :: rs, h => by
    obtain ⟨h1, h2, h3⟩ := prs_rep h.2.2
    refine ⟨fun b hb => ?_, congrArg (r :: ·) h2, congrArg (V.ref x.2.1 :: ·) h3⟩
    rcases List.mem_cons.mp hb with e | z
    · rw [e]; exact h.2.1
    · exact h1 b z
theorem vals_refs : ∀ xs : List (NestedKey × Addr × Value), Vals (xs.map fun x => V.ref x.2.1) (xs.map fun x => Value.ref x.2.1)
  | [] => .nil
  | x :: xs => .cons rfl (vals_refs xs)
def rSortN (P : Program) (w : World) : List V → Hp → VK → Prop := fun vs H Q => ∃ (a : Addr) (xs : List (NestedKey × Addr × Value)) (rs : List Rule), vs = [V.ref a] ∧ H a = some (dN P w a xs) ∧ NdR H xs rs ∧ rs.length ≤ 1000 ∧
  W.AllAlike (rs.map Dat.data) ∧ W.Sortable (rs.map Dat.data) ∧ ∀ p, H p = none → Q (.ref p) (upd H p (.lst (((prs xs rs).mergeSort (W.dataLe false fun b => Dat.data b.2)).map (·.1))))
section
variable {X : Cx}
open SrtR Srt W
theorem cr_sortN (hc : X.calm = true) (hu : X.A.units + 64 < cLine) : CallR X (.builtin "sorted") (rSortN X.prog X.w) := by
  intro pins s σ H vs us Q I r h
  obtain ⟨a, xs, rs, rfl, ha, hr, hz, hal, hk, q⟩ := h
  rw [Vals.ref1 r]
  obtain ⟨h0, o, es, ep, h1, h2, h3, h4, _⟩ := dN_get I ha hr
  have hsz : es.size = xs.length := size_of_entries h4
  have hxl := hr.len
  obtain ⟨p1, p2, p3⟩ := prs_rep hr
  refine Calls.call_function_entry kind_sorted plain_sorted entry_sorted (args_sorted1 _) ?_
  unfold Builtin.«sorted»
  refine wpAny_bind (m := checkCount "sorted" 1 1 _) (wpAny_pure ?_)
  refine wpAny_bind (kdu_collect (A := X.A.in1) (src_raw (es := es) (ep := ep) h0) (I.ok.hd hc) ⟨o, h1, h2, h3⟩ (by rw [hsz, hxl, sizeLine_eq]; omega) fun h' tk acc hk' hacc => ?_)
  have hvs : acc.toList = xs.map fun x => Value.ref x.2.1 := by
    apply List.ext_getElem?
    intro j
    rw [Array.getElem?_toList, List.getElem?_map]
    by_cases hj : j < acc.size
    · rw [Array.getElem?_eq_getElem hj]
      obtain ⟨hi, ev⟩ := hacc.2 j _ (Array.getElem?_eq_getElem hj)
      have hjx : j < xs.length := by rw [← hsz]; exact hi
      have e5 : es.toList[j]? = (xs.map (entryOfKey (nestedKind X.prog X.w)))[j]? := by rw [h4]
      rw [Array.getElem?_toList, Array.getElem?_eq_getElem hi, List.getElem?_map, List.getElem?_eq_getElem hjx] at e5
      rw [List.getElem?_eq_getElem hjx, ev, Option.some.inj e5]
      rfl
    · rw [Array.getElem?_eq_none (by omega), List.getElem?_eq_none (by rw [← hsz, ← hacc.1]; omega)]
      rfl
  generalize hL : acc.toList = vs at hvs
  have hvl : vs.length = rs.length := by rw [hvs, List.length_map]; exact hxl
  have hsl : vs.length ≤ sizeLine := by rw [hvl, sizeLine_eq]; omega
  have I1 : Inv X pins σ H { s with heap := h', toks := tk } := I.kept hk'
  refine wpAny_bind (wpAny_newList ?_ hsl)
  have hoL : (h'.push (seqObj "list" vs.toArray 0)).get? h'.objs.size = some (seqObj "list" vs.toArray 0) := Heap.get?_push_size _ rfl
  have old : ∀ b u, s.heap.get? b = some u → (sortingHeap (h'.push (seqObj "list" vs.toArray 0)) h'.objs.size vs).get? b = some u := fun b u e => by
    have q1 := hk' b u e
    exact sortingHeap_old (Nat.ne_of_lt (Heap.lt_size q1)) (Heap.get?_push_of_some _ q1)
  have rv : Vals ((prs xs rs).map (·.1)) vs := by
    rw [p3, hvs]
    exact vals_refs xs
  have e : EachIs (fun u (b : V × Rule) => RelV b.1 u) vs (prs xs rs) := each_of_vals rv fun b _ u z => z
  have er : EachIs (fun u (b : V × Rule) => ∃ as, Reads (sortingHeap (h'.push (seqObj "list" vs.toArray 0)) h'.objs.size vs) u (Dat.data b.2) as) vs (prs xs rs) := each_of_vals (R := fun b u => ∃ as, Reads (sortingHeap (h'.push (seqObj "list" vs.toArray 0)) h'.objs.size vs) u (Dat.data b.2) as) rv fun b hb u z => by
    obtain ⟨as, w1⟩ := Dp.reads I _ _ u (Dat.dp (p1 b hb)) z
    exact ⟨as, PyProof.Rows.Reads.keeps old w1⟩
  have hm : (prs xs rs).map (fun b => Dat.data b.2) = rs.map Dat.data := by
    have z : (prs xs rs).map (fun b => Dat.data b.2) = ((prs xs rs).map (·.2)).map Dat.data := by rw [List.map_map]; rfl
    rw [z, p2]
  have hd : ∀ d ∈ (prs xs rs).map (fun b => Dat.data b.2), X.A.in1.in1.units + d.depth < cLine := fun d hd' => by
    obtain ⟨b, _, rfl⟩ := List.mem_map.mp hd'
    have d1 := Dat.depth b.2
    have d2 : Dat.dep Rule ≤ 60 := by decide
    show X.A.units + 1 + 1 + _ < _
    omega
  have em := each_map (R := fun v d => ∃ as, Reads (sortingHeap (h'.push (seqObj "list" vs.toArray 0)) h'.objs.size vs) v d as) (fun b : V × Rule => Dat.data b.2) er
  have S : SortsAt X.prog X.w X.A.in1.in1 { s with heap := sortingHeap (h'.push (seqObj "list" vs.toArray 0)) h'.objs.size vs, toks := tk } (dataKind (sortingHeap (h'.push (seqObj "list" vs.toArray 0)) h'.objs.size vs) ((prs xs rs).map fun b => Dat.data b.2)) vs :=
    SortsAt.data (s := { s with heap := sortingHeap (h'.push (seqObj "list" vs.toArray 0)) h'.objs.size vs, toks := tk }) em (by rw [hm]; exact hal) (by rw [hm]; exact hk) hd
  have eo := sortVals_data (R := fun u (b : V × Rule) => RelV b.1 u) (enc := fun b : V × Rule => Dat.data b.2) false e er (by rw [hm]; exact hal)
  refine wpAny_bind (wpAny_holding (wpAny_call_entry slot_list_sort ⟨_, hoL, rfl⟩ entry_list_sort (list_sort_vals (s := { s with heap := h'.push (seqObj "list" vs.toArray 0), toks := tk }) hoL S hsl ⟨.none, rfl, ?_⟩) (args_list_sort _)))
  generalize sortVals (dataKind (sortingHeap (h'.push (seqObj "list" vs.toArray 0)) h'.objs.size vs) ((prs xs rs).map fun b => Dat.data b.2)) false vs vs = out at eo
  obtain ⟨c, hc'⟩ := sortedHeap_at (vs := vs) (out := out.toArray) hoL
  have hl2 : (((prs xs rs).mergeSort (dataLe false fun b => Dat.data b.2)).map (·.1)).length ≤ sizeLine := by
    have e1 : (prs xs rs).length = vs.length := by rw [← rv.length, List.length_map]
    rw [List.length_map, (List.mergeSort_perm _ _).length_eq, e1]; exact hsl
  refine wpAny_pure ⟨_, rfl, .ref _, upd H h'.objs.size (.lst _), I1.laid (t' := tk) (fun b u q2 => ?_) (Nat.le_refl _) ⟨hl2, out, c, vals_of_each eo, hc'⟩, rfl, q _ (I1.hok.fresh (Nat.le_refl _))⟩
  have hlt := Heap.lt_size q2
  show (sortedHeap (h'.push (seqObj "list" vs.toArray 0)) h'.objs.size vs out.toArray).get? b = some u
  rw [sortedHeap_old (Nat.ne_of_lt hlt) (by rw [size_push']; exact Nat.lt_succ_of_lt hlt)]
  exact Heap.get?_push_of_some _ q2
end
end Mk
-- MkSt
namespace MkS
open PySem PySem.Spec PyProof.Rows L2 PySem.Froz
structure TS (P : Program) (w : World) (h : Heap) (a : Addr) (l : List Str) : Prop where
  ex : ∃ D : SD, h.get? a = some (sObj "set" D) ∧ TxOk P w D l ∧ Ris D.2.2.place.toList ∧ (w.params.followText "set-order" = true ∨ D.2.2.led = true)
theorem TS.at {P : Program} {w : World} {h h' : Heap} {a : Addr} {l : List Str} (x : TS P w h a l) (k : ∀ o, h.get? a = some o → h'.get? a = some o) : TS P w h' a l := by
  obtain ⟨D, h1, r⟩ := x.ex
  exact ⟨D, k _ h1, r⟩
theorem add_table {h : Int} {v : Value} {D : SD} (r : Ris D.2.2.place.toList) : Ris (addTx h v D).2.2.place.toList ∧ (addTx h v D).2.2.led = D.2.2.led := by
  obtain ⟨es, ep, t⟩ := D
  have r1 := layNew_ris t es h v r
  have l1 := layNew_led t es h v
  show Ris (tailTx ep (layNew t es h v).1 (if (layNew t es h v).2.1.plain = true then { (layNew t es h v).2.1 with plain := false } else (layNew t es h v).2.1) (layNew t es h v).2.2.1).2.2.place.toList ∧
    (tailTx ep (layNew t es h v).1 (if (layNew t es h v).2.1.plain = true then { (layNew t es h v).2.1 with plain := false } else (layNew t es h v).2.1) (layNew t es h v).2.2.1).2.2.led = t.led
  generalize hT : (if (layNew t es h v).2.1.plain = true then { (layNew t es h v).2.1 with plain := false } else (layNew t es h v).2.1) = T
  have rT : Ris T.place.toList ∧ T.led = t.led := by
    rw [← hT]
    split
    · exact ⟨r1, l1⟩
    · exact ⟨r1, l1⟩
  unfold tailTx
  split
  · exact ⟨relayAll_ris _ _ _, (relayAll_led _ _ _).trans rT.2⟩
  · exact rT
section
variable {P : Program} {w : World} {A : Around} {E : Value → Shared → Prop} {s : Shared} {a : Addr} {l : List Str} {k : Str} {u : Tok}
theorem dup_x {D : SD} {Q : Bool → Shared → Prop} (ho : s.heap.get? a = some (sObj "set" D)) (F : TxOk P w D l) (hk : k ∈ l) (hb : l.length < scanBound) (h : Q false s) : wpAny (model P w) A (setAddHashed a (.str k u) (hashStr w k)) Q E s := by
  obtain ⟨es, ep, t⟩ := D
  have hd : (sObj "set" (es, ep, t)).data = .set es ep t := rfl
  have hf : t.fits es.size = true := F.fit
  have hel : ElemsOf (strKind P w) es.toList := F.el
  have hsz : es.size = l.length := F.sz
  have hkey : (strKind P w).is k (.str k u) = true := is_str k u
  obtain ⟨e, he, hke⟩ := (F.mem k).mp hk
  have hsome : ∃ j, List.findIdx? (fun e => (strKind P w).is k e.2) es.toList = some j := by
    cases hr : List.findIdx? (fun e => (strKind P w).is k e.2) es.toList with
    | some j => exact ⟨j, rfl⟩
    | none =>
      have c := List.findIdx?_eq_none_iff.mp hr e he
      rw [hke] at c
      cases c
  obtain ⟨j, hj⟩ := hsome
  unfold setAddHashed setAddHashedIn
  refine wpAny_holding (wpAny_bind (wpAny_setState_of ho hd hf ?_))
  dsimp only
  rw [byScan_of rfl (by rw [hsz]; exact hb) hel]
  simp only [↓reduceIte]
  unfold setAddByScan
  refine wpAny_bind ?_
  refine wpAny_bind (wpAny_rule ?_)
  refine wpAny_bind (wpAny_setScan_of (knd := strKind P w) (k := k) hkey ho hd hf hel ?_)
  rw [hj]
  dsimp only
  refine wpAny_pure ?_
  exact wpAny_pure h
def met1 (l : List Str) (k : Str) : List Str := if k ∈ l then l else k :: l
theorem add_t {Q : Bool → Shared → Prop} (S : TS P w s.heap a l) (hb : l.length + 1 < scanBound) (h : ∀ h' b, Heap.SameBut a s.heap h' → TS P w h' a (met1 l k) → Q b { s with heap := h' }) : wpAny (model P w) A (setAddHashed a (.str k u) (hashStr w k)) Q E s := by
  obtain ⟨D, ho, F, r, hl⟩ := S.ex
  by_cases hk : k ∈ l
  · refine dup_x ho F hk (by omega) ?_
    exact h s.heap false (Heap.SameBut.refl _ _) (by unfold met1; rw [if_pos hk]; exact S)
  · refine add_x ho F hk hb ?_
    have q := add_table (h := hashStr w k) (v := .str k u) r
    refine h _ true (Heap.SameBut.update ..) ?_
    unfold met1
    rw [if_neg hk]
    exact ⟨_, get_upd _ ho rfl, add_ok u F, q.1, hl.imp id fun z => q.2.trans z⟩
end
def metL (xs : List Str) : List Str := xs.foldl met1 []
theorem met1_len (l : List Str) (k : Str) : (met1 l k).length ≤ l.length + 1 := by
  unfold met1; split
  · omega
  · rw [List.length_cons]; omega
theorem mem_met1 {l : List Str} {k c : Str} : c ∈ met1 l k ↔ c ∈ l ∨ c = k := by
  unfold met1; split
  · rename_i h
    exact ⟨.inl, fun z => z.elim id fun e => e ▸ h⟩
  · rw [List.mem_cons]; exact Or.comm
theorem metL_len : ∀ (xs l : List Str), (xs.foldl met1 l).length ≤ l.length + xs.length
  | [], l => Nat.le_refl _
  | x :: xs, l => by
    have h1 := metL_len xs (met1 l x)
    have h2 := met1_len l x
    rw [List.foldl_cons, List.length_cons]
    omega
theorem mem_metL {c : Str} : ∀ {xs l : List Str}, c ∈ xs.foldl met1 l ↔ c ∈ l ∨ c ∈ xs
  | [], l => by simp
  | x :: xs, l => by
    rw [List.foldl_cons, mem_metL (xs := xs), mem_met1, List.mem_cons, or_assoc]
theorem met1_nodup {l : List Str} {k : Str} (h : l.Nodup) : (met1 l k).Nodup := by
  unfold met1; split
  · exact h
  · rename_i hk
    exact List.nodup_cons.mpr ⟨hk, h⟩
theorem metL_nodup : ∀ {xs l : List Str}, l.Nodup → (xs.foldl met1 l).Nodup
  | [], _, h => h
  | x :: xs, l, h => by rw [List.foldl_cons]; exact metL_nodup (met1_nodup h)
section
variable {prog : Program} {w : World} {A : Around} {R : Result → Shared → Prop} {I : Addr} {fp wr : List Addr} {G : Array GenState → Array GenState → Prop} {n : Nat} {P : Nat → Value → Prop} {St : Nat → Shared → Prop}
theorem code_upd (W : WalksS prog w A.in1 I fp wr G n P St) (S : Addr) (hSf : S ∉ fp) (xs : List Str) (hn : n = xs.length) (hval : ∀ i v, P i v → ∃ x t, xs[i]? = some x ∧ v = .str x t) (hb : n + 1 < scanBound) :
    ∀ (k i : Nat) (s : Shared), n - i = k → i ≤ n → St i s → TS prog w s.heap S (metL (xs.take i)) →
      (∀ s', Moved (S :: wr) G s s' → TS prog w s'.heap S (metL xs) → R (.ok (.ret .none)) s') → codeAny (model prog w) A (.builtin "set.update.loop" ⟨[.ref S, .ref I], []⟩) R s := by
  have hSw : S ∉ wr := fun h => hSf (W.sub _ h)
  have up : ∀ b ∈ wr, b ∈ S :: wr := fun b hb => List.mem_cons_of_mem _ hb
  intro k
  induction k with
  | zero =>
    intro i s hk hi hst hS hR
    have hin : i = n := by omega
    subst hin
    refine codeAny_builtin F.entry_set_update_loop ?_
    rw [Around.under_plainId F.plain_set_update_loop _]
    show wpAny _ A.in1 (pyNext (.ref I) >>= _) _ _ s
    refine wpAny_bind (W.done s _ _ hst fun s' hm => ?_)
    show wpAny _ A.in1 (ret Value.none) _ _ s'
    refine wpAny_pure (hR s' (hm.mono up) ?_)
    rw [hn, List.take_length] at hS
    exact hS.at fun o e => hm.heap S _ hSw e
  | succ k ih =>
    intro i s hk hi hst hS hR
    have hlt : i < n := by omega
    refine codeAny_builtin F.entry_set_update_loop ?_
    rw [Around.under_plainId F.plain_set_update_loop _]
    show wpAny _ A.in1 (pyNext (.ref I) >>= _) _ _ s
    refine wpAny_bind (W.item i s _ _ hlt hst fun v s' hP hst' hm => ?_)
    obtain ⟨x, t, hx, rfl⟩ := hval i v hP
    have hS' : TS prog w s'.heap S (metL (xs.take i)) := hS.at fun o e => hm.heap S _ hSw e
    show wpAny _ A.in1 (holding [Value.str x t] (setAdd S (.str x t)) >>= _) _ _ s'
    refine wpAny_bind (wpAny_holding ?_)
    unfold setAdd
    refine wpAny_holding ?_
    refine wpAny_bind ((strKind prog w).pyHash (k := x) (is_str _ _) ?_)
    have hroom : (metL (xs.take i)).length + 1 < scanBound := by
      have h1 := metL_len (xs.take i) []
      rw [List.length_take, List.length_nil] at h1
      show (List.foldl met1 [] (xs.take i)).length + 1 < _
      omega
    refine add_t (s := { s' with toks := s'.toks + 1 }) hS' hroom fun h' b sb hS2 => ?_
    have e1 : metL (xs.take (i + 1)) = met1 (metL (xs.take i)) x := by
      unfold metL
      rw [List.take_add_one, hx, List.foldl_append]
      rfl
    refine wpAny_pure ⟨plainId_quiet F.plain_set_update_loop _, ih (i + 1) _ (by omega) hlt (W.frame _ s' _ _ hst' (Nat.le_succ _) fun c hc o e => ?_) (by rw [e1]; exact hS2) fun s'' hm'' hS'' => ?_⟩
    · rw [sb.2 c (fun h : c = S => hSf (by rw [← h]; exact hc))]; exact e
    · refine hR s'' (Moved.trans W.gtrans ((hm.mono up).then_heap (Nat.le_succ _) fun c o hc e => ?_) hm'') hS''
      rw [sb.2 c (fun h : c = S => hc (by rw [h]; exact List.mem_cons_self))]; exact e
end
theorem ts_fresh {P : Program} {h : Heap} (w : World) : TS P w (h.push { cls := .type "set", dict := none, data := .set #[] 0 (.fresh 0 0 (!w.params.followText "set-order")) }) h.objs.size [] := by
  refine ⟨⟨(#[], 0, .fresh 0 0 (!w.params.followText "set-order")), Heap.get?_push_size _ rfl, TxOk.nil rfl, List.Pairwise.nil, ?_⟩⟩
  show _ ∨ (!w.params.followText "set-order") = true
  cases w.params.followText "set-order"
  · exact .inr rfl
  · exact .inl rfl
end MkS
-- MkSn
namespace MkS
open PySem PySem.Spec PyProof.Rows L2 PySem.Froz
section
variable {prog : Program} {w : World} {A : Around} {E : Value → Shared → Prop} {s : Shared}
abbrev newS (w : World) : Obj := { cls := .type "set", dict := none, data := .set #[] 0 (.fresh 0 0 (!w.params.followText "set-order")) }
theorem code_new (a : Value) {Q1 : Value → Shared → Prop} (h : Q1 (.ref s.heap.objs.size) { s with heap := s.heap.push (newS w) }) :
    codeAny (model prog w) A (.call (.builtin "set.__new__") ⟨[.type "set", a], []⟩) (wants Q1 E) s := by
  refine codeAny_of_tree ?_
  show wpAny _ A.in1 (do checkBuiltinCall "set.__new__" ⟨[.type "set", a], []⟩; again (.builtin "set.__new__" ⟨[.type "set", a], []⟩)) _ _ s
  refine wpAny_bind (wpAny_of_eq (F.newCall_set_1 a) (wpAny_pure ⟨plainId_quiet F.plain_set_new _, codeAny_builtin F.entry_set_new ?_⟩))
  rw [Around.under_plainId F.plain_set_new _]
  unfold Builtin.«set.__new__» Builtin.Frozenset.newClass
  have sub := sub_set_self
  obtain ⟨hp, g, d, tk, os⟩ := s
  dsimp only
  wp_walk
  refine wpAny_askSetting (wpAny_pure ?_)
  dsimp only
  simp only [newObj]
  exact wpAny_bind (wpAny_alloc (wpAny_pure (wpAny_pure h)))
theorem sub_tup_set : isSubtype (.type "tuple") (.type "set") = pure false := by rw [isSubtype_type]; kernel_rfl
theorem sub_tup_froz : isSubtype (.type "tuple") (.type "frozenset") = pure false := by rw [isSubtype_type]; kernel_rfl
set_option maxHeartbeats 3200000 in
theorem set_of_list {l : Addr} {items : Array Value} {xs : List Str} {Q : Value → Shared → Prop} (hh : A.handled = none) (hl : s.heap.IsList l items) (hn : items.size = xs.length) (hi : ∀ (i : Nat) (v : Value), items[i]? = some v → ∃ x t, xs[i]? = some x ∧ v = .str x t) (hb : items.size + 1 < scanBound)
    (h : ∀ (h' : Heap) (tk : Nat), TS prog w h' s.heap.objs.size (metL xs) → (∀ b o, b < s.heap.objs.size → s.heap.get? b = some o → h'.get? b = some o) → Q (.ref s.heap.objs.size) { s with heap := h', toks := tk }) :
    wpAny (model prog w) A (call (.type "set") [.ref l]) Q E s := by
  obtain ⟨c, tl, mro⟩ := F.called_set.mro
  have made := F.called_set.made
  have sub := F.called_set.sub
  refine wpAny_call (codeAny_of_tree ?_)
  show wpAny _ _ (callAny (.type "set") _) _ _ _
  refine wpAny_pure ⟨Code.quiet_builtin _ (by decide +kernel), codeAny_builtin F.entry_type_call ?_⟩
  rw [Around.under_plain (weight_type_call_type "set" [.ref l] []) rfl]
  have q1 := F.called_set.notType
  have q2 := F.called_set.canCreate
  have q3 := F.typeCall_set_1 (.ref l)
  repeat (any_goals (first | assumption | wp_step))
  refine codeAny_mono (code_new (.ref l) (E := E) (Q1 := fun obj s1 => obj = .ref s.heap.objs.size ∧ s1 = { s with heap := s.heap.push (newS w) }) ⟨rfl, rfl⟩) fun r s1 hr => ?_
  cases r with
  | error e => exact hr
  | ok fl =>
    cases fl with
    | ret obj =>
      obtain ⟨rfl, rfl⟩ := hr
      have hS : (s.heap.push (newS w)).get? s.heap.objs.size = some (newS w) := Heap.get?_push_size _ rfl
      have hT : Shared.TypeIs { s with heap := s.heap.push (newS w) } (.ref s.heap.objs.size) "set" := ⟨_, hS, rfl⟩
      have q4 := F.called_set.init.lookup
      have q5 := F.called_set.init.bind (.ref s.heap.objs.size)
      repeat (any_goals (first | assumption | wp_step))
      refine codeAny_mono (codeAny_call_builtin (R := wants (fun r s2 => r = .none ∧ ∃ h' tk, s2 = { s with heap := h', toks := tk } ∧ TS prog w h' s.heap.objs.size (metL xs) ∧ (∀ b o, b < s.heap.objs.size → s.heap.get? b = some o → h'.get? b = some o)) E)
        F.called_set.init.plain F.entry_set_init (check_set_init_1 hT ?_)) fun r2 s2 hr2 => ?_
      · obtain ⟨ol, hol, hcl, nl, hdl⟩ := hl
        obtain ⟨ocls, odict, odata, oslots⟩ := ol
        simp only at hcl hdl
        subst hcl
        subst hdl
        have hol' : (s.heap.push (newS w)).get? l = some { cls := .type "list", dict := odict, data := .seq items nl, slots := oslots } := Heap.get?_push_of_some _ hol
        have q6 := F.sub_list_set
        have q7 := F.sub_list_frozenset
        have q8 : (Value.type "list" == Value.type "dict") = false := by decide
        have hl1 : (s.heap.push (newS w)).IsList l items := ⟨_, hol', rfl, nl, rfl⟩
        unfold Builtin.«set.__init__» noKeywords Builtin.Frozenset.updateFrom
        generalize hPI : pyIter = PI
        wp_walk
        subst hPI
        refine wpAny_pyIter_list hl1 ?_
        refine wpAny_bind (wpAny_runValue ?_)
        have lS : l < s.heap.objs.size := Heap.lt_size hol
        have h3 : A.in1.in1.in1.handled = none := by simp [hh]
        have nI : l ≠ (s.heap.push (newS w)).objs.size := by
          rw [Heap.size_push]; exact Nat.ne_of_lt (Nat.lt_succ_of_lt lS)
        have nS : s.heap.objs.size ∉ [(s.heap.push (newS w)).objs.size, l] := by
          rw [Heap.size_push]
          simp only [List.mem_cons, List.mem_singleton, List.not_mem_nil, or_false, not_or]
          exact ⟨Nat.ne_of_lt (Nat.lt_succ_self _), Nat.ne_of_gt lS⟩
        refine code_upd ((Walks.list h3 _ l nI items).toS) s.heap.objs.size nS xs hn hi hb (items.size - 0) 0 _ (by omega) (Nat.zero_le _) ⟨⟨_, Heap.get?_push_size _ rfl, rfl, rfl⟩, (hl1.push _)⟩ ?hS0 ?hR
        case hS0 =>
          rw [List.take_zero]
          exact (ts_fresh w).at fun o e => Heap.get?_push_of_some _ e
        case hR =>
          intro s' hm hS'
          obtain ⟨h', g', d', tk', os'⟩ := s'
          have eg : g' = s.gens := hm.gens
          have ed : d' = s.drawn := hm.drawn
          have eo : os' = s.os := hm.os
          subst eg
          subst ed
          subst eo
          show wpAny _ _ _ _ _ _
          refine wpAny_pure ?_
          show wpAny _ _ (ret Value.none) _ _ _
          refine wpAny_pure ⟨rfl, h', tk', rfl, hS', fun b o hb e => ?_⟩
          have n1 : b ≠ s.heap.objs.size := Nat.ne_of_lt hb
          have n2 : b ≠ (s.heap.push (newS w)).objs.size := by
            rw [Heap.size_push]; exact Nat.ne_of_lt (Nat.lt_succ_of_lt hb)
          exact hm.heap b o (by simp only [List.mem_cons, List.mem_singleton, List.not_mem_nil, or_false, not_or]; exact ⟨n1, n2⟩) (Heap.get?_push_of_some _ (Heap.get?_push_of_some _ e))
      · cases r2 with
        | error e => exact hr2
        | ok fl2 =>
          cases fl2 with
          | ret r =>
            obtain ⟨rfl, h', tk, rfl, hS', hk'⟩ := hr2
            repeat (any_goals (first | assumption | wp_step))
            exact h _ _ hS' hk'
          | _ => exact hr2.elim
    | _ => exact hr.elim
set_option maxHeartbeats 3200000 in
theorem set_of_tuple {l : Addr} {items : Array Value} {xs : List Str} {Q : Value → Shared → Prop} (hh : A.handled = none) (hl : s.heap.IsTuple l items) (hn : items.size = xs.length) (hi : ∀ (i : Nat) (v : Value), items[i]? = some v → ∃ x t, xs[i]? = some x ∧ v = .str x t) (hb : items.size + 1 < scanBound)
    (h : ∀ (h' : Heap) (tk : Nat), TS prog w h' s.heap.objs.size (metL xs) → (∀ b o, b < s.heap.objs.size → s.heap.get? b = some o → h'.get? b = some o) → Q (.ref s.heap.objs.size) { s with heap := h', toks := tk }) :
    wpAny (model prog w) A (call (.type "set") [.ref l]) Q E s := by
  obtain ⟨c, tl, mro⟩ := F.called_set.mro
  have made := F.called_set.made
  have sub := F.called_set.sub
  refine wpAny_call (codeAny_of_tree ?_)
  show wpAny _ _ (callAny (.type "set") _) _ _ _
  refine wpAny_pure ⟨Code.quiet_builtin _ (by decide +kernel), codeAny_builtin F.entry_type_call ?_⟩
  rw [Around.under_plain (weight_type_call_type "set" [.ref l] []) rfl]
  have q1 := F.called_set.notType
  have q2 := F.called_set.canCreate
  have q3 := F.typeCall_set_1 (.ref l)
  repeat (any_goals (first | assumption | wp_step))
  refine codeAny_mono (code_new (.ref l) (E := E) (Q1 := fun obj s1 => obj = .ref s.heap.objs.size ∧ s1 = { s with heap := s.heap.push (newS w) }) ⟨rfl, rfl⟩) fun r s1 hr => ?_
  cases r with
  | error e => exact hr
  | ok fl =>
    cases fl with
    | ret obj =>
      obtain ⟨rfl, rfl⟩ := hr
      have hS : (s.heap.push (newS w)).get? s.heap.objs.size = some (newS w) := Heap.get?_push_size _ rfl
      have hT : Shared.TypeIs { s with heap := s.heap.push (newS w) } (.ref s.heap.objs.size) "set" := ⟨_, hS, rfl⟩
      have q4 := F.called_set.init.lookup
      have q5 := F.called_set.init.bind (.ref s.heap.objs.size)
      repeat (any_goals (first | assumption | wp_step))
      refine codeAny_mono (codeAny_call_builtin (R := wants (fun r s2 => r = .none ∧ ∃ h' tk, s2 = { s with heap := h', toks := tk } ∧ TS prog w h' s.heap.objs.size (metL xs) ∧ (∀ b o, b < s.heap.objs.size → s.heap.get? b = some o → h'.get? b = some o)) E)
        F.called_set.init.plain F.entry_set_init (check_set_init_1 hT ?_)) fun r2 s2 hr2 => ?_
      · obtain ⟨ol, hol, hcl, nl, hdl⟩ := hl
        obtain ⟨ocls, odict, odata, oslots⟩ := ol
        simp only at hcl hdl
        subst hcl
        subst hdl
        have hol' : (s.heap.push (newS w)).get? l = some { cls := .type "tuple", dict := odict, data := .seq items nl, slots := oslots } := Heap.get?_push_of_some _ hol
        have q6 := sub_tup_set
        have q7 := sub_tup_froz
        have q8 : (Value.type "tuple" == Value.type "dict") = false := by decide
        have hl1 : (s.heap.push (newS w)).IsTuple l items := ⟨_, hol', rfl, nl, rfl⟩
        unfold Builtin.«set.__init__» noKeywords Builtin.Frozenset.updateFrom
        generalize hPI : pyIter = PI
        wp_walk
        subst hPI
        refine wpAny_pyIter_tuple hl1 ?_
        refine wpAny_bind (wpAny_runValue ?_)
        have lS : l < s.heap.objs.size := Heap.lt_size hol
        have h3 : A.in1.in1.in1.handled = none := by simp [hh]
        have nI : l ≠ (s.heap.push (newS w)).objs.size := by
          rw [Heap.size_push]; exact Nat.ne_of_lt (Nat.lt_succ_of_lt lS)
        have nS : s.heap.objs.size ∉ [(s.heap.push (newS w)).objs.size, l] := by
          rw [Heap.size_push]
          simp only [List.mem_cons, List.mem_singleton, List.not_mem_nil, or_false, not_or]
          exact ⟨Nat.ne_of_lt (Nat.lt_succ_self _), Nat.ne_of_gt lS⟩
        refine code_upd ((Walks.tuple h3 _ l nI items).toS) s.heap.objs.size nS xs hn hi hb (items.size - 0) 0 _ (by omega) (Nat.zero_le _) ⟨⟨_, Heap.get?_push_size _ rfl, rfl, rfl⟩, (hl1.push _)⟩ ?hS0 ?hR
        case hS0 =>
          rw [List.take_zero]
          exact (ts_fresh w).at fun o e => Heap.get?_push_of_some _ e
        case hR =>
          intro s' hm hS'
          obtain ⟨h', g', d', tk', os'⟩ := s'
          have eg : g' = s.gens := hm.gens
          have ed : d' = s.drawn := hm.drawn
          have eo : os' = s.os := hm.os
          subst eg
          subst ed
          subst eo
          show wpAny _ _ _ _ _ _
          refine wpAny_pure ?_
          show wpAny _ _ (ret Value.none) _ _ _
          refine wpAny_pure ⟨rfl, h', tk', rfl, hS', fun b o hb e => ?_⟩
          have n1 : b ≠ s.heap.objs.size := Nat.ne_of_lt hb
          have n2 : b ≠ (s.heap.push (newS w)).objs.size := by
            rw [Heap.size_push]; exact Nat.ne_of_lt (Nat.lt_succ_of_lt hb)
          exact hm.heap b o (by simp only [List.mem_cons, List.mem_singleton, List.not_mem_nil, or_false, not_or]; exact ⟨n1, n2⟩) (Heap.get?_push_of_some _ (Heap.get?_push_of_some _ e))
      · cases r2 with
        | error e => exact hr2
        | ok fl2 =>
          cases fl2 with
          | ret r =>
            obtain ⟨rfl, h', tk, rfl, hS', hk'⟩ := hr2
            repeat (any_goals (first | assumption | wp_step))
            exact h _ _ hS' hk'
          | _ => exact hr2.elim
    | _ => exact hr.elim
end
end MkS
-- MkMath
namespace Mk
open Im (rep)
open PySem PySem.Spec PyProof.Rows L2
theorem str_ext {a b : Str} (h : a.cps = b.cps) : a = b := by
  cases a; cases b; cases h; rfl
theorem ltN_irrefl (a : Nm) : ¬ ltN a a := List.lt_irrefl a.s.cps.toList
theorem ltN_trans {a b c : Nm} (h1 : ltN a b) (h2 : ltN b c) : ltN a c := List.lt_trans h1 h2
theorem ltN_asymm {a b : Nm} (h1 : ltN a b) : ¬ ltN b a := fun h2 => ltN_irrefl _ (ltN_trans h1 h2)
theorem ltN_tri {a b : Nm} (h1 : ¬ ltN a b) (h2 : ¬ ltN b a) : a = b := by
  have h := List.le_antisymm (as := a.s.cps.toList) (bs := b.s.cps.toList) (List.not_lt.mp h2) (List.not_lt.mp h1)
  apply Nm.ext
  have e : a.s.cps = b.s.cps := Array.toList_inj.mp h
  exact str_ext e
theorem asc_nodup {cs : List Nm} (h : cs.Pairwise ltN) : cs.Nodup := h.imp fun {a b} l (e : a = b) => ltN_irrefl a (by rw [← e] at l; exact l)
theorem asc_sub {cs ds : List Nm} (h : cs.Pairwise ltN) (s : ds.Sublist cs) : ds.Pairwise ltN := h.sublist s
theorem asc_ext {xs ys : List Nm} (h1 : xs.Pairwise ltN) (h2 : ys.Pairwise ltN) (h : ∀ c, c ∈ xs ↔ c ∈ ys) : xs = ys := by
  have p : xs.Perm ys := (List.perm_ext_iff_of_nodup (asc_nodup h1) (asc_nodup h2)).mpr h
  exact p.eq_of_pairwise (fun a b _ _ l1 l2 => absurd l2 (ltN_asymm l1)) h1 h2
theorem asc_filter {cs xs : List Nm} (h1 : cs.Pairwise ltN) (h2 : xs.Pairwise ltN) (h : ∀ c ∈ xs, c ∈ cs) : xs = cs.filter fun c => decide (c ∈ xs) :=
  asc_ext h2 (h1.filter _) fun c => by
    rw [List.mem_filter, decide_eq_true_eq]
    exact ⟨fun z => ⟨h c z, z⟩, fun z => z.2⟩
theorem Cols.sub {cs ds : List Nm} (h : Cols cs) (s : ds.Sublist cs) : Cols ds := ⟨asc_sub h.asc s, Nat.le_trans s.length_le h.len⟩
theorem Cols.filter {cs : List Nm} (h : Cols cs) (p : Nm → Bool) : Cols (cs.filter p) := h.sub List.filter_sublist
theorem rising_pair : ∀ {l : List Str} {p : Str}, risingS p l = true → (p :: l).Pairwise (fun a b => ¬ b.cps.toList < a.cps.toList)
  | [], p, _ => by simp
  | x :: r, p, h => by
    have h' : (!Spec.ltCps x.cps.toList p.cps.toList && risingS x r) = true := h
    rw [Bool.and_eq_true] at h'
    have h1 : ¬ x.cps.toList < p.cps.toList := by
      have := h'.1
      rw [PyProof.Rows.ltCps_eq] at this
      simpa using this
    have h2 := rising_pair h'.2
    refine List.pairwise_cons.mpr ⟨fun y hy => ?_, h2⟩
    rcases List.mem_cons.mp hy with rfl | hy
    · exact h1
    · have h3 := (List.pairwise_cons.mp h2).1 y hy
      exact List.not_lt.mpr (List.le_trans (List.not_lt.mp h1) (List.not_lt.mp h3))
theorem sorted_pair {l : List Str} (h : sortedS l = true) : l.Pairwise (fun a b => ¬ b.cps.toList < a.cps.toList) := by
  cases l with
  | nil => simp
  | cons x r => exact rising_pair h
theorem sorted_names {ys : List Str} {xs : List Nm} (p : ys.Perm (xs.map Nm.s)) (h : sortedS ys = true) (ha : xs.Pairwise ltN) : ys = xs.map Nm.s := by
  refine p.eq_of_pairwise (le := fun a b => ¬ b.cps.toList < a.cps.toList) (fun a b _ _ l1 l2 => ?_) (sorted_pair h) ?_
  · have := List.le_antisymm (List.not_lt.mp l1) (List.not_lt.mp l2)
    exact str_ext (Array.toList_inj.mp this)
  · rw [List.pairwise_map]
    exact ha.imp fun {a b} l => ltN_asymm (a := a) (b := b) l
def uni (ks ms : List Nm) : List Nm := ms.foldl (fun acc c => if c ∈ acc then acc else acc ++ [c]) ks
theorem kS_app (a b : List Nm) : kS (a ++ b) = kS a ++ kS b := List.map_append
theorem putS_kS (ks : List Nm) (c : Nm) : putS (kS ks) c.s true = kS (if c ∈ ks then ks else ks ++ [c]) := by
  have e : ((kS ks).any fun p => decide (p.1 = c.s)) = decide (c ∈ ks) := by
    rw [← kS_mem, List.any_eq]
    congr 1
    simp only [decide_eq_true_eq, List.mem_map]
  unfold putS
  rw [e]
  by_cases h : c ∈ ks
  · rw [if_pos (decide_eq_true h), if_pos h]
    unfold kS
    rw [List.map_map]
    refine List.map_congr_left fun n _ => ?_
    show (if n.s = c.s then (n.s, true) else (n.s, true)) = (n.s, true)
    split <;> rfl
  · rw [if_neg (by simpa using h), if_neg h, kS_app]
    rfl
theorem putAll_kS : ∀ (ms ks : List Nm), putAll (kS ks) (kS ms) = kS (uni ks ms)
  | [], ks => rfl
  | m :: ms, ks => by
    show putAll (putS (kS ks) m.s true) (kS ms) = kS (uni _ ms)
    rw [putS_kS]
    exact putAll_kS ms _
theorem mem_uni {c : Nm} : ∀ {ms ks : List Nm}, c ∈ uni ks ms ↔ c ∈ ks ∨ c ∈ ms
  | [], ks => by simp [uni]
  | m :: ms, ks => by
    show c ∈ uni (if m ∈ ks then ks else ks ++ [m]) ms ↔ _
    rw [mem_uni]
    by_cases h : m ∈ ks
    · rw [if_pos h, List.mem_cons]
      constructor
      · rintro (z | z)
        · exact .inl z
        · exact .inr (.inr z)
      · rintro (z | rfl | z)
        · exact .inl z
        · exact .inl h
        · exact .inr z
    · rw [if_neg h, List.mem_append, List.mem_singleton, List.mem_cons, or_assoc]
theorem nodup_uni : ∀ {ms ks : List Nm}, ks.Nodup → (uni ks ms).Nodup
  | [], ks, h => h
  | m :: ms, ks, h => by
    refine nodup_uni (ms := ms) ?_
    show (if m ∈ ks then ks else ks ++ [m]).Nodup
    split
    · exact h
    · rename_i hm
      rw [List.nodup_append]
      exact ⟨h, by simp, fun a ha b hb => by rw [List.mem_singleton.mp hb]; rintro rfl; exact hm ha⟩
theorem uni_app : ∀ (ms ks : List Nm), ∃ ex, uni ks ms = ks ++ ex
  | [], ks => ⟨[], by simp [uni]⟩
  | m :: ms, ks => by
    show ∃ ex, uni (if m ∈ ks then ks else ks ++ [m]) ms = ks ++ ex
    split
    · exact uni_app ms ks
    · obtain ⟨ex, e⟩ := uni_app ms (ks ++ [m])
      exact ⟨m :: ex, by rw [e, List.append_assoc]; rfl⟩
theorem uni_len (ms ks : List Nm) : ks.length ≤ (uni ks ms).length := by
  obtain ⟨ex, e⟩ := uni_app ms ks
  rw [e, List.length_append]; omega
theorem uni_same {ms ks : List Nm} (h : (uni ks ms).length = ks.length) : uni ks ms = ks := by
  obtain ⟨ex, e⟩ := uni_app ms ks
  rw [e, List.length_append] at h
  have : ex = [] := List.length_eq_zero_iff.mp (by omega)
  rw [e, this, List.append_nil]
theorem uni_lt {ms ks : List Nm} {c : Nm} (h : c ∈ ms) (hn : c ∉ ks) : ks.length < (uni ks ms).length := by
  have h1 := uni_len ms ks
  rcases Nat.lt_or_ge ks.length (uni ks ms).length with z | z
  · exact z
  · have e := uni_same (ms := ms) (ks := ks) (by omega)
    exact absurd (e ▸ mem_uni.mpr (.inr h)) hn
theorem nodup_sub_len : ∀ {a b : List Nm}, a.Nodup → (∀ c ∈ a, c ∈ b) → a.length ≤ b.length
  | [], b, _, _ => Nat.zero_le _
  | x :: a, b, h, s => by
    obtain ⟨h1, h2⟩ := List.nodup_cons.mp h
    have hx : x ∈ b := s x List.mem_cons_self
    have key : ∀ c ∈ a, c ∈ b.erase x := fun c hc => by
      refine (List.mem_erase_of_ne ?_).mpr (s c (List.mem_cons_of_mem _ hc))
      rintro rfl
      exact h1 hc
    have := nodup_sub_len h2 key
    rw [List.length_erase_of_mem hx] at this
    have hp : 0 < b.length := List.length_pos_of_mem hx
    rw [List.length_cons]
    omega
theorem within_iff {a b : List Nm} : within a b = true ↔ ∀ c ∈ a, c ∈ b := by
  unfold within
  simp [List.all_eq_true]
def InCl (rs : List Rule) (xs : List Nm) (c : Nm) : Prop := ∀ S : Nm → Prop, (∀ x ∈ xs, S x) → (∀ r ∈ rs, (∀ x ∈ r.1, S x) → ∀ x ∈ r.2, S x) → S c
noncomputable def Cl (cs : List Nm) (rs : List Rule) (xs : List Nm) : List Nm := by
  classical
  exact cs.filter fun c => decide (InCl rs xs c)
theorem mem_Cl {cs : List Nm} {rs : List Rule} {xs : List Nm} {c : Nm} : c ∈ Cl cs rs xs ↔ c ∈ cs ∧ InCl rs xs c := by
  classical
  unfold Cl
  rw [List.mem_filter, decide_eq_true_eq]
theorem Cl_sub {cs : List Nm} {rs : List Rule} {xs : List Nm} : (Cl cs rs xs).Sublist cs := by
  classical
  unfold Cl
  exact List.filter_sublist
theorem InCl.base {rs : List Rule} {xs : List Nm} {c : Nm} (h : c ∈ xs) : InCl rs xs c := fun S h1 _ => h1 c h
theorem InCl.step {rs : List Rule} {xs : List Nm} {r : Rule} {c : Nm} (hr : r ∈ rs) (hl : ∀ x ∈ r.1, InCl rs xs x) (hc : c ∈ r.2) : InCl rs xs c := fun S h1 h2 => h2 r hr (fun x hx => hl x hx S h1 h2) c hc
theorem closedB_iff {rs : List Rule} {xs : List Nm} : closedB rs xs = true ↔ ∀ r ∈ rs, (∀ c ∈ r.1, c ∈ xs) → ∀ c ∈ r.2, c ∈ xs := by
  unfold closedB
  simp only [List.all_eq_true, Bool.or_eq_true, Bool.not_eq_true', Bool.eq_false_iff, ne_eq, within_iff]
  constructor
  · intro h r hr h1
    rcases h r hr with z | z
    · exact absurd h1 z
    · exact z
  · intro h r hr
    by_cases h1 : ∀ c ∈ r.1, c ∈ xs
    · exact .inr (h r hr h1)
    · exact .inl h1
theorem Cl_found {cs : List Nm} {rs : List Rule} {xs ks : List Nm} (hcs : cs.Pairwise ltN) (h1 : ∀ c ∈ xs, c ∈ ks) (h2 : ∀ c ∈ ks, c ∈ cs ∧ InCl rs xs c) (h3 : closedB rs ks = true) : ∀ c, c ∈ Cl cs rs xs ↔ c ∈ ks := fun c => by
  rw [mem_Cl]
  exact ⟨fun ⟨_, z⟩ => z (· ∈ ks) h1 (closedB_iff.mp h3), h2 c⟩
end Mk
-- MkSs
namespace MkS
open PySem PySem.Spec PyProof.Rows L2 PySem.Froz PySem.W
def TSO (P : Program) (w : World) (a : Addr) (l : List Str) : HO := .ext fun h => TS P w h a l
section
variable {X : Cx}
theorem tso_new {P : Program} {w : World} {H : Hp} {h : Heap} {a : Addr} {l : List Str} (S : TS P w h a l) : ObjOk P w H h a (TSO P w a l) := by
  obtain ⟨D, h1, r⟩ := id S.ex
  exact ⟨S, ⟨_, h1⟩, fun h1 h2 p k => p.at k⟩
def rSetT (K : PySem.W.Frag) (P : Program) (w : World) : List V → Hp → VK → Prop := fun vs H Q => ∃ (l : Addr) (xs : List Str), vs = [V.ref l] ∧ (SqL K H l (xs.map V.str) ∨ SqT K H l (xs.map V.str)) ∧ xs.length ≤ 1000 ∧
  ∀ p, H p = none → Q (.ref p) (upd H p (TSO P w p (metL xs)))
theorem vals_str {xs : List Str} {us : List Value} (r : Vals (xs.map V.str) us) (i : Nat) (v : Value) (h : us[i]? = some v) : ∃ x t, xs[i]? = some x ∧ v = .str x t := by
  have hlt := (List.getElem?_eq_some_iff.mp h).1
  have hl := r.length
  rw [List.length_map] at hl
  have e : (xs.map V.str)[i]? = some (V.str (xs[i]'(by omega))) := by rw [List.getElem?_map, List.getElem?_eq_getElem (by omega)]; rfl
  obtain ⟨u, hu, ru⟩ := r.get e
  rw [h] at hu
  cases hu
  obtain ⟨t, rfl⟩ := ru
  exact ⟨_, t, List.getElem?_eq_getElem (by omega), rfl⟩
theorem cr_setT (hc : X.calm = true) : CallR X (.type "set") (rSetT X.K X.prog X.w) := by
  intro pins s σ H vs us Q I r h
  obtain ⟨l, xs, rfl, hq, hz, q⟩ := h
  rw [Vals.ref1 r]
  have fin : ∀ (h' : Heap) (tk : Nat), TS X.prog X.w h' s.heap.objs.size (metL xs) → (∀ b o, b < s.heap.objs.size → s.heap.get? b = some o → h'.get? b = some o) → EP X pins σ Q (.ref s.heap.objs.size) { s with heap := h', toks := tk } := fun h' tk S k =>
    ⟨.ref _, upd H s.heap.objs.size (TSO X.prog X.w s.heap.objs.size (metL xs)), I.laid (t' := tk) (fun b o e => k b o (Heap.lt_size e) e) (Nat.le_refl _) (tso_new S), rfl, q _ (I.hok.fresh (Nat.le_refl _))⟩
  rcases hq with hq | hq
  · obtain ⟨its, rv, pl, _⟩ := I.list hq
    have hl : its.toArray.size = xs.length := by rw [List.size_toArray, ← rv.length, List.length_map]
    exact set_of_list (I.ok.hd hc) pl.isList hl (fun i v e => vals_str rv i v (by simpa using e)) (by rw [hl]; unfold scanBound; omega) fin
  · obtain ⟨its, rv, pl, _⟩ := I.tuple hq
    have hl : its.toArray.size = xs.length := by rw [List.size_toArray, ← rv.length, List.length_map]
    exact set_of_tuple (I.ok.hd hc) pl hl (fun i v e => vals_str rv i v (by simpa using e)) (by rw [hl]; unfold scanBound; omega) fin
def rLenT (P : Program) (w : World) : List V → Hp → VK → Prop := fun vs H Q => ∃ (a : Addr) (l : List Str), vs = [V.ref a] ∧ H a = some (TSO P w a l) ∧ l.length ≤ 1000 ∧ Q (.int l.length) H
theorem cr_lenT : CallR X (.builtin "len") (rLenT X.prog X.w) := by
  intro pins s σ H vs us Q I r h
  obtain ⟨a, l, rfl, ha, hz, q⟩ := h
  rw [Vals.ref1 r]
  obtain ⟨D, ho, F, _⟩ := (show TS X.prog X.w s.heap a l from (I.hok a _ ha).1).ex
  obtain ⟨es, ep, t⟩ := D
  have hsz : es.size = l.length := F.sz
  have hf : t.fits es.size = true := F.fit
  exact call_len_set (es := es) ho ⟨rfl, rfl, rfl⟩ rfl hf (by rw [hsz]; omega) ⟨.int l.length, H, I.tok _, ⟨_, by rw [hsz]⟩, q⟩
def texOf : Value → Str
  | .str x _ => x
  | _ => ⟨#[]⟩
theorem isStr_of {P : Program} {w : World} {k : Str} {v : Value} (h : (strKind P w).is k v = true) : ∃ t, v = .str k t := by
  have h : Value.isStrOf k v = true := h
  cases v with
  | str x t =>
    refine ⟨t, ?_⟩
    have e : x = k := by simpa [Value.isStrOf] using h
    rw [e]
  | _ => simp [Value.isStrOf] at h
theorem perm_of_same : ∀ {l xs : List Str}, l.Nodup → xs.length = l.length → (∀ x ∈ l, x ∈ xs) → xs.Perm l
  | [], xs, _, h, _ => by rw [List.length_eq_zero_iff.mp h]
  | a :: l, xs, hn, h, hs => by
    obtain ⟨n1, n2⟩ := List.nodup_cons.mp hn
    have ha := hs a List.mem_cons_self
    have p := List.perm_cons_erase ha
    have hl : (xs.erase a).length = l.length := by
      have := p.length_eq
      rw [List.length_cons] at this h
      omega
    refine p.trans (List.Perm.cons a (perm_of_same n2 hl fun x hx => ?_))
    rcases List.mem_cons.mp (p.mem_iff.mp (hs x (List.mem_cons_of_mem _ hx))) with e | z
    · exact absurd (e ▸ hx) n1
    · exact z
theorem each_tex : ∀ {vs : List Value}, (∀ v ∈ vs, ∃ x t, v = Value.str x t) → EachIs (fun v (x : Str) => ∃ t, v = Value.str x t) vs (vs.map texOf)
  | [], _ => .nil
  | v :: vs, h => by
    obtain ⟨x, t, e⟩ := h v List.mem_cons_self
    exact .cons ⟨t, by rw [e]; rfl⟩ (each_tex fun w hw => h w (List.mem_cons_of_mem _ hw))
theorem vals_tex : ∀ {ys : List Str} {us : List Value}, EachIs (fun v (x : Str) => ∃ t, v = Value.str x t) us ys → Vals (ys.map V.str) us
  | _, _, .nil => .nil
  | _, _, .cons h t => .cons h (vals_tex t)
theorem dataLe_total (a b : Str) : (dataLe false PyData.str a b || dataLe false PyData.str b a) = true := by
  have e := dataLe_str (fun x : Str => x)
  have e : dataLe false PyData.str = fun a b : Str => decide (a.cps.toList ≤ b.cps.toList) := e
  rw [e]
  rcases List.le_total a.cps.toList b.cps.toList with h | h
  · simp [h]
  · simp [h]
theorem dataLe_trans (a b c : Str) (h1 : dataLe false PyData.str a b = true) (h2 : dataLe false PyData.str b c = true) : dataLe false PyData.str a c = true := by
  have e : dataLe false PyData.str = fun a b : Str => decide (a.cps.toList ≤ b.cps.toList) := dataLe_str (fun x : Str => x)
  rw [e] at h1 h2 ⊢
  exact decide_eq_true (List.le_trans (of_decide_eq_true h1) (of_decide_eq_true h2))
def leS (a b : Str) : Prop := dataLe false PyData.str a b = true
theorem sorted_le (xs : List Str) : (xs.mergeSort (dataLe false PyData.str)).Pairwise leS := List.pairwise_mergeSort dataLe_trans dataLe_total xs
def rSortT (P : Program) (w : World) : List V → Hp → VK → Prop := fun vs H Q => ∃ (a : Addr) (l : List Str), vs = [V.ref a] ∧ H a = some (TSO P w a l) ∧ l.length ≤ 1000 ∧ l.Nodup ∧ (∀ x ∈ l, PyData.strOk x = true) ∧
  ∀ (ys : List Str) (p : Addr), ys.Perm l → ys.Pairwise leS → H p = none → Q (.ref p) (upd H p (.lst (ys.map V.str)))
theorem cr_sortT (hc : X.calm = true) (hu : X.A.units + 64 < cLine) : CallR X (.builtin "sorted") (rSortT X.prog X.w) := by
  intro pins s σ H vs us Q I r h
  obtain ⟨a, l, rfl, ha, hz, hnd, hok, q⟩ := h
  rw [Vals.ref1 r]
  obtain ⟨D, ho, F, ris, hled⟩ := (show TS X.prog X.w s.heap a l from (I.hok a _ ha).1).ex
  obtain ⟨es, ep, t⟩ := D
  have hsz : es.size = l.length := F.sz
  have hf : t.fits es.size = true := F.fit
  have hel : ElemsOf (strKind X.prog X.w) es.toList := F.el
  refine Calls.call_function_entry kind_sorted plain_sorted entry_sorted (args_sorted1 _) ?_
  unfold Builtin.«sorted»
  refine wpAny_bind (m := checkCount "sorted" 1 1 _) (wpAny_pure ?_)
  refine wpAny_bind (collect_set (A := X.A.in1) (I.ok.hd hc) ⟨_, ho, rfl, rfl⟩ hf (by rw [hsz]; unfold scanBound; omega) ris hled fun s1 vs k1 hz1 g1 o1 pm => ?_)
  have hstr : ∀ v ∈ vs, ∃ x t, v = Value.str x t ∧ x ∈ l := fun v hv => by
    obtain ⟨e, he, ev⟩ := List.mem_map.mp (pm.mem_iff.mp hv)
    obtain ⟨⟨k, hk, _⟩, _⟩ := hel e he
    rw [ev] at hk
    obtain ⟨t, et⟩ := isStr_of hk
    exact ⟨k, t, et, (F.mem k).mpr ⟨e, he, by rw [ev]; exact hk⟩⟩
  have hvl : vs.length = l.length := by rw [pm.length_eq, List.length_map, Array.length_toList]; exact hsz
  have hbs : (vs.map texOf).Perm l := by
    refine perm_of_same hnd (by rw [List.length_map, hvl]) ?_
    · intro x hx
      obtain ⟨e, he, hk⟩ := (F.mem x).mp hx
      obtain ⟨t, et⟩ := isStr_of hk
      exact List.mem_map.mpr ⟨e.2, pm.mem_iff.mpr (List.mem_map.mpr ⟨e, he, rfl⟩), by rw [et]; rfl⟩
  have eR : EachIs (fun v (x : Str) => ∃ t, v = Value.str x t) vs (vs.map texOf) := each_tex fun v hv => let ⟨x, t, e, _⟩ := hstr v hv; ⟨x, t, e⟩
  have hsl : vs.length ≤ sizeLine := by rw [hvl, sizeLine_eq]; omega
  refine wpAny_bind (wpAny_newList ?_ hsl)
  have hoL : (s1.heap.push (seqObj "list" vs.toArray 0)).get? s1.heap.objs.size = some (seqObj "list" vs.toArray 0) := Heap.get?_push_size _ rfl
  refine wpAny_bind (wpAny_holding (list_sort_data (enc := PyData.str) (R := fun v (x : Str) => ∃ t, v = Value.str x t) hoL eR (eR.mono fun v x ⟨t, e⟩ => ⟨[], by rw [e]; exact .str x t, by simp⟩) ?_ ?_ (by rw [List.length_map]; exact hsl) ?_ fun out ho2 eo => ?_))
  · exact AllAlike.of fun a b => by rw [alike]
  · exact Sortable.others fun b => ⟨by simp, by simp⟩
  · intro b _
    simp only [PyData.depth]
    show X.A.units + 1 + 1 + _ < _
    omega
  · obtain ⟨c, hc'⟩ := sortedHeap_at (vs := vs) (out := out.toArray) hoL
    have hnew : H s1.heap.objs.size = none := I.hok.fresh hz1
    have hlen : (((vs.map texOf).mergeSort (dataLe false PyData.str)).map V.str).length ≤ sizeLine := by rw [List.length_map, (List.mergeSort_perm _ _).length_eq, List.length_map]; exact hsl
    have vals : Vals (((vs.map texOf).mergeSort (dataLe false PyData.str)).map V.str) out := vals_tex eo
    have keep : ∀ b u, s.heap.get? b = some u → (sortedHeap (s1.heap.push (seqObj "list" vs.toArray 0)) s1.heap.objs.size vs out.toArray).get? b = some u := fun b u e => by
      have q1 := k1 b u e
      have hlt := Heap.lt_size q1
      rw [sortedHeap_old (Nat.ne_of_lt hlt) (by rw [size_push']; exact Nat.lt_succ_of_lt hlt)]
      exact Heap.get?_push_of_some _ q1
    refine wpAny_pure ⟨_, rfl, ?_⟩
    have J : Inv X pins σ (upd H s1.heap.objs.size (.lst (((vs.map texOf).mergeSort (dataLe false PyData.str)).map V.str))) { s with heap := sortedHeap (s1.heap.push (seqObj "list" vs.toArray 0)) s1.heap.objs.size vs out.toArray, gens := s1.gens, drawn := s1.drawn, toks := s1.toks } :=
      I.call (ch := []) (Un.laid keep hz1 hnew) (I.hok.laid keep hz1 ⟨hlen, out, c, vals, hc'⟩) (by rw [g1]; exact I.bare) (fun _ z => nomatch z)
    have e : { s1 with heap := sortedHeap (s1.heap.push (seqObj "list" vs.toArray 0)) s1.heap.objs.size vs out.toArray } = { s with heap := sortedHeap (s1.heap.push (seqObj "list" vs.toArray 0)) s1.heap.objs.size vs out.toArray, gens := s1.gens, drawn := s1.drawn, toks := s1.toks } := by
      cases s1
      cases s
      cases o1
      rfl
    show EP X pins σ Q (.ref s1.heap.objs.size) { s1 with heap := sortedHeap (s1.heap.push (seqObj "list" vs.toArray 0)) s1.heap.objs.size vs out.toArray }
    rw [e]
    refine ⟨.ref _, _, J, rfl, q _ _ ((List.mergeSort_perm _ _).trans hbs) ?_ hnew⟩
    exact sorted_le _
end
end MkS
-- MkF3
namespace Mk
open Im (rep)
open PySem PySem.Spec PyProof.Rows L2
variable {T : Tx}
theorem dset_ok {C : Cg} {G : List Slot} {k : Nat} {iter : Expr} {scope : Scope} {p1 p2 p3 : Pos} {j : Nat} {xs : List Nm} (hl : G.length = C.N.length) (hi : EvI C G (.Name "column" p1) iter (· = xs)) (ok : blkC C.N C.sc scope [("column", k)] = true) (hN : C.N[k]? = some "column") (hx : (C.blk scope).sc.names.lookup ("column" : Str) = some .local) (hk : k < G.length) :
    DcOk C G (.Name "column" p2) (.Constant (.bool true) j p3) (.Name "column" p1) iter scope [("column", k)] (kS (uni [] xs)) := by
  have hb : Bnd (C.blk scope) (.Name "column" p1) (fun (a : Nm) G => G.set k (.im a)) [k] := bnd_name hN (.inl hx)
  have h := mk_dc (C := C) (G := G) (vx := .Constant (.bool true) j p3) (kx := .Name "column" p2) (own := [("column", k)]) (fun c : Nm => c.s) (fun _ => true) hl hi ok hb (by simp) (fun x hx' => ev_nmS (ev_var (i := k) (by
    show ((wipeG G [k]).set k (.im x))[k]? = _
    rw [List.getElem?_set_self (by rw [wipeG_length]; exact hk)]) hN (.inl hx) (by decide) (by decide))) (fun x hx' => ev_bl)
  have e : putAll [] (xs.map fun x : Nm => (x.s, true)) = kS (uni [] xs) := putAll_kS xs []
  rw [e] at h
  exact h
theorem ev_dset {C : Cg} {G : List Slot} {k : Nat} {iter : Expr} {scope : Scope} {p1 p2 p3 pos : Pos} {j : Nat} {xs : List Nm} (hl : G.length = C.N.length) (hi : EvI C G (.Name "column" p1) iter (· = xs)) (ok : blkC C.N C.sc scope [("column", k)] = true) (hN : C.N[k]? = some "column") (hx : (C.blk scope).sc.names.lookup ("column" : Str) = some .local) (hk : k < G.length)
    (hs : ∀ env x, foldedSetIterable iter env x = pure x := by intro _ _; rfl) : EvR C G (.DictComp (.Name "column" p2) (.Constant (.bool true) j p3) [⟨.Name "column" p1, iter, [], 0⟩] scope pos) (.dk (· = kS (uni [] xs))) := ev_dcOk (dset_ok hl hi ok hN hx hk) hs
theorem uni_nil {xs : List Nm} : (uni [] xs).Nodup ∧ ∀ c, c ∈ uni [] xs ↔ c ∈ xs := ⟨nodup_uni List.nodup_nil, fun c => by rw [mem_uni]; simp⟩
theorem uni_uni {ks xs : List Nm} : ∀ {c}, c ∈ uni ks (uni [] xs) ↔ c ∈ ks ∨ c ∈ xs := by
  intro c
  rw [mem_uni, uni_nil.2]
theorem kS_len (ks : List Nm) : (kS ks).length = ks.length := List.length_map _
theorem sc_closure_in : FnScope ["rules", "columns", "found", "many", "left", "right", "column"] ["rules", "columns"] (defScope (top 39)) := ⟨rfl, rfl, rfl, by decide +kernel, rfl, by decide +kernel, by decide +kernel⟩
def ClPre {C : Addr} (b : Rul C × List Nm) : Prop := RulOk b.1 ∧ ∀ c ∈ b.2, c ∈ b.1.cols
structure Fnd {C : Addr} (x : Rul C) (cs ks : List Nm) : Prop where
  nd : ks.Nodup
  up : ∀ c ∈ cs, c ∈ ks
  dn : ∀ c ∈ ks, c ∈ x.cols ∧ InCl x.rules cs c
theorem Fnd.len {C : Addr} {x : Rul C} {cs ks : List Nm} (h : Fnd x cs ks) : ks.length ≤ x.cols.length := nodup_sub_len h.nd fun c hc => (h.dn c hc).1
theorem Fnd.more {C : Addr} {x : Rul C} {cs ks : List Nm} {r : Rule} (hx : RulOk x) (h : Fnd x cs ks) (hr : r ∈ x.rules) (hl : within r.1 ks = true) : Fnd x cs (uni ks (uni [] r.2)) := by
  refine ⟨nodup_uni h.nd, fun c hc => uni_uni.mpr (.inl (h.up c hc)), fun c hc => ?_⟩
  rcases uni_uni.mp hc with z | z
  · exact h.dn c z
  · exact ⟨(hx.rules r hr).rs c z, InCl.step hr (fun y hy => (h.dn y (within_iff.mp hl y hy)).2) z⟩
theorem ok_closure_in (h : Top T) : Fn T 4 "closure_in" (spC (β := RulT T × List Nm) false (fun b => [.im b.1, .im b.2]) ClPre (fun b => .im (· = Cl b.1.cols b.1.rules b.2))) := by
  refine def_ok (at_closure_in h) sc_closure_in (fun _ _ _ _ _ _ us hl => match us, hl with | [_, _], _ => rfl) (fun b => rfl) fun b d hd hp => ?_
  obtain ⟨x, cs⟩ := b
  obtain ⟨hx, hcs⟩ := hp
  have hx : RulOk x := hx
  have hcl := hx.cols.len
  refine run_par (i := 2) (j := 3) put_dk put_im (ev_dset (k := 6) rfl (ei_tup (ev_var (i := 1) (a := cs) rfl)) (by kernel_rfl) rfl rfl (Nat.le_of_ble_eq_true rfl)) (ev_neg ev_int) (fun G' G'' h1 h2 => ?_) (fun G' ⟨a, _, e⟩ => by rw [e]; rfl)
  obtain ⟨_, rfl, rfl⟩ := h1
  obtain ⟨_, rfl, rfl⟩ := h2
  refine run_while (W := fun m G' => ∃ (ks : List Nm) (many : Int) (a b : Slot), G' = [.im x, .im cs, .dk (kS ks), .im many, a, b, .no] ∧ Fnd x cs ks ∧ many ≤ ks.length ∧ (many = ks.length → closedB x.rules ks = true) ∧ m = 2 * (x.cols.length - ks.length) + (if many < ks.length then 1 else 0))
    ⟨_, uni [] cs, -1, .no, .no, rfl, ⟨uni_nil.1, fun c hc => uni_nil.2 c |>.mpr hc, fun c hc => ⟨hcs c ((uni_nil.2 c).mp hc), InCl.base ((uni_nil.2 c).mp hc)⟩⟩, by omega, by omega, rfl⟩ ?_
  rintro m G' ⟨ks, many, a, b, rfl, hf, hle, hcl2, hm⟩
  have hkl := hf.len
  refine ⟨_, (ev_ltE (ev_var (i := 3) rfl) (ev_lenDk (i := 2) (kvs := kS ks) (n := ks.length) (blt h) rfl (by rw [kS_len]))).t, fun ht => ?_, fun ht => ?_⟩
  · have ht : many < ks.length := of_decide_eq_true ht
    refine run_set (i := 3) (a := (ks.length : Int)) (ev_lenDk (i := 2) (kvs := kS ks) (blt h) rfl (by rw [kS_len])) ?_
    refine run_for (ei_tup (ev_rules (x := x) h ((ev_var (i := 0) rfl)))) (bnd_pair (i := 4) (j := 5)) (I := fun rs i G' => ∃ (ks' : List Nm) (a b : Slot), G' = [.im x, .im cs, .dk (kS ks'), .im (ks.length : Int), a, b, .no] ∧ Fnd x cs ks' ∧ ks.length ≤ ks'.length ∧
      (ks'.length = ks.length → ks' = ks ∧ ∀ r ∈ rs.take i, within r.1 ks = true → within r.2 ks = true)) ?_ ?_ ?_ ?_
    · exact fun rs e => ⟨ks, a, b, rfl, hf, Nat.le_refl _, fun _ => ⟨rfl, by simp⟩⟩
    · rintro rs i G' ⟨ks', a, b, rfl, _⟩
      rfl
    · rintro rs i r G' rfl hr ⟨ks', a, b, rfl, hf', hl', hc'⟩
      have hmem : r ∈ x.rules := List.mem_of_getElem? hr
      have htk : x.rules.take (i + 1) = x.rules.take i ++ [r] := by rw [List.take_add_one, hr]; rfl
      refine run_if (b := within r.1 ks') (et_val (ev_call (ok_are_within h) (r.1, .dic ks') (ea_var (i := 4) (s := .im r.1) rfl (ea_var (i := 2) (s := .dk (kS ks')) rfl ea_nil)) rfl trivial)) (fun hw => ?_) (fun hw => ?_)
      · have hm1 : (uni [] r.2).length ≤ x.cols.length := nodup_sub_len uni_nil.1 fun c hc => (hx.rules r hmem).rs c ((uni_nil.2 c).mp hc)
        have hf2 := hf'.more hx hmem hw
        refine run_updK (i := 2) (kvs := kS ks') (more := kS (uni [] r.2)) (ev_dset (k := 6) rfl (ei_tup (ev_var (i := 5) (a := r.2) rfl)) (by kernel_rfl) rfl rfl (Nat.le_of_ble_eq_true rfl)) rfl (by rw [kS_len, kS_len]; have := hf'.len; omega) (run_nil (run_nil ?_))
        rw [putAll_kS]
        refine ⟨_, _, _, rfl, hf2, Nat.le_trans hl' (uni_len _ _), fun e => ?_⟩
        have e1 : ks'.length = ks.length := by have := uni_len (uni [] r.2) ks'; omega
        obtain ⟨e2, h2⟩ := hc' e1
        have e3 : uni ks' (uni [] r.2) = ks' := uni_same (by omega)
        refine ⟨e3.trans e2, fun r' hr' hw' => ?_⟩
        rw [htk] at hr'
        rcases List.mem_append.mp hr' with z | z
        · exact h2 r' z hw'
        · rw [List.mem_singleton.mp z]
          exact within_iff.mpr fun c hc => by rw [← e2, ← e3]; exact uni_uni.mpr (.inr hc)
      · refine run_nil (run_nil ⟨_, _, _, rfl, hf', hl', fun e => ?_⟩)
        obtain ⟨e2, h2⟩ := hc' e
        refine ⟨e2, fun r' hr' hw' => ?_⟩
        rw [htk] at hr'
        rcases List.mem_append.mp hr' with z | z
        · exact h2 r' z hw'
        · rw [List.mem_singleton.mp z] at hw'
          rw [← e2, hw] at hw'
          cases hw'
    · rintro rs G' rfl ⟨ks', a, b, rfl, hf', hl', hc'⟩
      have hkl' := hf'.len
      refine run_nil ⟨_, ?_, ks', _, a, b, rfl, hf', by omega, fun e => ?_, rfl⟩
      · rw [hm, if_pos ht]
        by_cases z : (ks.length : Int) < ks'.length
        · rw [if_pos z]; omega
        · rw [if_neg z]; omega
      · obtain ⟨e2, h2⟩ := hc' (by omega)
        rw [List.take_length] at h2
        rw [e2]
        exact closedB_iff.mpr fun r hr hl => within_iff.mp (h2 r hr (within_iff.mpr hl))
  · have ht : ¬ many < ks.length := of_decide_eq_false ht
    have hcB := hcl2 (by omega)
    have hfin := Cl_found hx.cols.asc hf.up hf.dn hcB
    refine run_ret (ev_names ((ev_tuple (blt h) (es_ls (ev_sortedDk (i := 2) (s := .dk (kS ks)) (kvs := kS ks) (blt h) rfl (.inl rfl) (by rw [kS_len]; omega)))).imp fun ys hy => ?_))
    obtain ⟨hy1, hy2⟩ := hy
    refine sorted_names (hy1.trans ?_) hy2 (asc_sub hx.cols.asc Cl_sub)
    have e1 : (kS ks).map (·.1) = ks.map Nm.s := by unfold kS; rw [List.map_map]; rfl
    rw [e1]
    exact ((List.perm_ext_iff_of_nodup hf.nd (asc_nodup (asc_sub hx.cols.asc Cl_sub))).mpr fun c => (hfin c).symm).map _
end Mk
-- MkF4
namespace Mk
open Im (rep)
open PySem PySem.Spec PyProof.Rows L2
variable {T : Tx}
def onTop (s : List Nm) (c : Nm) : Bool := decide (s = []) || match s.getLast? with
  | some l => decide (ltN l c)
  | none => false
def nextL (cs : List Nm) (L : List (List Nm)) : List (List Nm) := L.flatMap fun s => (cs.filter (onTop s)).map fun c => s ++ [c]
def layer (cs : List Nm) : Nat → List (List Nm)
  | 0 => [[]]
  | n + 1 => nextL cs (layer cs n)
def setsOf (cs : List Nm) : List (List Nm) := (List.range 6).flatMap (layer cs)
structure C5 (cs : List Nm) : Prop where
  asc : cs.Pairwise ltN
  len : cs.length ≤ 5
theorem C5.cols {cs : List Nm} (h : C5 cs) : Cols cs := ⟨h.asc, by have := h.len; omega⟩
theorem mem_next {cs : List Nm} {L : List (List Nm)} {t : List Nm} : t ∈ nextL cs L ↔ ∃ s ∈ L, ∃ c ∈ cs, onTop s c = true ∧ t = s ++ [c] := by
  unfold nextL
  simp only [List.mem_flatMap, List.mem_map, List.mem_filter]
  constructor
  · rintro ⟨s, hs, c, ⟨hc, ho⟩, rfl⟩; exact ⟨s, hs, c, hc, ho, rfl⟩
  · rintro ⟨s, hs, c, hc, ho, rfl⟩; exact ⟨s, hs, c, ⟨hc, ho⟩, rfl⟩
theorem asc_snoc {s : List Nm} {c : Nm} : (s ++ [c]).Pairwise ltN ↔ s.Pairwise ltN ∧ onTop s c = true := by
  unfold onTop
  rw [List.pairwise_append]
  constructor
  · rintro ⟨h1, _, h2⟩
    refine ⟨h1, ?_⟩
    cases q : s.getLast? with
    | none => rw [List.getLast?_eq_none_iff.mp q]; rfl
    | some l =>
      have hm : l ∈ s := List.mem_of_getLast? q
      show (decide (s = []) || decide (ltN l c)) = true
      rw [decide_eq_true (h2 l hm c (by simp)), Bool.or_true]
  · rintro ⟨h1, h2⟩
    refine ⟨h1, by simp, fun a ha b hb => ?_⟩
    rw [List.mem_singleton.mp hb]
    cases q : s.getLast? with
    | none => rw [List.getLast?_eq_none_iff.mp q] at ha; simp at ha
    | some l =>
      rw [q] at h2
      have hne : s ≠ [] := fun z => by rw [z] at ha; simp at ha
      rw [decide_eq_false hne, Bool.false_or] at h2
      have hl : ltN l c := of_decide_eq_true h2
      obtain ⟨s0, e⟩ := List.getLast?_eq_some_iff.mp q
      rw [e] at ha h1
      rcases List.mem_append.mp ha with z | z
      · exact ltN_trans ((List.pairwise_append.mp h1).2.2 a z l (List.mem_singleton.mpr rfl)) hl
      · rw [List.mem_singleton.mp z]; exact hl
theorem mem_layer {cs : List Nm} : ∀ {n : Nat} {t : List Nm}, t ∈ layer cs n ↔ t.length = n ∧ t.Pairwise ltN ∧ ∀ c ∈ t, c ∈ cs
  | 0, t => by
    show t ∈ [[]] ↔ _
    rw [List.mem_singleton, List.length_eq_zero_iff]
    exact ⟨fun e => ⟨e, by rw [e]; exact .nil, by rw [e]; simp⟩, fun e => e.1⟩
  | n + 1, t => by
    show t ∈ nextL cs (layer cs n) ↔ _
    rw [mem_next]
    constructor
    · rintro ⟨s, hs, c, hc, ho, rfl⟩
      obtain ⟨h1, h2, h3⟩ := mem_layer.mp hs
      refine ⟨by rw [List.length_append, h1]; rfl, asc_snoc.mpr ⟨h2, ho⟩, fun x hx => ?_⟩
      rcases List.mem_append.mp hx with z | z
      · exact h3 x z
      · rw [List.mem_singleton.mp z]; exact hc
    · rintro ⟨h1, h2, h3⟩
      have hne : t ≠ [] := fun z => by rw [z] at h1; simp at h1
      have e : t = t.dropLast ++ [t.getLast hne] := (List.dropLast_concat_getLast hne).symm
      rw [e] at h2
      obtain ⟨g1, g2⟩ := asc_snoc.mp h2
      exact ⟨t.dropLast, mem_layer.mpr ⟨by rw [List.length_dropLast, h1]; rfl, g1, fun c hc => h3 c (List.dropLast_subset t hc)⟩, t.getLast hne, h3 _ (List.getLast_mem hne), g2, e⟩
theorem layer_short {cs : List Nm} (h : cs.Pairwise ltN) {n : Nat} {t : List Nm} (ht : t ∈ layer cs n) : n ≤ cs.length := by
  obtain ⟨h1, h2, h3⟩ := mem_layer.mp ht
  rw [← h1]
  exact nodup_sub_len (asc_nodup h2) h3
theorem layer_nil {cs : List Nm} (h : cs.Pairwise ltN) {n : Nat} (hn : cs.length < n) : layer cs n = [] := by
  cases e : layer cs n with
  | nil => rfl
  | cons t L => exact absurd (layer_short h (n := n) (t := t) (by rw [e]; simp)) (by omega)
theorem layer_len {cs : List Nm} (h : cs.length ≤ 5) : ∀ n, (layer cs n).length ≤ 5 ^ n
  | 0 => by simp [layer]
  | n + 1 => by
    have ih := layer_len h n
    have key : ∀ L : List (List Nm), (nextL cs L).length ≤ L.length * 5 := by
      intro L
      induction L with
      | nil => simp [nextL]
      | cons s L ih =>
        have e : nextL cs (s :: L) = ((cs.filter (onTop s)).map fun c => s ++ [c]) ++ nextL cs L := rfl
        rw [e, List.length_append, List.length_map, List.length_cons, Nat.succ_mul]
        have := List.length_filter_le (onTop s) cs
        omega
    have := key (layer cs n)
    show (nextL cs (layer cs n)).length ≤ 5 ^ n * 5
    exact Nat.le_trans this (Nat.mul_le_mul_right 5 ih)
theorem mem_setsOf {cs : List Nm} (h : C5 cs) {t : List Nm} : t ∈ setsOf cs ↔ t.Pairwise ltN ∧ ∀ c ∈ t, c ∈ cs := by
  unfold setsOf
  rw [List.mem_flatMap]
  constructor
  · rintro ⟨n, _, hn⟩; exact (mem_layer.mp hn).2
  · rintro ⟨h1, h2⟩
    have hl := nodup_sub_len (asc_nodup h1) h2
    exact ⟨t.length, List.mem_range.mpr (by have := h.len; omega), mem_layer.mpr ⟨rfl, h1, h2⟩⟩
theorem flat_len {cs : List Nm} (h : cs.length ≤ 5) : ∀ n, n ≤ 6 → ((List.range n).flatMap (layer cs)).length ≤ n * 3125
  | 0, _ => by simp
  | n + 1, hn => by
    rw [List.range_succ, List.flatMap_append, List.length_append]
    have h1 := flat_len h n (by omega)
    have h2 := layer_len h n
    have h3 : 5 ^ n ≤ 5 ^ 5 := Nat.pow_le_pow_right (by decide) (by omega)
    have e : ([n].flatMap (layer cs)).length = (layer cs n).length := by simp
    rw [e, Nat.succ_mul]
    omega
theorem setsOf_len {cs : List Nm} (h : C5 cs) : (setsOf cs).length ≤ 18750 := flat_len h.len 6 (Nat.le_refl _)
theorem setsOf_cut {cs : List Nm} (h : C5 cs) {n : Nat} (hn : n ≤ 6) (he : layer cs n = []) : (List.range n).flatMap (layer cs) = setsOf cs := by
  have later : ∀ k, layer cs (n + k) = [] := by
    intro k
    induction k with
    | zero => exact he
    | succ k ih =>
      show nextL cs (layer cs (n + k)) = []
      rw [ih]; rfl
  have key : ∀ k, (List.range (n + k)).flatMap (layer cs) = (List.range n).flatMap (layer cs) := by
    intro k
    induction k with
    | zero => rfl
    | succ k ih =>
      show (List.range (n + k + 1)).flatMap (layer cs) = _
      rw [List.range_succ, List.flatMap_append, ih]
      simp [later k]
  unfold setsOf
  rw [← key (6 - n), show n + (6 - n) = 6 by omega]
theorem sc_sets_of : FnScope ["columns", "found", "layer", "some", "column"] ["columns"] (defScope (top 41)) := ⟨rfl, rfl, rfl, by decide +kernel, rfl, by decide +kernel, by decide +kernel⟩
theorem ok_sets_of (h : Top T) : Fn T 1 "sets_of" (spC (β := List Nm) false (fun b => [.im b]) C5 (fun b => .ls (· = setsOf b))) := by
  refine def_ok (at_sets_of h) sc_sets_of (fun _ _ _ _ _ _ us hl => match us, hl with | [_], _ => rfl) (fun b => rfl) fun cs d hd hp => ?_
  refine run_par (i := 1) (j := 2) put_ls put_ro (ev_lst0 (α := List Nm)) (ev_lst1 (ev_tup0 (α := Nm))) (fun G' G'' h1 h2 => ?_) (fun G' ⟨a, _, e⟩ => by rw [e]; rfl)
  obtain ⟨_, rfl, rfl⟩ := h1
  obtain ⟨_, ⟨_, rfl, rfl⟩, rfl⟩ := h2
  refine run_while (W := fun m G' => ∃ n, n ≤ 6 ∧ m = 6 - n ∧ G' = [.im cs, .ls ((List.range n).flatMap (layer cs)), .ro (layer cs n), .no, .no]) ⟨6, 0, by omega, by omega, rfl⟩ ?_
  rintro m G' ⟨n, hn, hm, rfl⟩
  refine ⟨_, (ev_neL (el_ro (i := 2) rfl) (el_ls ev_lst0)).t, fun ht => ?_, fun ht => ?_⟩
  · have hne : layer cs n ≠ [] := by simpa using ht
    obtain ⟨t, htm⟩ := List.exists_mem_of_ne_nil _ hne
    have hn5 : n ≤ 5 := Nat.le_trans (layer_short hp.asc htm) hp.len
    have hl1 := layer_len hp.len n
    have hl3 : 5 ^ n ≤ 5 ^ 5 := Nat.pow_le_pow_right (by decide) hn5
    have hl5 : (5 : Nat) ^ 5 = 3125 := by decide
    have hlen := hp.len
    refine run_extend (i := 1) (el_ro (i := 2) rfl) rfl (fun ys e => by rw [e]; have := flat_len hp.len n hn; omega) fun ys e => ?_
    subst e
    refine run_setLc2 (i := 2) (own := [("some", 3), ("column", 4)]) (vs1 := [4]) (fun s c => onTop s c) (fun s c => s ++ [c]) rfl (ei_ro (i := 2) (xs := layer cs n) rfl) (by kernel_rfl) (bnd_name (i := 3)) (by decide) (by decide) (fun s hs => ev_var (i := 0) (a := cs) rfl) (bnd_name (i := 4)) (by decide) (fun s hs c hc => ?_) (fun s hs c hc _ => ?_)
      (by
        have : (layer cs n).length * cs.length ≤ 3125 * 5 := Nat.mul_le_mul (by omega) hlen
        omega) (run_nil ⟨5 - n, by omega, n + 1, by omega, by omega, ?_⟩)
    · refine et_w (EvW.to' (ew_or ((ev_eqD (ev_var (i := 3) (a := s) rfl) (ev_tup0 (α := Nm))).t) fun hne => ew_or1 (P := (· = match s.getLast? with
        | some l => decide (ltN l c)
        | none => false)) ?_) rfl)
      have hne : s ≠ [] := of_decide_eq_false hne
      cases q : s.getLast? with
      | none => exact absurd (List.getLast?_eq_none_iff.mp q) hne
      | some l => exact (ev_ltS (ev_nmS (ev_ix (P := (· = s)) (S := (· = -1)) (R := (· = l)) (es_im ((ev_var (i := 3) rfl))) (ev_neg ev_int) (fun xs z e1 e2 => ⟨l, by rw [e1, e2]; exact atI_last q, rfl⟩))) (ev_nmS (ev_var (i := 4) (a := c) rfl))).t
    · exact (ev_star1 (P := (· = s)) (R := (· = c)) (es_im ((ev_var (i := 3) rfl))) ((ev_var (i := 4) rfl)) (fun xs e => by
        rw [e, (mem_layer.mp hs).1]; omega)).imp fun z ⟨_, _, e1, e2, e3⟩ => by rw [e3, e1, e2]
    · show _ = _
      rw [List.range_succ, List.flatMap_append]
      simp [layer, nextL]
  · have he : layer cs n = [] := by simpa using ht
    exact run_retLs (i := 1) rfl rfl (setsOf_cut hp hn he)
end Mk
-- MkF5
namespace Mk
open Im (rep)
open PySem PySem.Spec PyProof.Rows L2
variable {T : Tx}
theorem alike_nm (a b : Nm) : W.alike (Dat.data a) (Dat.data b) = true := by simp [Dat.data, W.alike]
theorem alikeAll_map {α : Type} [Dat α] (h : ∀ a b : α, W.alike (Dat.data a) (Dat.data b) = true) : ∀ xs ys : List α, W.alikeAll (xs.map Dat.data) (ys.map Dat.data) = true
  | [], _ => by simp [W.alikeAll]
  | _ :: _, [] => by simp [W.alikeAll]
  | x :: xs, y :: ys => by
    show W.alikeAll (Dat.data x :: xs.map Dat.data) (Dat.data y :: ys.map Dat.data) = true
    rw [W.alikeAll, alikeAll_map h xs ys, h]
    rfl
theorem alike_set (a b : List Nm) : W.alike (Dat.data a) (Dat.data b) = true := by
  show W.alike (.tuple (a.map Dat.data)) (.tuple (b.map Dat.data)) = true
  rw [W.alike]
  exact alikeAll_map alike_nm a b
theorem alike_rule (a b : Rule) : W.alike (Dat.data a) (Dat.data b) = true := by
  show W.alike (.tuple [Dat.data a.1, Dat.data a.2]) (.tuple [Dat.data b.1, Dat.data b.2]) = true
  rw [W.alike, W.alikeAll, W.alikeAll, W.alikeAll, alike_set, alike_set]
  rfl
theorem allAlike_of {α : Type} [Dat α] (h : ∀ a b : α, W.alike (Dat.data a) (Dat.data b) = true) (xs : List α) : W.AllAlike (xs.map Dat.data) := W.AllAlike.of h
theorem fine_names (xs : List Nm) : SortFine (xs.map Dat.data) := .inl (W.Sortable.others fun b => ⟨by simp [Dat.data], fun xs => by simp [Dat.data]⟩)
theorem fine_rules (xs : List Rule) : SortFine (xs.map Dat.data) := .inl (W.Sortable.tuples fun b => ⟨_, _, rfl⟩)
theorem fine_sets {xs : List (List Nm)} (h : ∀ s ∈ xs, s ≠ []) : SortFine (xs.map Dat.data) := .inl (.inl fun d hd => by
  obtain ⟨s, hs, rfl⟩ := List.mem_map.mp hd
  cases s with
  | nil => exact absurd rfl (h _ hs)
  | cons c r => exact ⟨_, _, rfl⟩)
theorem fine_sets0 (xs : List (List Nm)) : SortFine (([] :: xs).map Dat.data) := .inr ⟨xs.map Dat.data, rfl, fun d hd => by
  obtain ⟨s, hs, rfl⟩ := List.mem_map.mp hd
  exact ⟨_, rfl⟩⟩
def trigStep (rs : List Rule) (found : List (List Nm)) (s : List Nm) : List (List Nm) := if (!closedB rs s && !(found.any fun o => within o s)) = true then found ++ [s] else found
def trigL (cs : List Nm) (rs : List Rule) : List (List Nm) := (setsOf cs).foldl (trigStep rs) []
theorem trig_yes {rs : List Rule} {F : List (List Nm)} {s : List Nm} (h : (!closedB rs s && !(F.any fun o => within o s)) = true) : trigStep rs F s = F ++ [s] := if_pos h
theorem trig_no {rs : List Rule} {F : List (List Nm)} {s : List Nm} (h : (!closedB rs s && !(F.any fun o => within o s)) = false) : trigStep rs F s = F := if_neg (by rw [h]; exact Bool.false_ne_true)
theorem foldl_take {α β : Type} (f : β → α → β) (b : β) {xs : List α} {i : Nat} {x : α} (h : xs[i]? = some x) : (xs.take (i + 1)).foldl f b = f ((xs.take i).foldl f b) x := by
  rw [List.take_add_one, h, List.foldl_append]
  rfl
theorem trig_len (rs : List Rule) : ∀ (L found : List (List Nm)), (L.foldl (trigStep rs) found).length ≤ found.length + L.length
  | [], _ => Nat.le_refl _
  | s :: L, found => by
    have h := trig_len rs L (trigStep rs found s)
    have h2 : (trigStep rs found s).length ≤ found.length + 1 := by
      unfold trigStep
      split
      · rw [List.length_append]; exact Nat.le_refl _
      · omega
    rw [List.foldl_cons, List.length_cons]
    omega
theorem trig_sub (rs : List Rule) : ∀ (L found : List (List Nm)), ∀ t ∈ L.foldl (trigStep rs) found, t ∈ found ∨ t ∈ L
  | [], _, t, h => .inl h
  | s :: L, found, t, h => by
    rcases trig_sub rs L (trigStep rs found s) t h with z | z
    · unfold trigStep at z
      split at z
      · rcases List.mem_append.mp z with q | q
        · exact .inl q
        · rw [List.mem_singleton.mp q]; exact .inr List.mem_cons_self
      · exact .inl z
    · exact .inr (List.mem_cons_of_mem _ z)
theorem trig_nil (rs : List Rule) : ∀ L : List (List Nm), L.foldl (trigStep rs) [[]] = [[]]
  | [] => rfl
  | s :: L => by
    have e : trigStep rs [[]] s = [[]] := by
      unfold trigStep
      rw [if_neg]
      have : within [] s = true := rfl
      simp [this]
    rw [List.foldl_cons, e]
    exact trig_nil rs L
theorem setsOf_split (cs : List Nm) : setsOf cs = [] :: (List.range' 1 5).flatMap (layer cs) := rfl
theorem setsOf_rest {cs t : List Nm} (h : t ∈ (List.range' 1 5).flatMap (layer cs)) : t ≠ [] := by
  obtain ⟨n, hn, ht⟩ := List.mem_flatMap.mp h
  have h1 := (mem_layer.mp ht).1
  have h2 := List.mem_range'.mp hn
  rintro rfl
  simp at h1
  obtain ⟨i, hi, e⟩ := h2
  omega
theorem trig_fine (cs : List Nm) (rs : List Rule) : SortFine ((trigL cs rs).map Dat.data) := by
  unfold trigL
  rw [setsOf_split, List.foldl_cons]
  by_cases h : closedB rs [] = true
  · have e : trigStep rs [] [] = [] := by unfold trigStep; rw [h]; rfl
    rw [e]
    refine fine_sets fun s hs => ?_
    rcases trig_sub rs _ _ s hs with z | z
    · simp at z
    · exact setsOf_rest z
  · have e : trigStep rs [] [] = [[]] := by unfold trigStep; rw [Bool.eq_false_iff.mpr h]; rfl
    rw [e, trig_nil]
    exact fine_sets0 []
def RulPre {C : Addr} (x : Rul C) : Prop := RulOk x ∧ C5 x.cols
theorem sc_triggers_in : FnScope ["rules", "found", "some", "other"] ["rules"] (defScope (top 42)) := ⟨rfl, rfl, rfl, by decide +kernel, rfl, by decide +kernel, by decide +kernel⟩
theorem ok_triggers_in (h : Top T) : Fn T 5 "triggers_in" (spC (β := RulT T) false (fun b => [.im b]) RulPre (fun b => .im (· = srt (trigL b.cols b.rules)))) := by
  refine def_ok (at_triggers_in h) sc_triggers_in (fun _ _ _ _ _ _ us hl => match us, hl with | [_], _ => rfl) (fun b => rfl) fun x d hd hp => ?_
  obtain ⟨hx, hc⟩ := hp
  refine run_let (i := 1) put_ls (ev_lst0 (α := List Nm)) fun G' hG => ?_
  obtain ⟨_, rfl, rfl⟩ := hG
  have hsl := setsOf_len hc
  refine run_for (ei_new (ev_call (ok_sets_of h) x.cols (ea_im (ev_columns (x := x) h ((ev_var (i := 0) rfl))) ea_nil) rfl hc)) (bnd_name (i := 2)) (I := fun L i G' => ∃ a, G' = [.im x, .ls ((L.take i).foldl (trigStep x.rules) []), a, .no]) (fun L e => ⟨_, by rw [List.take_zero]; rfl⟩) ?_ ?_ ?_
  · rintro L i G' ⟨a, rfl⟩; rfl
  · rintro L i s G' rfl hs ⟨a, rfl⟩
    have hz : (((setsOf x.cols).take i).foldl (trigStep x.rules) []).length ≤ 100000 := by
      have h1 := trig_len x.rules ((setsOf x.cols).take i) []
      rw [List.length_take, List.length_nil] at h1
      omega
    refine run_if (b := !closedB x.rules s && !((((setsOf x.cols).take i).foldl (trigStep x.rules) []).any fun o => within o s)) (et_w (ew_and (et_not (et_val (ev_call (ok_is_closed_in h) (x, s) (ea_var (i := 0) rfl (ea_var (i := 2) (s := .im s) rfl ea_nil)) rfl trivial))) fun _ => ew_and1 (et_not (et_val (EvR.ro (i := 1) rfl ?_))))) (fun ht => ?_) (fun ht => ?_)
    · refine (ev_any (blt h) (ev_lc (own := [("other", 3)]) (lc_map (fun o : List Nm => within o s) rfl (ei_ro (i := 1) rfl) (by kernel_rfl) (bnd_name (i := 3)) (by decide) fun o ho => ?_))).to ?_
      · exact ev_within h (ev_var (i := 3) (a := o) rfl) (ev_var (i := 2) (a := s) rfl)
      · rw [List.any_map]; rfl
    · refine run_append (i := 1) (P := (· = s)) (ev_var (i := 2) rfl) rfl hz fun y e => run_nil (run_nil ⟨.im s, ?_⟩)
      rw [foldl_take _ _ hs, e, trig_yes ht]
      rfl
    · refine run_nil (run_nil ⟨.im s, ?_⟩)
      rw [foldl_take _ _ hs, trig_no ht]
      rfl
  · rintro L G' rfl ⟨a, rfl⟩
    rw [List.take_length]
    refine run_ret ((ev_tuple (blt h) (es_ls (ev_sorted (P := (· = trigL x.cols x.rules)) (blt h) (el_own (i := 1) rfl) (fun xs _ => allAlike_of alike_set xs) (fun xs e => by rw [e]; exact trig_fine _ _)))).imp fun z ⟨_, e1, e2⟩ => by rw [e2, e1])
def RulRule {C : Addr} (b : Rul C × Rule) : Prop := RulOk b.1 ∧ ROk b.1.cols b.2
theorem sc_follows_in : FnScope ["rules", "rule"] ["rules", "rule"] (defScope (top 43)) := ⟨rfl, rfl, rfl, by decide +kernel, rfl, by decide +kernel, by decide +kernel⟩
theorem ok_follows_in (h : Top T) : Fn T 5 "follows_in" (spC (β := RulT T × Rule) false (fun b => [.im b.1, .im b.2]) RulRule (fun b => .im (· = within b.2.2 (Cl b.1.cols b.1.rules b.2.1)))) := by
  refine def_ok (at_follows_in h) sc_follows_in (fun _ _ _ _ _ _ us hl => match us, hl with | [_, _], _ => rfl) (fun b => rfl) fun b d hd hp => ?_
  obtain ⟨x, l, r⟩ := b
  exact run_ret (ev_within h (ev_snd (P := (· = (l, r))) (R := (· = r)) ((ev_var (i := 1) rfl)) (fun x e => by rw [e])) (ev_call (ok_closure_in h) (x, l) (ea_var (i := 0) rfl (ea_im (ev_fst (P := (· = (l, r))) (R := (· = l)) ((ev_var (i := 1) rfl)) (fun x e => by rw [e])) ea_nil)) rfl ⟨hp.1, hp.2.ls⟩))
theorem sc_require_rule_of : FnScope ["rules", "rule"] ["rules", "rule"] (defScope (top 44)) := ⟨rfl, rfl, rfl, by decide +kernel, rfl, by decide +kernel, by decide +kernel⟩
theorem ok_require_rule_of (h : Top T) : Fn T 6 "require_rule_of" (spC (β := RulT T × Rule) false (fun b => [.im b.1, .im b.2]) RulRule (fun _ => .non)) := by
  refine def_ok (at_require_rule_of h) sc_require_rule_of (fun _ _ _ _ _ _ us hl => match us, hl with | [_, _], _ => rfl) (fun b => rfl) fun b d hd hp => ?_
  obtain ⟨x, r⟩ := b
  exact run_if (b := false) ((et_not (et_val (ev_call (ok_is_rule_over h) (x.cols, r) (ea_im (ev_columns (x := x) h ((ev_var (i := 0) rfl))) (ea_var (i := 1) rfl ea_nil)) rfl hp.2))).to rfl) (fun z => by cases z) fun _ => run_nil (run_nil rfl)
theorem sc_closure_of : FnScope ["rules", "columns", "column"] ["rules", "columns"] (defScope (top 45)) := ⟨rfl, rfl, rfl, by decide +kernel, rfl, by decide +kernel, by decide +kernel⟩
theorem ok_closure_of (h : Top T) : Fn T 5 "closure_of" (spC (β := RulT T × List Nm) false (fun b => [.im b.1, .im b.2]) ClPre (fun b => .im (· = Cl b.1.cols b.1.rules b.2))) := by
  refine def_ok (at_closure_of h) sc_closure_of (fun _ _ _ _ _ _ us hl => match us, hl with | [_, _], _ => rfl) (fun b => rfl) fun b d hd hp => ?_
  obtain ⟨x, cs⟩ := b
  refine run_expr (ev_call (ok_require_rules h) x (ea_var (i := 0) rfl ea_nil) rfl trivial) ?_
  refine run_if (b := false) ((et_not (et_val (ev_isi (P := (· = cs)) (b := true) (blt h) ((ev_var (i := 1) rfl)) (blt h).tuple (fun K => kit_ty (by decide +kernel)) PyProof.Rows.boot_tuple))).to rfl) (fun z => by cases z) fun _ => run_nil ?_
  refine run_for (ei_tup ((ev_var (i := 1) rfl))) (bnd_name (i := 2)) (I := fun L i G' => ∃ a, G' = [.im x, .im cs, a]) (fun L e => ⟨_, rfl⟩) ?_ ?_ ?_
  · rintro L i G' ⟨a, rfl⟩; rfl
  · rintro L i c G' rfl hc ⟨a, rfl⟩
    have hm : c ∈ x.cols := hp.2 c (List.mem_of_getElem? hc)
    refine run_if (b := false) (EvT.to (et_w (ew_or (x := false) (y := false) ((et_not (et_val (ev_isi (P := (· = c)) (b := true) (blt h) ((ev_var (i := 2) rfl)) (blt h).str (fun K => kit_ty (by decide +kernel)) PyProof.Rows.boot_str))).to rfl) fun _ => ew_or1 ((ev_niNm (xs := x.cols) (ev_var (i := 2) (a := c) rfl) (es_im (ev_columns (x := x) h ((ev_var (i := 0) rfl))))).t.to (by rw [decide_eq_true hm]; rfl)))) rfl) (fun z => by cases z) fun _ => run_nil (run_nil ⟨_, rfl⟩)
  · rintro L G' _ ⟨a, rfl⟩
    exact run_ret (ev_call (ok_closure_in h) (x, cs) (ea_var (i := 0) rfl (ea_var (i := 1) rfl ea_nil)) rfl hp)
theorem sc_is_closed : FnScope ["rules", "value"] ["rules", "value"] (defScope (top 46)) := ⟨rfl, rfl, rfl, by decide +kernel, rfl, by decide +kernel, by decide +kernel⟩
theorem ok_is_closed (h : Top T) : Fn T 5 "is_closed" (spC (β := RulT T × List Nm) false (fun b => [.im b.1, .im b.2]) (fun b => Cols b.2 ∧ ∀ c ∈ b.2, c ∈ b.1.cols) (fun b => .im (· = closedB b.1.rules b.2))) := by
  refine def_ok (at_is_closed h) sc_is_closed (fun _ _ _ _ _ _ us hl => match us, hl with | [_, _], _ => rfl) (fun b => rfl) fun b d hd hp => ?_
  obtain ⟨x, cs⟩ := b
  refine run_expr (ev_call (ok_require_rules h) x (ea_var (i := 0) rfl ea_nil) rfl trivial) ?_
  exact run_ret ((ev_and (x := true) (ev_call (ok_are_some_of h) (x.cols, cs) (ea_im (ev_columns (x := x) h ((ev_var (i := 0) rfl))) (ea_var (i := 1) rfl ea_nil)) rfl hp) fun _ => ev_one (ev_call (ok_is_closed_in h) (x, cs) (ea_var (i := 0) rfl (ea_var (i := 1) rfl ea_nil)) rfl trivial)).to (Bool.true_and _))
theorem sc_triggers : FnScope ["rules"] ["rules"] (defScope (top 48)) := ⟨rfl, rfl, rfl, by decide +kernel, rfl, by decide +kernel, by decide +kernel⟩
theorem ok_triggers (h : Top T) : Fn T 6 "triggers" (spC (β := RulT T) false (fun b => [.im b]) RulPre (fun b => .im (· = srt (trigL b.cols b.rules)))) := by
  refine def_ok (at_triggers h) sc_triggers (fun _ _ _ _ _ _ us hl => match us, hl with | [_], _ => rfl) (fun b => rfl) fun x d hd hp => ?_
  refine run_expr (ev_call (ok_require_rules h) x (ea_var (i := 0) rfl ea_nil) rfl trivial) ?_
  exact run_ret (ev_call (ok_triggers_in h) x (ea_var (i := 0) rfl ea_nil) rfl hp)
theorem sc_follows : FnScope ["rules", "rule"] ["rules", "rule"] (defScope (top 49)) := ⟨rfl, rfl, rfl, by decide +kernel, rfl, by decide +kernel, by decide +kernel⟩
theorem ok_follows (h : Top T) : Fn T 7 "follows" (spC (β := RulT T × Rule) false (fun b => [.im b.1, .im b.2]) RulRule (fun b => .im (· = within b.2.2 (Cl b.1.cols b.1.rules b.2.1)))) := by
  refine def_ok (at_follows h) sc_follows (fun _ _ _ _ _ _ us hl => match us, hl with | [_, _], _ => rfl) (fun b => rfl) fun b d hd hp => ?_
  refine run_expr (ev_call (ok_require_rules h) b.1 (ea_var (i := 0) rfl ea_nil) rfl trivial) ?_
  refine run_expr (ev_call (ok_require_rule_of h) b (ea_var (i := 0) rfl (ea_var (i := 1) rfl ea_nil)) rfl hp) ?_
  exact run_ret (ev_call (ok_follows_in h) b (ea_var (i := 0) rfl (ea_var (i := 1) rfl ea_nil)) rfl hp)
end Mk
-- MkInT
namespace Mk
open Im (rep)
open PySem PySem.Spec PyProof.Rows L2
variable {T : Tx}
def rInT (K : PySem.W.Frag) : R2 := fun x y H Q => ∃ d ds, Dp K H x d ∧ Dp K H y (.tuple ds) ∧ SeqAt.shaped d = true ∧ SeqAt.shaped (.tuple ds) = true ∧ Q (.bl (ds.any fun z => PyData.eqv z d)) H
theorem op_inT {X : Cx} (hu : X.A.units + 65 < cLine) : OpR X (compareOp .In) (rInT X.K) := by
  intro pins s σ H x y v u Q I rx ry h
  obtain ⟨d, ds, hd, he, sd, se, q⟩ := h
  obtain ⟨as, r1⟩ := Dp.reads I d x v hd rx
  obtain ⟨bs, r2⟩ := Dp.reads I (.tuple ds) y u he ry
  exact SeqAt.in_tuple_reads r2 r1 (SeqAt.canLay_of_shaped se) (SeqAt.canLay_of_shaped sd) (room_in_shaped sd hu) ⟨.bl _, H, I, rfl, q⟩
theorem any_eqv {α : Type} [Dat α] [DecidableEq α] (x : α) : ∀ xs : List α, ((xs.map Dat.data).any fun z => PyData.eqv z (Dat.data x)) = decide (x ∈ xs)
  | [] => rfl
  | y :: ys => by
    rw [List.map_cons, List.any_cons, any_eqv x ys, Dat.eqv]
    by_cases e : y = x
    · subst e; simp
    · have : ¬ x = y := fun z => e z.symm
      simp [e, this]
theorem ev_inT {C : Cg} {G : List Slot} {α : Type} [Dat α] [DecidableEq α] {a b : Expr} {pos : Pos} {x : α} {xs : List α} (ha : EvR C G a (.im (· = x))) (hb : EvR C G b (.im (· = xs))) (hk : 1 ≤ C.k := by exact Nat.le_of_ble_eq_true rfl) (hd : Dat.dep α ≤ 60 := by decide) (hm : behindInMarks .In b = false := by rfl) :
    EvC C G (.Compare a [.In] [b] pos) (· = decide (x ∈ xs)) :=
  ev_cmp2 (f := rInT C.T.K) (fun X ok => by rw [← ok.K]; exact op_inT (by have := (ok.room.mono hk).un; omega)) hm ha hb fun x' y' v w H p p2 r1 r2 Q q => by
    have hsh : SeqAt.shaped (Dat.data y') = true := Dat.shaped (α := List α) (by show Dat.dep α + 1 ≤ 64; omega) y'
    exact ⟨Dat.data x', y'.map Dat.data, Dat.dp r1, Dat.dp r2, Dat.shaped (by omega) x', hsh, q _ (by rw [any_eqv, p, p2])⟩
theorem md_ok {β : Type} {args : β → List Slot} {pre : β → Prop} {post : β → Ret} {k j : Nat} {x : Str} {q : Str} {N ps : List Str} (hm : Meth T.K (gR T.K) x (He.ma T.K (gR T.K) x)) (F : ∃ fd, FunD T.K x q (defArgs (mth j)) (defBody (mth j)) (defScope (mth j)) [] [] (He.ma T.K (gR T.K) x) fd) (S : FnScope N ps (defScope (mth j)))
    (hb : ∀ (kV doc pm : Value) (an : Option Addr) (cdv ct : Value) (us : List Value), us.length = ps.length → bindArgs (PySem.W.fnOf x q (defArgs (mth j)) (defBody (mth j)) (defScope (mth j)) .none kV doc pm an cdv ct) ⟨us, []⟩ = pure (ps.zip us)) (hl : ∀ b, (args b).length = ps.length)
    (h : ∀ b d, pre b → Run ⟨T, N, defScope (mth j), k, d, fun _ => true⟩ (args b ++ List.replicate (N.length - ps.length) .no) (defBody (mth j)) { nx := fun _ => post b = .non, rt := post b }) : Md T (k + 1) x (spC false args pre post) := by
  obtain ⟨fd, F⟩ := F
  exact ⟨fd, ps, fn_okF F S hl fun b d _ => h b d, FunD.bindsN F hb, hm⟩
theorem sc_contains : FnScope ["self", "value"] ["self", "value"] (defScope (mth 14)) := ⟨rfl, rfl, rfl, by decide +kernel, rfl, by decide +kernel, by decide +kernel⟩
theorem ok_contains (h : Top T) : Md T 2 "__contains__" (spC (β := Rule × RulT T) false (fun b => [.im b.2, .im b.1]) (fun _ => True) (fun b => .im (· = decide (b.1 ∈ b.2.rules)))) := by
  refine md_ok (c___contains__ h) (d___contains__ h) sc_contains (fun _ _ _ _ _ _ us hl => match us, hl with | [_, _], _ => rfl) (fun b => rfl) fun b d _ => ?_
  obtain ⟨r, x⟩ := b
  exact run_ret ((ev_inT (ev_var (i := 1) (a := r) rfl) (ev_own_rules (x := x) h ((ev_var (i := 0) rfl)))).v.to (by by_cases hm : r ∈ x.rules <;> simp [hm]))
end Mk
-- MkF6
namespace Mk
open Im (rep)
open PySem PySem.Spec PyProof.Rows L2
variable {T : Tx}
def dv (ks : List Nm) (us : List Rule) : List Nm := us.foldl (fun k r => uni k (uni [] r.2)) ks
theorem dv_snoc (ks : List Nm) (us : List Rule) (r : Rule) : dv ks (us ++ [r]) = uni (dv ks us) (uni [] r.2) := by
  unfold dv
  rw [List.foldl_append]
  rfl
def Der (rs : List Rule) (ks : List Nm) (us : List Rule) : Prop := (∀ r ∈ us, r ∈ rs) ∧ ∀ i r, us[i]? = some r → within r.1 (dv ks (us.take i)) = true
theorem Der.snoc {rs : List Rule} {ks : List Nm} {us : List Rule} {r : Rule} (h : Der rs ks us) (hr : r ∈ rs) (hw : within r.1 (dv ks us) = true) : Der rs ks (us ++ [r]) := by
  refine ⟨fun q hq => ?_, fun i q hq => ?_⟩
  · rcases List.mem_append.mp hq with z | z
    · exact h.1 q z
    · rw [List.mem_singleton.mp z]; exact hr
  · by_cases hi : i < us.length
    · rw [List.getElem?_append_left hi] at hq
      rw [List.take_append_of_le_length (Nat.le_of_lt hi)]
      exact h.2 i q hq
    · rw [List.getElem?_append_right (by omega)] at hq
      have hz : i - us.length = 0 := by
        cases e : i - us.length with
        | zero => rfl
        | succ n => rw [e] at hq; simp at hq
      rw [hz] at hq
      have e1 : r = q := by simpa using hq
      have e2 : i = us.length := by omega
      rw [e2, List.take_append_of_le_length (Nat.le_refl _), List.take_length, ← e1]
      exact hw
theorem sc_row_beside : FnScope ["columns", "some", "other", "column"] ["columns", "some", "other"] (defScope (top 51)) := ⟨rfl, rfl, rfl, by decide +kernel, rfl, by decide +kernel, by decide +kernel⟩
def rowL (cs s : List Nm) (o : Int) : List Int := cs.map fun c => if c ∈ s then 0 else o
theorem ok_row_beside (h : Top T) : Fn T 1 "row_beside" (spC (β := List Nm × List Nm × Int) false (fun b => [.im b.1, .im b.2.1, .im b.2.2]) (fun _ => True) (fun b => .im (· = rowL b.1 b.2.1 b.2.2))) := by
  refine def_ok (at_row_beside h) sc_row_beside (fun _ _ _ _ _ _ us hl => match us, hl with | [_, _, _], _ => rfl) (fun b => rfl) fun b d hd _ => ?_
  obtain ⟨cs, s, o⟩ := b
  refine run_ret (ev_tuple (P := (· = rowL cs s o)) (blt h) (es_ls (ev_lc (own := [("column", 3)]) (lc_map (fun c : Nm => if c ∈ s then (0 : Int) else o) rfl (ei_tup ((ev_var (i := 0) rfl))) (by kernel_rfl) (bnd_name (i := 3)) (by decide) fun c hc => ?_))))
  refine ev_ifExp (ev_inNm (x := c) (xs := s) ((ev_var (i := 3) rfl)) (es_im ((ev_var (i := 1) rfl)))).t (fun e => ?_) (fun e => ?_)
  · exact ev_int.to (if_pos (of_decide_eq_true e)).symm
  · exact (ev_var (i := 2) (a := o) rfl).to (if_neg (of_decide_eq_false e)).symm
theorem sc_used_rules : FnScope ["rules", "rule", "found", "used", "many", "left", "right", "column"] ["rules", "rule"] (defScope (top 50)) := ⟨rfl, rfl, rfl, by decide +kernel, rfl, by decide +kernel, by decide +kernel⟩
def Used {C : Addr} (b : Rul C × Rule) (us : List Rule) : Prop := Der b.1.rules (uni [] b.2.1) us ∧ ∀ c, c ∈ Cl b.1.cols b.1.rules b.2.1 ↔ c ∈ dv (uni [] b.2.1) us
theorem ok_used_rules (h : Top T) : Fn T 4 "used_rules" (spC (β := RulT T × Rule) false (fun b => [.im b.1, .im b.2]) RulRule (fun b => .im (Used b))) := by
  refine def_ok (at_used_rules h) sc_used_rules (fun _ _ _ _ _ _ us hl => match us, hl with | [_, _], _ => rfl) (fun b => rfl) fun b d hd hp => ?_
  obtain ⟨x, rl⟩ := b
  obtain ⟨hx, hr⟩ := hp
  have hx : RulOk x := hx
  have hr : ROk x.cols rl := hr
  have hcl := hx.cols.len
  have hf0 : Fnd x rl.1 (uni [] rl.1) := ⟨uni_nil.1, fun c hc => (uni_nil.2 c).mpr hc, fun c hc => ⟨hr.ls c ((uni_nil.2 c).mp hc), InCl.base ((uni_nil.2 c).mp hc)⟩⟩
  refine run_par (i := 2) (j := 3) put_dk put_ls (ev_dset (k := 7) rfl (ei_tup (ev_fst (P := (· = rl)) (R := (· = rl.1)) ((ev_var (i := 1) rfl)) (fun x e => by rw [e]))) (by kernel_rfl) rfl rfl (Nat.le_of_ble_eq_true rfl)) (ev_lst0 (α := Rule)) (fun G' G'' h1 h2 => ?_) (fun G' ⟨a, _, e⟩ => by rw [e]; rfl)
  obtain ⟨_, rfl, rfl⟩ := h1
  obtain ⟨_, rfl, rfl⟩ := h2
  refine run_set (i := 4) (a := (-1 : Int)) ((ev_neg ev_int).to rfl) ?_
  refine run_while (W := fun m G' => ∃ (us : List Rule) (many : Int) (a b : Slot), G' = [.im x, .im rl, .dk (kS (dv (uni [] rl.1) us)), .ls us, .im many, a, b, .no] ∧ Der x.rules (uni [] rl.1) us ∧ Fnd x rl.1 (dv (uni [] rl.1) us) ∧ us.length ≤ (dv (uni [] rl.1) us).length ∧
    many ≤ us.length ∧ (many = us.length → closedB x.rules (dv (uni [] rl.1) us) = true) ∧ m = 2 * (x.cols.length - us.length) + (if many < us.length then 1 else 0))
    ⟨_, [], -1, .no, .no, rfl, ⟨by simp, by simp⟩, hf0, by simp, by simp, by simp, rfl⟩ ?_
  rintro m G' ⟨us, many, a, b, rfl, hd1, hf, hul, hle, hcl2, hm⟩
  have hkl := hf.len
  refine ⟨_, (ev_ltE (ev_var (i := 4) rfl) (ev_len (P := (· = us)) (n := us.length) (blt h) (es_own (i := 3) rfl) (fun xs e => by rw [e]))).t, fun ht => ?_, fun ht => ?_⟩
  · have ht : many < us.length := of_decide_eq_true ht
    refine run_set (i := 4) (a := (us.length : Int)) (ev_len (P := (· = us)) (n := us.length) (blt h) (es_own (i := 3) rfl) (fun xs e => by rw [e])) ?_
    refine run_for (ei_tup (ev_rules (x := x) h ((ev_var (i := 0) rfl)))) (bnd_pair (i := 5) (j := 6)) (I := fun rs i G' => ∃ (us' : List Rule) (a b : Slot), G' = [.im x, .im rl, .dk (kS (dv (uni [] rl.1) us')), .ls us', .im (us.length : Int), a, b, .no] ∧ Der x.rules (uni [] rl.1) us' ∧ Fnd x rl.1 (dv (uni [] rl.1) us') ∧
      us'.length ≤ (dv (uni [] rl.1) us').length ∧ us.length ≤ us'.length ∧ (us'.length = us.length → us' = us ∧ ∀ r ∈ rs.take i, within r.1 (dv (uni [] rl.1) us) = true → within r.2 (dv (uni [] rl.1) us) = true)) ?_ ?_ ?_ ?_
    · exact fun rs e => ⟨us, a, b, rfl, hd1, hf, hul, Nat.le_refl _, fun _ => ⟨rfl, by simp⟩⟩
    · rintro rs i G' ⟨us', a, b, rfl, _⟩
      rfl
    · rintro rs i r G' rfl hri ⟨us', a, b, rfl, hd', hf', hul', hl', hc'⟩
      have hmem : r ∈ x.rules := List.mem_of_getElem? hri
      have htk : x.rules.take (i + 1) = x.rules.take i ++ [r] := by rw [List.take_add_one, hri]; rfl
      have hz := hf'.len
      refine run_if (b := within r.1 (dv (uni [] rl.1) us') && !within r.2 (dv (uni [] rl.1) us')) (et_w (ew_and (et_val (ev_call (ok_are_within h) (r.1, .dic (dv (uni [] rl.1) us')) (ea_var (i := 5) (s := .im r.1) rfl (ea_var (i := 2) (s := .dk (kS (dv (uni [] rl.1) us'))) rfl ea_nil)) rfl trivial))
        fun _ => ew_and1 (et_not (et_val (ev_call (ok_are_within h) (r.2, .dic (dv (uni [] rl.1) us')) (ea_var (i := 6) (s := .im r.2) rfl (ea_var (i := 2) (s := .dk (kS (dv (uni [] rl.1) us'))) rfl ea_nil)) rfl trivial))))) (fun hw => ?_) (fun hw => ?_)
      · rw [Bool.and_eq_true, Bool.not_eq_true'] at hw
        have hm1 : (uni [] r.2).length ≤ x.cols.length := nodup_sub_len uni_nil.1 fun c hc => (hx.rules r hmem).rs c ((uni_nil.2 c).mp hc)
        have hf2 := hf'.more hx hmem hw.1
        refine run_updK (i := 2) (kvs := kS (dv (uni [] rl.1) us')) (more := kS (uni [] r.2)) (ev_dset (k := 7) rfl (ei_tup (ev_var (i := 6) (a := r.2) rfl)) (by kernel_rfl) rfl rfl (Nat.le_of_ble_eq_true rfl)) rfl (by rw [kS_len, kS_len]; omega) ?_
        refine run_append (i := 3) (xs := us') (P := (· = r)) (ev_pairE (ev_var (i := 5) (a := r.1) rfl) (ev_var (i := 6) (a := r.2) rfl)) rfl (by omega) fun y e => run_nil (run_nil ?_)
        rw [putAll_kS, e, ← dv_snoc]
        have hlt : (dv (uni [] rl.1) us').length < (dv (uni [] rl.1) (us' ++ [r])).length := by
          rw [dv_snoc]
          have : ∃ c ∈ r.2, c ∉ dv (uni [] rl.1) us' := by
            apply Classical.byContradiction
            intro hn
            have : within r.2 (dv (uni [] rl.1) us') = true := within_iff.mpr fun c hc => Classical.byContradiction fun z => hn ⟨c, hc, z⟩
            rw [hw.2] at this
            cases this
          obtain ⟨c, hc1, hc2⟩ := this
          exact uni_lt ((uni_nil.2 c).mpr hc1) hc2
        refine ⟨us' ++ [r], _, _, rfl, hd'.snoc hmem hw.1, by rw [dv_snoc]; exact hf2, by rw [List.length_append]; simp only [List.length_singleton]; omega, by rw [List.length_append]; omega, fun e => ?_⟩
        rw [List.length_append, List.length_singleton] at e
        omega
      · refine run_nil (run_nil ⟨us', _, _, rfl, hd', hf', hul', hl', fun e => ?_⟩)
        obtain ⟨e2, h2⟩ := hc' e
        refine ⟨e2, fun r' hr' hw' => ?_⟩
        rw [htk] at hr'
        rcases List.mem_append.mp hr' with z | z
        · exact h2 r' z hw'
        · rw [List.mem_singleton.mp z] at hw' ⊢
          rw [← e2] at hw' ⊢
          rw [hw', Bool.true_and] at hw
          simpa using hw
    · rintro rs G' rfl ⟨us', a, b, rfl, hd', hf', hul', hl', hc'⟩
      have hkl' := hf'.len
      refine run_nil ⟨_, ?_, us', _, a, b, rfl, hd', hf', hul', by omega, fun e => ?_, rfl⟩
      · rw [hm, if_pos ht]
        by_cases z : (us.length : Int) < us'.length
        · rw [if_pos z]; omega
        · rw [if_neg z]; omega
      · obtain ⟨e2, h2⟩ := hc' (by omega)
        rw [List.take_length] at h2
        rw [e2]
        exact closedB_iff.mpr fun r hr hl => within_iff.mp (h2 r hr (within_iff.mpr hl))
  · have ht : ¬ many < us.length := of_decide_eq_false ht
    have hcB := hcl2 (by omega)
    refine run_ret ((ev_tuple (P := (· = us)) (blt h) (es_own (i := 3) rfl)).imp fun ys e => ?_)
    rw [e]
    exact ⟨hd1, Cl_found hx.cols.asc hf.up hf.dn hcB⟩
end Mk
-- MkF7
namespace Mk
open Im (rep)
open PySem PySem.Spec PyProof.Rows L2
variable {T : Tx}
theorem sc_is_derived : FnScope ["rules", "rule", "used", "found", "left", "right", "column"] ["rules", "rule", "used"] (defScope (top 54)) := ⟨rfl, rfl, rfl, by decide +kernel, rfl, by decide +kernel, by decide +kernel⟩
structure DerPre {C : Addr} (b : Rul C × Rule × List Rule) : Prop where
  ok : RulOk b.1
  r : ROk b.1.cols b.2.1
  d : Der b.1.rules (uni [] b.2.1.1) b.2.2
  e : within b.2.1.2 (dv (uni [] b.2.1.1) b.2.2) = true
theorem dv_sub {cs ks : List Nm} (h : ∀ c ∈ ks, c ∈ cs) : ∀ {us : List Rule}, (∀ r ∈ us, ∀ c ∈ r.2, c ∈ cs) → ∀ c ∈ dv ks us, c ∈ cs := by
  intro us
  induction us generalizing ks with
  | nil => exact fun _ => h
  | cons r us ih =>
    intro hr
    refine ih (ks := uni ks (uni [] r.2)) (fun c hc => ?_) fun q hq => hr q (List.mem_cons_of_mem _ hq)
    rcases uni_uni.mp hc with z | z
    · exact h c z
    · exact hr r List.mem_cons_self c z
theorem dv_nodup {ks : List Nm} (h : ks.Nodup) : ∀ us : List Rule, (dv ks us).Nodup := by
  intro us
  induction us generalizing ks with
  | nil => exact h
  | cons r us ih => exact ih (nodup_uni h)
theorem ok_is_derived (h : Top T) : Fn T 2 "is_derived" (spC (β := RulT T × Rule × List Rule) false (fun b => [.im b.1, .im b.2.1, .im b.2.2]) DerPre (fun b => .im (· = true))) := by
  refine def_ok (at_is_derived h) sc_is_derived (fun _ _ _ _ _ _ us hl => match us, hl with | [_, _, _], _ => rfl) (fun b => rfl) fun b d hd hp => ?_
  obtain ⟨x, rl, us⟩ := b
  obtain ⟨hx, hr, hder, hend⟩ := hp
  have hx : RulOk x := hx
  have hr : ROk x.cols rl := hr
  have hcl := hx.cols.len
  have hlen : ∀ vs : List Rule, (∀ r ∈ vs, r ∈ x.rules) → (dv (uni [] rl.1) vs).length ≤ 8 := fun vs hv =>
    Nat.le_trans (nodup_sub_len (dv_nodup uni_nil.1 vs) (dv_sub (fun c hc => hr.ls c ((uni_nil.2 c).mp hc)) fun r hr' c hc => (hx.rules r (hv r hr')).rs c hc)) hcl
  refine run_setDc (i := 3) (dset_ok (k := 6) rfl (ei_tup (ev_fst (P := (· = rl)) (R := (· = rl.1)) ((ev_var (i := 1) rfl)) (fun x e => by rw [e]))) (by kernel_rfl) rfl rfl (Nat.le_of_ble_eq_true rfl)) (fun B σ H v H2 E hv => put_dk B _ σ H v H2 (Nat.le_of_ble_eq_true rfl) E hv) fun G' hG => ?_
  obtain ⟨_, rfl, rfl⟩ := hG
  refine run_for (ei_tup ((ev_var (i := 2) rfl))) (bnd_pair (i := 4) (j := 5)) (I := fun vs i G' => ∃ a b, G' = [.im x, .im rl, .im us, .dk (kS (dv (uni [] rl.1) (vs.take i))), a, b, .no]) (fun vs e => ⟨_, _, rfl⟩) ?_ ?_ ?_
  · rintro vs i G' ⟨a, b, rfl⟩; rfl
  · rintro vs i r G' rfl hri ⟨a, b, rfl⟩
    have hmem : r ∈ x.rules := hder.1 r (List.mem_of_getElem? hri)
    have hw := hder.2 i r hri
    have htk : vs.take (i + 1) = vs.take i ++ [r] := by rw [List.take_add_one, hri]; rfl
    have hm1 : (uni [] r.2).length ≤ x.cols.length := nodup_sub_len uni_nil.1 fun c hc => (hx.rules r hmem).rs c ((uni_nil.2 c).mp hc)
    have hl := hlen (vs.take i) fun q hq => hder.1 q (List.mem_of_mem_take hq)
    refine run_if (b := false) (EvT.to (et_not (et_val (ev_call (ok_are_within h) (r.1, .dic (dv (uni [] rl.1) (vs.take i))) (ea_var (i := 4) (s := .im r.1) rfl (ea_var (i := 3) (s := .dk (kS (dv (uni [] rl.1) (vs.take i)))) rfl ea_nil)) rfl trivial))) (by
      show (!within r.1 (dv (uni [] rl.1) (vs.take i))) = false
      rw [hw]; rfl)) (fun z => by cases z) fun _ => run_nil ?_
    refine run_updK (i := 3) (kvs := kS (dv (uni [] rl.1) (vs.take i))) (more := kS (uni [] r.2)) (ev_dset (k := 6) rfl (ei_tup (ev_var (i := 5) (a := r.2) rfl)) (by kernel_rfl) rfl rfl (Nat.le_of_ble_eq_true rfl)) rfl (by rw [kS_len, kS_len]; omega) (run_nil ⟨.im r.1, .im r.2, ?_⟩)
    rw [putAll_kS, htk, dv_snoc]
    rfl
  · rintro vs G' rfl ⟨a, b, rfl⟩
    rw [List.take_length]
    exact run_ret ((ev_call (ok_are_within h) (rl.2, .dic (dv (uni [] rl.1) vs)) (ea_im (ev_snd (P := (· = rl)) (R := (· = rl.2)) ((ev_var (i := 1) rfl)) (fun x e => by rw [e])) (ea_var (i := 3) (s := .dk (kS (dv (uni [] rl.1) vs))) rfl ea_nil)) rfl trivial).to hend)
inductive Paper where
  | der (us : List Rule)
  | apart (a b : List Int)
def repPaper (H : Hp) (v : V) : Paper → Prop
  | .der us => rep H v (("derived" : Str), us)
  | .apart a b => ∃ p u w, v = .ref p ∧ H p = some (.tup [.str "apart", u, w]) ∧ rep H u a ∧ rep H w b
instance : Im Paper := ⟨repPaper, fun {H H' v x} k h => by
  cases x with
  | der us => exact Im.keep (α := Str × List Rule) k h
  | apart a b => obtain ⟨p, u, w, e, h1, r1, r2⟩ := h; exact ⟨p, u, w, e, k p _ h1 trivial, Im.keep k r1, Im.keep k r2⟩⟩
def Paper.kind : Paper → Str
  | .der _ => "derived"
  | .apart _ _ => "apart"
section
variable {C : Cg} {G : List Slot}
theorem ev_paper0 {e : Expr} {j p pos : _} {x : Paper} (he : EvR C G e (.im (· = x))) : EvR C G (.Subscript e (.Constant (.int 0) j p) pos) (.im (· = x.kind)) := fun B σ H E Q q => by
  refine tE_of (t := tOp (rIx C.T.K) (tE C e) (tE C (.Constant (.int 0) j p))) (fun X ok => by rw [← ok.K]; exact pe_ix ix_seq (pe_tE ok) (pe_tE ok) (fun _ _ => rfl)) ?_
  refine he B σ H E _ fun v H1 ⟨l, z, ez, r⟩ => tE_of (fun X ok => pe_int) ?_
  subst ez
  cases z with
  | der us =>
    obtain ⟨a, u, w, ev, ha, r1, r2⟩ := r
    exact .inr (.inl ⟨a, [u, w], 0, u, ev, rfl, .inl (.inl ha), rfl, q u H1 ⟨l, _, rfl, r1⟩⟩)
  | apart a b =>
    obtain ⟨a, u, w, ev, ha, r1, r2⟩ := r
    exact .inr (.inl ⟨a, [.str "apart", u, w], 0, .str "apart", ev, rfl, .inl (.inl ha), rfl, q _ H1 ⟨l, _, rfl, rfl⟩⟩)
theorem ev_apart {e1 e2 e3 : Expr} {k pos : _} {a b : List Int} (h1 : EvR C G e1 (.im (· = ("apart" : Str)))) (h2 : EvR C G e2 (.im (· = a))) (h3 : EvR C G e3 (.im (· = b))) (hs : ∀ env, starEach [e1, e2, e3] env = (false, eval e1 env) :: starEach [e2, e3] env := by intro _; rfl)
    (hs2 : ∀ env, starEach [e2, e3] env = (false, eval e2 env) :: starEach [e3] env := by intro _; rfl) (hs3 : ∀ env, starEach [e3] env = (false, eval e3 env) :: starEach [] env := by intro _; rfl) : EvR C G (.Tuple [e1, e2, e3] k pos) (.im (· = Paper.apart a b)) := fun B σ H E Q q => by
  refine tE_of (t := tTup (tA C [e1, e2, e3])) (fun X ok => pe_tup (pa_tA ok)) ?_
  refine ea_im h1 (ea_im h2 (ea_im h3 ea_nil hs3) hs2) hs B σ H E _ fun vs H1 ss l e ar => ?_
  subst e
  match vs, ar with
  | [u, v, w], ⟨⟨u', eu, ru⟩, ⟨v', ev, rv⟩, ⟨w', ew, rw'⟩, _⟩ =>
    cases eu
    cases ev
    cases ew
    cases ru
    have tl {t o} (ht : H1 t = none) : TLe H1 (upd H1 t o) := (Le.new (d := none) ht).tle
    exact ⟨by rw [sizeLine_eq]; simp, fun t ht => q _ _ ⟨l.trans (Le.new ht), .apart a b, rfl, t, v, w, rfl, upd_same, Im.keep (tl ht) rv, Im.keep (tl ht) rw'⟩⟩
end
def PaperIs {C : Addr} (b : Rul C × Rule) (p : Paper) : Prop := if within b.2.2 (Cl b.1.cols b.1.rules b.2.1) = true then ∃ us, Used b us ∧ p = .der us else ∃ a c, p = .apart a c
theorem sc_rule_paper_in : FnScope ["rules", "rule", "some"] ["rules", "rule"] (defScope (top 52)) := ⟨rfl, rfl, rfl, by decide +kernel, rfl, by decide +kernel, by decide +kernel⟩
theorem ok_rule_paper_in (h : Top T) : Fn T 6 "rule_paper_in" (spC (β := RulT T × Rule) false (fun b => [.im b.1, .im b.2]) RulRule (fun b => .im (PaperIs b))) := by
  refine def_ok (at_rule_paper_in h) sc_rule_paper_in (fun _ _ _ _ _ _ us hl => match us, hl with | [_, _], _ => rfl) (fun b => rfl) fun b d hd hp => ?_
  obtain ⟨x, rl⟩ := b
  refine run_if (et_val (ev_call (ok_follows_in h) (x, rl) (ea_var (i := 0) rfl (ea_var (i := 1) rfl ea_nil)) rfl hp)) (fun e => ?_) (fun e => run_nil ?_)
  · have e : within rl.2 (Cl x.cols x.rules rl.1) = true := e
    refine run_ret (fun B σ H E Q q => ev_pair (P := (· = ("derived" : Str))) (R := Used (x, rl)) (ev_glob (v := .str "derived") (g_DERIVED h) fun H => rfl) (ev_call (ok_used_rules h) (x, rl) (ea_var (i := 0) rfl (ea_var (i := 1) rfl ea_nil)) rfl hp) (by intro _; rfl) (by intro _; rfl) B σ H E Q fun v H2 ⟨l, z, ⟨e1, e2⟩, r⟩ => q v H2 ⟨l, .der z.2, ?_, ?_⟩)
    · unfold PaperIs
      rw [if_pos e]
      exact ⟨_, e2, rfl⟩
    · show rep H2 v (("derived" : Str), z.2)
      rw [← show z.1 = "derived" from e1]
      exact r
  · have e : within rl.2 (Cl x.cols x.rules rl.1) = false := e
    refine run_set (i := 2) (a := Cl x.cols x.rules rl.1) (ev_call (ok_closure_in h) (x, rl.1) (ea_var (i := 0) rfl (ea_im (ev_fst (P := (· = rl)) (R := (· = rl.1)) ((ev_var (i := 1) rfl)) (fun x e => by rw [e])) ea_nil)) rfl ⟨hp.1, hp.2.ls⟩) ?_
    refine run_ret ((ev_apart (ev_glob (v := .str "apart") (g_APART h) fun H => rfl) (ev_call (ok_row_beside h) (x.cols, x.cols, 1) (ea_im (ev_columns (x := x) h ((ev_var (i := 0) rfl))) (ea_im (ev_columns (x := x) h ((ev_var (i := 0) rfl))) (ea_im ev_int ea_nil))) rfl trivial)
      (ev_call (ok_row_beside h) (x.cols, Cl x.cols x.rules rl.1, 1) (ea_im (ev_columns (x := x) h ((ev_var (i := 0) rfl))) (ea_var (i := 2) rfl (ea_im ev_int ea_nil))) rfl trivial)).imp fun z ez => ?_)
    unfold PaperIs
    rw [if_neg (by rw [e]; exact Bool.false_ne_true)]
    exact ⟨_, _, ez⟩
theorem sc_rule_paper : FnScope ["rules", "rule"] ["rules", "rule"] (defScope (top 53)) := ⟨rfl, rfl, rfl, by decide +kernel, rfl, by decide +kernel, by decide +kernel⟩
theorem ok_rule_paper (h : Top T) : Fn T 7 "rule_paper" (spC (β := RulT T × Rule) false (fun b => [.im b.1, .im b.2]) RulRule (fun b => .im (PaperIs b))) := by
  refine def_ok (at_rule_paper h) sc_rule_paper (fun _ _ _ _ _ _ us hl => match us, hl with | [_, _], _ => rfl) (fun b => rfl) fun b d hd hp => ?_
  refine run_expr (ev_call (ok_require_rules h) b.1 (ea_var (i := 0) rfl ea_nil) rfl trivial) ?_
  refine run_expr (ev_call (ok_require_rule_of h) b (ea_var (i := 0) rfl (ea_var (i := 1) rfl ea_nil)) rfl hp) ?_
  exact run_ret (ev_call (ok_rule_paper_in h) b (ea_var (i := 0) rfl (ea_var (i := 1) rfl ea_nil)) rfl hp)
theorem sc_is_rule_paper_in : FnScope ["rules", "rule", "value", "used", "one"] ["rules", "rule", "value"] (defScope (top 57)) := ⟨rfl, rfl, rfl, by decide +kernel, rfl, by decide +kernel, by decide +kernel⟩
theorem ok_is_rule_paper_in (h : Top T) : Fn T 3 "is_rule_paper_in" (spC (β := RulT T × Rule × List Rule) false (fun b => [.im b.1, .im b.2.1, .im (("derived" : Str), b.2.2)]) DerPre (fun b => .im (· = true))) := by
  refine def_ok (at_is_rule_paper_in h) sc_is_rule_paper_in (fun _ _ _ _ _ _ us hl => match us, hl with | [_, _, _], _ => rfl) (fun b => rfl) fun b d hd hp => ?_
  obtain ⟨x, rl, us⟩ := b
  have hv {C : Cg} {G : List Slot} {e : Expr} {j p pos : _} (he : EvR C G e (.im (· = (("derived" : Str), us)))) : EvR C G (.Subscript e (.Constant (.int 0) j p) pos) (.im (· = ("derived" : Str))) := ev_fst he fun x e => by rw [e]
  refine run_if (b := false) (EvT.to (et_w (ew_or (x := false) (y := false) ((et_not (et_val (ev_isi (α := Str × List Rule) (P := (· = (("derived" : Str), us))) (b := true) (blt h) ((ev_var (i := 2) rfl)) (blt h).tuple (fun K => kit_ty (by decide +kernel)) PyProof.Rows.boot_tuple))).to rfl)
    fun _ => ew_or (x := false) (y := false) ((ev_ltE (ev_lenP (α := Str) (β := List Rule) (blt h) (x := (("derived" : Str), us)) ((ev_var (i := 2) rfl))) ev_int).t.to rfl)
    fun _ => ew_or1 ((et_not (et_val (ev_isi (α := Str) (P := (· = ("derived" : Str))) (b := true) (blt h) (hv ((ev_var (i := 2) rfl))) (blt h).str (fun K => kit_ty (by decide +kernel)) PyProof.Rows.boot_str))).to rfl))) rfl) (fun z => by cases z) fun _ => run_nil ?_
  refine run_if (b := true) (EvT.to (et_w (ew_and (x := true) (y := true) ((ev_eqS (hv ((ev_var (i := 2) rfl))) (ev_glob (v := .str "derived") (g_DERIVED h) fun H => rfl)).t.to (decide_eq_true rfl)) fun _ => ew_and1 ((ev_eqD (ev_lenP (α := Str) (β := List Rule) (blt h) (x := (("derived" : Str), us)) ((ev_var (i := 2) rfl))) ev_int).t.to rfl))) rfl) (fun _ => ?_) fun z => by cases z
  refine run_set (i := 3) (a := us) (ev_snd (P := (· = (("derived" : Str), us))) (R := (· = us)) ((ev_var (i := 2) rfl)) (fun x e => by rw [e])) ?_
  refine run_ret (((ev_and (x := true) (y := true) (ev_isi (α := List Rule) (P := (· = us)) (b := true) (blt h) ((ev_var (i := 3) rfl)) (blt h).tuple (fun K => kit_ty (by decide +kernel)) PyProof.Rows.boot_tuple) fun _ => ev_and (x := true) (y := true)
    ((ev_all (blt h) (ev_lc (own := [("one", 4)]) (lc_map (fun r : Rule => decide (r ∈ x.rules)) rfl (ei_tup ((ev_var (i := 3) rfl))) (by kernel_rfl) (bnd_name (i := 4)) (by decide) fun r hr => ?_))).to ?_) fun _ => ev_one (ev_call (ok_is_derived h) (x, rl, us) (ea_var (i := 0) rfl (ea_var (i := 1) rfl (ea_var (i := 3) rfl ea_nil))) rfl hp))).to rfl)
  · exact ev_inRules (ans := fun b => decide (b.1 ∈ b.2.rules)) h (ok_contains h) (ev_var (i := 4) (a := r) rfl) (ev_var (i := 0) (a := x) rfl) trivial
  · exact all_true fun r hr => decide_eq_true (hp.d.1 r hr)
theorem sc_is_rule_paper : FnScope ["rules", "rule", "value"] ["rules", "rule", "value"] (defScope (top 58)) := ⟨rfl, rfl, rfl, by decide +kernel, rfl, by decide +kernel, by decide +kernel⟩
theorem ok_is_rule_paper (h : Top T) : Fn T 7 "is_rule_paper" (spC (β := RulT T × Rule × List Rule) false (fun b => [.im b.1, .im b.2.1, .im (("derived" : Str), b.2.2)]) DerPre (fun b => .im (· = true))) := by
  refine def_ok (at_is_rule_paper h) sc_is_rule_paper (fun _ _ _ _ _ _ us hl => match us, hl with | [_, _, _], _ => rfl) (fun b => rfl) fun b d hd hp => ?_
  refine run_expr (ev_call (ok_require_rules h) b.1 (ea_var (i := 0) rfl ea_nil) rfl trivial) ?_
  refine run_expr (ev_call (ok_require_rule_of h) (b.1, b.2.1) (ea_var (i := 0) rfl (ea_var (i := 1) rfl ea_nil)) rfl ⟨hp.ok, hp.r⟩) ?_
  exact run_ret (ev_call (ok_is_rule_paper_in h) b (ea_var (i := 0) rfl (ea_var (i := 1) rfl (ea_var (i := 2) rfl ea_nil))) rfl hp)
end Mk
-- MkF8
namespace Mk
open Im (rep)
open PySem PySem.Spec PyProof.Rows L2
variable {T : Tx}
def sharedL (cs : List Nm) (r o : List Int) : List Nm := ((zip3 cs r o).filter fun t => decide (t.y = t.z)).map (·.x)
def RowsPre (b : List Nm × List Int × List Int) : Prop := b.2.1.length = b.1.length ∧ b.2.2.length = b.1.length
theorem sc_shared_by : FnScope ["columns", "row", "other", "column", "one", "two"] ["columns", "row", "other"] (defScope (top 55)) := ⟨rfl, rfl, rfl, by decide +kernel, rfl, by decide +kernel, by decide +kernel⟩
theorem ok_shared_by (h : Top T) : Fn T 1 "shared_by" (spC (β := List Nm × List Int × List Int) false (fun b => [.im b.1, .im b.2.1, .im b.2.2]) RowsPre (fun b => .im (· = sharedL b.1 b.2.1 b.2.2))) := by
  refine def_ok (at_shared_by h) sc_shared_by (fun _ _ _ _ _ _ us hl => match us, hl with | [_, _, _], _ => rfl) (fun b => rfl) fun b d hd hp => ?_
  obtain ⟨cs, r, o⟩ := b
  obtain ⟨h1, h2⟩ := hp
  refine run_ret (ev_tuple (P := (· = sharedL cs r o)) (blt h) (es_ls (ev_lc (own := [("column", 3), ("one", 4), ("two", 5)]) (lc_filter (fun t : Tri Nm Int Int => decide (t.y = t.z)) (·.x) rfl (ei_zip3K (blt h) ((ev_var (i := 0) rfl)) ((ev_var (i := 1) rfl)) ((ev_var (i := 2) rfl)) h1 h2) (by kernel_rfl) (bnd_tri (i := 3) (j := 4) (k := 5)) (by decide) (fun t ht => ?_) fun t ht _ => ?_))))
  · exact (ev_eqD (ev_var (i := 4) (a := t.y) rfl) (ev_var (i := 5) (a := t.z) rfl)).t
  · exact (ev_var (i := 3) rfl)
theorem sc_law_agreement : FnScope ["_law_columns_here", "_law_row", "_law_other", "_law_name", "_law_one", "_law_two"] ["_law_columns_here", "_law_row", "_law_other"] (defScope (top 76)) := ⟨rfl, rfl, rfl, by decide +kernel, rfl, by decide +kernel, by decide +kernel⟩
theorem ok_law_agreement (h : Top T) : Fn T 1 "_law_agreement" (spC (β := List Nm × List Int × List Int) false (fun b => [.im b.1, .im b.2.1, .im b.2.2]) RowsPre (fun b => .im (· = sharedL b.1 b.2.1 b.2.2))) := by
  refine def_ok (at_law_agreement h) sc_law_agreement (fun _ _ _ _ _ _ us hl => match us, hl with | [_, _, _], _ => rfl) (fun b => rfl) fun b d hd hp => ?_
  obtain ⟨cs, r, o⟩ := b
  obtain ⟨h1, h2⟩ := hp
  refine run_ret (ev_tuple (P := (· = sharedL cs r o)) (blt h) (es_ls (ev_lc (own := [("_law_name", 3), ("_law_one", 4), ("_law_two", 5)]) (lc_filter (fun t : Tri Nm Int Int => decide (t.y = t.z)) (·.x) rfl (ei_zip3 (blt h) ((ev_var (i := 0) rfl)) ((ev_var (i := 1) rfl)) ((ev_var (i := 2) rfl)) h1 h2) (by kernel_rfl) (bnd_tri (i := 3) (j := 4) (k := 5)) (by decide) (fun t ht => ?_) fun t ht _ => ?_))))
  · exact (ev_eqD (ev_var (i := 4) (a := t.y) rfl) (ev_var (i := 5) (a := t.z) rfl)).t
  · exact (ev_var (i := 3) rfl)
def sharedAll (cs : List Nm) (ss : List (List Nm)) : List Nm := cs.filter fun c => ss.all fun s => decide (c ∈ s)
theorem sc_shared_by_all : FnScope ["columns", "some", "column", "one"] ["columns", "some"] (defScope (top 59)) := ⟨rfl, rfl, rfl, by decide +kernel, rfl, by decide +kernel, by decide +kernel⟩
theorem ok_shared_by_all (h : Top T) : Fn T 1 "shared_by_all" (spC (β := List Nm × List (List Nm)) false (fun b => [.im b.1, .ro b.2]) (fun _ => True) (fun b => .im (· = sharedAll b.1 b.2))) := by
  refine def_ok (at_shared_by_all h) sc_shared_by_all (fun _ _ _ _ _ _ us hl => match us, hl with | [_, _], _ => rfl) (fun b => rfl) fun b d hd hp => ?_
  obtain ⟨cs, ss⟩ := b
  refine run_ret ((ev_tuple (blt h) (es_ls (ev_lc (own := [("column", 2)]) (lc_filter (fun c : Nm => ss.all fun s => decide (c ∈ s)) (fun c => c) rfl (ei_tup ((ev_var (i := 0) rfl))) (by kernel_rfl) (bnd_name (i := 2)) (by decide) (fun c hc => ?_) fun c hc _ => (ev_var (i := 2) rfl))))).to (List.map_id _))
  refine et_val ((ev_all (blt h) (ev_lc (own := [("one", 3)]) (lc_map (fun s : List Nm => decide (c ∈ s)) rfl (ei_ro (i := 1) rfl) (by kernel_rfl) (bnd_name (i := 3)) (by decide) fun s hs => ?_))).to ?_)
  · exact (ev_inNm (x := c) (xs := s) ((ev_var (i := 2) rfl)) (es_im ((ev_var (i := 3) rfl)))).v
  · rw [List.all_map]; rfl
theorem sc_law_common : FnScope ["_law_some_here", "_law_other", "_law_name"] ["_law_some_here", "_law_other"] (defScope (top 77)) := ⟨rfl, rfl, rfl, by decide +kernel, rfl, by decide +kernel, by decide +kernel⟩
def common (a b : List Nm) : List Nm := a.filter fun c => decide (c ∈ b)
theorem ok_law_common (h : Top T) : Fn T 1 "_law_common" (spC (β := List Nm × List Nm) false (fun b => [.im b.1, .im b.2]) (fun _ => True) (fun b => .im (· = common b.1 b.2))) := by
  refine def_ok (at_law_common h) sc_law_common (fun _ _ _ _ _ _ us hl => match us, hl with | [_, _], _ => rfl) (fun b => rfl) fun b d hd hp => ?_
  obtain ⟨cs, ss⟩ := b
  refine run_ret ((ev_tuple (blt h) (es_ls (ev_lc (own := [("_law_name", 2)]) (lc_filter (fun c : Nm => decide (c ∈ ss)) (fun c => c) rfl (ei_tup ((ev_var (i := 0) rfl))) (by kernel_rfl) (bnd_name (i := 2)) (by decide) (fun c hc => ?_) fun c hc _ => (ev_var (i := 2) rfl))))).to (List.map_id _))
  exact (ev_inNm (x := c) (xs := ss) ((ev_var (i := 2) rfl)) (es_im ((ev_var (i := 1) rfl)))).t
theorem sc_law_joined : FnScope ["_law_columns_here", "_law_some_here", "_law_more", "_law_name"] ["_law_columns_here", "_law_some_here", "_law_more"] (defScope (top 70)) := ⟨rfl, rfl, rfl, by decide +kernel, rfl, by decide +kernel, by decide +kernel⟩
def joined (cs a b : List Nm) : List Nm := cs.filter fun c => decide (c ∈ a) || decide (c ∈ b)
theorem ok_law_joined (h : Top T) : Fn T 1 "_law_joined" (spC (β := List Nm × List Nm × List Nm) false (fun b => [.im b.1, .im b.2.1, .im b.2.2]) (fun _ => True) (fun b => .im (· = joined b.1 b.2.1 b.2.2))) := by
  refine def_ok (at_law_joined h) sc_law_joined (fun _ _ _ _ _ _ us hl => match us, hl with | [_, _, _], _ => rfl) (fun b => rfl) fun b d hd hp => ?_
  obtain ⟨cs, s1, s2⟩ := b
  refine run_ret ((ev_tuple (blt h) (es_ls (ev_lc (own := [("_law_name", 3)]) (lc_filter (fun c : Nm => decide (c ∈ s1) || decide (c ∈ s2)) (fun c => c) rfl (ei_tup ((ev_var (i := 0) rfl))) (by kernel_rfl) (bnd_name (i := 3)) (by decide) (fun c hc => ?_) fun c hc _ => (ev_var (i := 3) rfl))))).to (List.map_id _))
  exact et_w (ew_or (ev_inNm (x := c) (xs := s1) ((ev_var (i := 3) rfl)) (es_im ((ev_var (i := 1) rfl)))).t fun _ => ew_or1 (ev_inNm (x := c) (xs := s2) ((ev_var (i := 3) rfl)) (es_im ((ev_var (i := 2) rfl)))).t)
def closedL (cs : List Nm) (rs : List Rule) : List (List Nm) := (setsOf cs).filter (closedB rs)
def greaterL (L : List (List Nm)) (s : List Nm) : List (List Nm) := L.filter fun o => !decide (o = s) && within s o
def isLeast (cs : List Nm) (L : List (List Nm)) (s : List Nm) : Bool := !decide (s = cs) && !decide (sharedAll cs (greaterL L s) = s)
def leastL (cs : List Nm) (rs : List Rule) : List (List Nm) := (closedL cs rs).filter (isLeast cs (closedL cs rs))
theorem closedL_len {cs : List Nm} (h : C5 cs) (rs : List Rule) : (closedL cs rs).length ≤ 18750 := Nat.le_trans (List.length_filter_le _ _) (setsOf_len h)
theorem filter_take {α : Type} (p : α → Bool) {L : List α} {i : Nat} {s : α} (h : L[i]? = some s) : (L.take (i + 1)).filter p = (L.take i).filter p ++ (if p s then [s] else []) := by
  rw [List.take_add_one, h, List.filter_append]
  cases e : p s <;> simp [e]
theorem sc_least_closed : FnScope ["rules", "closed", "found", "some", "greater", "one"] ["rules"] (defScope (top 60)) := ⟨rfl, rfl, rfl, by decide +kernel, rfl, by decide +kernel, by decide +kernel⟩
theorem ok_least_closed (h : Top T) : Fn T 5 "least_closed" (spC (β := RulT T) false (fun b => [.im b]) RulPre (fun b => .ls (· = leastL b.cols b.rules))) := by
  refine def_ok (at_least_closed h) sc_least_closed (fun _ _ _ _ _ _ us hl => match us, hl with | [_], _ => rfl) (fun b => rfl) fun x d hd hp => ?_
  obtain ⟨hx, hc⟩ := hp
  have hsl := closedL_len hc x.rules
  refine run_setLcR (i := 1) (own := [("some", 3)]) (P := (· = closedL x.cols x.rules)) ((lc_filter (closedB x.rules) (fun s : List Nm => s) rfl (ei_new (ev_call (ok_sets_of h) x.cols (ea_im (ev_columns (x := x) h ((ev_var (i := 0) rfl))) ea_nil) rfl hc)) (by kernel_rfl) (bnd_name (i := 3)) (by decide) (fun s hs => ?_) fun s hs _ => (ev_var (i := 3) rfl)).imp fun ys e => e.trans (List.map_id _)) fun _ e => ?_
  · exact et_val (ev_call (ok_is_closed_in h) (x, s) (ea_var (i := 0) rfl (ea_var (i := 3) (s := .im s) rfl ea_nil)) rfl trivial)
  subst e
  refine run_let (i := 2) put_ls (ev_lst0 (α := List Nm)) fun G' hG => ?_
  obtain ⟨_, rfl, rfl⟩ := hG
  refine run_for (ei_ro (i := 1) (xs := closedL x.cols x.rules) rfl) (bnd_name (i := 3)) (I := fun L i G' => ∃ a b, G' = [.im x, .ro (closedL x.cols x.rules), .ls ((L.take i).filter (isLeast x.cols (closedL x.cols x.rules))), a, b, .no]) (fun L e => ⟨_, _, by rw [List.take_zero]; rfl⟩) ?_ ?_ ?_
  · rintro L i G' ⟨a, b, rfl⟩; rfl
  · rintro L i s G' rfl hs ⟨a, b, rfl⟩
    have hz : (((closedL x.cols x.rules).take i).filter (isLeast x.cols (closedL x.cols x.rules))).length ≤ 100000 := by
      have h1 := List.length_filter_le (isLeast x.cols (closedL x.cols x.rules)) ((closedL x.cols x.rules).take i)
      rw [List.length_take] at h1
      omega
    refine run_setLcR (i := 4) (own := [("one", 5)]) (P := (· = greaterL (closedL x.cols x.rules) s)) ((lc_filter (fun o : List Nm => !decide (o = s) && within s o) (fun s : List Nm => s) rfl (ei_ro (i := 1) rfl) (by kernel_rfl) (bnd_name (i := 5)) (by decide) (fun o ho => ?_) fun o ho _ => (ev_var (i := 5) rfl)).imp fun ys e => e.trans (List.map_id _)) fun _ e => ?_
    · exact et_w (ew_and (ev_neD (ev_var (i := 5) (a := o) rfl) (ev_var (i := 3) (a := s) rfl)).t fun _ => ew_and1 (et_val (ev_within h ((ev_var (i := 3) rfl)) ((ev_var (i := 5) rfl)))))
    subst e
    refine run_if (b := isLeast x.cols (closedL x.cols x.rules) s) (et_w (ew_and (ev_neD (ev_var (i := 3) (a := s) rfl) (ev_columns (x := x) h ((ev_var (i := 0) rfl)))).t fun _ => ew_and1 (ev_neD (ev_call (ok_shared_by_all h) (x.cols, greaterL (closedL x.cols x.rules) s) (ea_im (ev_columns (x := x) h ((ev_var (i := 0) rfl))) (ea_var (i := 4) rfl ea_nil)) rfl trivial) (ev_var (i := 3) (a := s) rfl)).t)) (fun ht => ?_) (fun ht => ?_)
    · refine run_append (α := List Nm) (i := 2) (P := (· = s)) (ev_var (i := 3) rfl) rfl hz fun y e => run_nil (run_nil ⟨.im s, .ro (greaterL (closedL x.cols x.rules) s), ?_⟩)
      rw [filter_take _ hs, ht, e]
      rfl
    · refine run_nil (run_nil ⟨.im s, .ro (greaterL (closedL x.cols x.rules) s), ?_⟩)
      rw [filter_take _ hs, ht]
      show _ = [_, _, Slot.ls (_ ++ []), _, _, _]
      rw [List.append_nil]
      rfl
  · rintro L G' rfl ⟨a, b, rfl⟩
    rw [List.take_length]
    exact run_retLs (i := 2) rfl rfl rfl
end Mk
-- MkEn
namespace MkE
open PySem PySem.Calls PyProof.Rows PySem.Spec L2
set_option maxHeartbeats 1000000 in
theorem en_new {v : Value} {o : Obj} {H : Heap → Prop} (B : Begins v o H) :
    Meets (Builtin.«enumerate.__new__» ⟨[.type "enumerate", v], []⟩) (fun _ R s => H s.heap ∧
      R (.ok (.ret (.ref (s.heap.push o).objs.size))) { s with heap := (s.heap.push o).push { cls := .type "enumerate", data := .fields #[.none, .bool false, .ref s.heap.objs.size, rawInt 0, .none, .none] } }) :=
  .of_wp fun prog w A R s hh => by
    obtain ⟨hp, g, d, tk, os⟩ := s
    obtain ⟨h1, hr⟩ := hh
    have hsub := sub_enumerate
    have begins : ∀ {A' : Around} {E : Value → Shared → Prop} {Q : Value → Shared → Prop}, Q (.ref hp.objs.size) ⟨hp.push o, g, d, tk, os⟩ → wpAny (model prog w) A' (pyIter v) Q E ⟨hp, g, d, tk, os⟩ :=
      fun z => B.iter prog w _ _ ⟨hp, g, d, tk, os⟩ _ h1 z
    wp_walk using begins
    refine wpAny_stack_any fun st => wpAny_pure ?_
    split
    next c _ _ _ _ _ => cases (c == Value.type "enumerate") <;> (wp_walk using begins; exact ⟨_, rfl, hr⟩)
    all_goals (wp_walk using begins; exact ⟨_, rfl, hr⟩)
section
variable {prog : Program} {w : World} {A : Around} {E : Value → Shared → Prop} {s : Shared}
theorem en_begins {v : Value} {o : Obj} {H : Heap → Prop} {Q : Value → Shared → Prop} (B : Begins v o H) (h1 : H s.heap)
    (h : ∀ h', IsEnum h' (s.heap.objs.size + 1) s.heap.objs.size 0 .none → h'.get? s.heap.objs.size = some o → (∀ b o, s.heap.get? b = some o → h'.get? b = some o) → Q (.ref (s.heap.objs.size + 1)) { s with heap := h' }) :
    wpAny (model prog w) A (call (.type "enumerate") [v]) Q E s := by
  refine callType_new F.called_enumerate (by decide) (F.typeCall_enumerate_1 _) (F.newCall_enumerate_1 _) (fun obj => F.args_object_init_2 obj _) F.entry_enumerate_new (en_new B) ⟨h1, ?_⟩
  have hz : (s.heap.push o).objs.size = s.heap.objs.size + 1 := Heap.size_push ..
  have he := Heap.get?_push_size (s.heap.push o) (o := { cls := .type "enumerate", data := .fields #[.none, .bool false, .ref s.heap.objs.size, rawInt 0, .none, .none] }) rfl
  show _ ∧ _
  rw [hz] at he ⊢
  exact ⟨⟨_, he, rfl⟩, h _ he (Heap.get?_push_of_some _ (Heap.get?_push_size _ B.free)) fun b o x => Heap.get?_push_of_some _ (Heap.get?_push_of_some _ x)⟩
end
def IeT (K : PySem.W.Frag) (a : Addr) : It :=
  ⟨fun i H => ∃ (xs : List V) (x : V), SqT K H a xs ∧ xs[i]? = some x, fun i H v H' => ∃ T x, v = .ref T ∧ H T = none ∧ H' = upd H T (.tup [.int (i : Nat), x]) ∧ ∀ xs, SqT K H a xs → xs[i]? = some x, fun i H => ∃ xs : List V, SqT K H a xs ∧ xs.length = i⟩
theorem turn_eT {P : Program} {w : World} {K : PySem.W.Frag} {elts : List Expr} {kk : Nat} {tpos : Pos} (a e it : Addr) (hea : e ≠ a) :
    Turn P w K (.Tuple elts kk tpos) (IeT K a) [e, it] e (fun i h => (∃ old, IsEnum h e it ((i : Nat) : Int) old) ∧ h.IsTupleIter it a i ∧ e ≠ it) where
  mem := by simp
  obj := fun i h st b hb => by
    obtain ⟨⟨old, he⟩, ⟨o, ho, _, hd⟩, _⟩ := st
    rcases List.mem_cons.mp hb with z | z
    · rw [z]; exact ⟨_, he, fun v q => nomatch q⟩
    · rw [List.mem_singleton.mp z]; exact ⟨o, ho, fun v q => by rw [hd] at q; cases q⟩
  keep := fun i h h' st k => by
    obtain ⟨⟨old, he⟩, hi, hne⟩ := st
    exact ⟨⟨old, k e (by simp) _ he⟩, hi.at fun o q => k it (by simp) o q, hne⟩
  item := by
    intro X hP hw hK hc i pins s σ H E I hf st hg
    subst hP hw hK
    obtain ⟨⟨old, he⟩, hit, hne⟩ := st
    obtain ⟨xs, x, hq, hx⟩ := hg
    obtain ⟨its, rv, p, _⟩ := I.tuple hq
    obtain ⟨u, hu, ru⟩ := rv.get hx
    have hel : e < s.heap.objs.size := Heap.lt_size he
    have hil : it < s.heap.objs.size := by obtain ⟨_, q, _⟩ := hit; exact Heap.lt_size q
    have nea : a ≠ it := fun z => by
      obtain ⟨o1, q1, c1, _⟩ := hit
      obtain ⟨o2, q2, c2, _⟩ := p
      rw [z, q1] at q2
      cases q2
      rw [c1] at c2
      exact absurd c2 (by decide)
    have D := Draws.tuple (prog := X.prog) (w := X.w) (A := X.A.in1) (I.ok.hd hc) it a nea its.toArray
    have hlt : i < its.toArray.size := by
      have := (List.getElem?_eq_some_iff.mp hu).1
      simpa using this
    refine wpAny_pyNext_enum_itemD D he ⟨hit, p⟩ hlt hne (by simp [hne, hea]) fun y h' tk hy ho st' hT hsz hk => ?_
    have hy : its[i]? = some y := by simpa using hy
    rw [hu] at hy
    cases hy
    refine ⟨_, rfl, wpAny_letOwnedTupleGo_enum (s := { s with heap := h', toks := tk + 1 }) ho fun h'' he' sb => ?_⟩
    have hT2 : h''.get? s.heap.objs.size = some { cls := .type "tuple", data := .seq #[.int i tk, u] } := (sb.2 _ (Nat.ne_of_gt hel)).trans hT
    have new : ObjOk X.prog X.w (upd H s.heap.objs.size (.tup [.int (i : Nat), x])) h'' s.heap.objs.size (.tup [.int (i : Nat), x]) :=
      ⟨by show 2 ≤ sizeLine; decide, [.int i tk, u], .cons ⟨_, rfl⟩ (.cons ru .nil), ⟨_, hT2, rfl, _, rfl⟩⟩
    have I1 : Inv X pins σ (upd H s.heap.objs.size (.tup [.int (i : Nat), x])) { s with heap := h'', toks := tk + 1 } :=
      I.turnedNew (ch := [e, it]) (fun b ob hb q => (sb.2 b (fun z => hb (by simp [z]))).trans (hk b ob (fun z => hb (by simp [z])) (fun z => hb (by simp [z])) q)) hf (Nat.le_refl _) new
    refine ⟨.ref s.heap.objs.size, _, I1, rfl, ⟨_, x, rfl, I.hok.fresh (Nat.le_refl _), rfl, fun ys hy => by rw [I.tuple_inj hy hq]; exact hx⟩, ⟨⟨u, ?_⟩, st'.1.at fun o q => (sb.2 it (Ne.symm hne)).trans q, hne⟩, fun b hb => ?_⟩
    · have e1 : ((i + 1 : Nat) : Int) = (i : Int) + 1 := by omega
      rw [e1]; exact he'
    · have hb' : b < s.heap.objs.size := by
        rcases List.mem_cons.mp hb with z | z
        · rw [z]; exact hel
        · rw [List.mem_singleton.mp z]; exact hil
      rw [upd_ne (Nat.ne_of_lt hb')]
      exact (hf b hb).1
  done := by
    intro X hP hw hK hc i pins s σ H E I hf st hg
    subst hP hw hK
    obtain ⟨⟨old, he⟩, hit, hne⟩ := st
    obtain ⟨xs, hq, hx⟩ := hg
    obtain ⟨its, rv, p, _⟩ := I.tuple hq
    obtain ⟨f0, f1, f2, f3, f4, f5⟩ := hf it (by simp)
    have nea : a ≠ it := fun z => by
      obtain ⟨o1, q1, c1, _⟩ := hit
      obtain ⟨o2, q2, c2, _⟩ := p
      rw [z, q1] at q2
      cases q2
      rw [c1] at c2
      exact absurd c2 (by decide)
    have D := Draws.tuple (prog := X.prog) (w := X.w) (A := X.A.in1) (I.ok.hd hc) it a nea its.toArray
    have hn : i = its.toArray.size := by rw [List.size_toArray, ← rv.length]; exact hx.symm
    subst hn
    exact wpAny_pyNext_enum_endD D he ⟨hit, p⟩ fun h' eb => ⟨rfl, I.turned (t' := s.toks) (fun b o hb q => eb b o hb q) f0 f1 f3 f4 f5⟩
  self := fun A i s Q E st h => by
    obtain ⟨⟨_, he⟩, _⟩ := st
    exact wpAny_pyIter_enum he h
def iEnT (K : PySem.W.Frag) (ta : TA) : TI := fun σ H R => ta σ H fun vs H1 => ∃ a xs, vs = [.ref a] ∧ SqT K H1 a xs ∧ R (IeT K a) H1
theorem pi_enT {X : Cx} {e : Expr} {ta : TA} {p pos tpos : Pos} {elts : List Expr} {kk : Nat} (hg : Gl X "enumerate") (hm : X.mg "enumerate" = none) (ha : PA X [e] ta) (hs : starEach [e] X.env = [(false, eval e X.env)]) :
    PI X (.Tuple elts kk tpos) (.Call (.Name "enumerate" p) [e] [] pos) (iEnT X.K ta) := by
  refine ⟨fun pins s σ H R I h => ?_⟩
  refine Call_ (ld_blt I hg hm boot_enumerate (PyProof.Rows.callWith_type1 (thn (ha.run pos pins s σ H _ I h) fun us s1 ⟨vs, H1, I1, r1, q1⟩ => ?_) hs rfl))
  obtain ⟨a, xs, rfl, hq, q⟩ := q1
  rcases r1 with _ | ⟨⟨⟩, r1⟩
  cases r1
  obtain ⟨its, rv, p', _⟩ := I1.tuple hq
  obtain ⟨oa, hoa, _⟩ := id p'
  refine en_begins (begins_tuple a its.toArray) p' fun h' he hit hk => wpAny_pyIter_enum he ?_
  have I2 : Inv X pins σ H1 { s1 with heap := h' } := I1.kept (t' := s1.toks) hk
  have hal : a < s1.heap.objs.size := Heap.lt_size hoa
  refine ⟨s1.heap.objs.size + 1, [s1.heap.objs.size + 1, s1.heap.objs.size], _, _, H1, rfl, I2, turn_eT a (s1.heap.objs.size + 1) s1.heap.objs.size (Nat.ne_of_gt (Nat.lt_succ_of_lt hal)), ⟨⟨.none, he⟩, ⟨_, hit, rfl, rfl⟩, Nat.succ_ne_self _⟩, fun b hb => ?_, q⟩
  have hle : s1.heap.objs.size ≤ b := by
    rcases List.mem_cons.mp hb with z | z
    · rw [z]; exact Nat.le_add_right _ _
    · rw [List.mem_singleton.mp z]; exact Nat.le_refl _
  exact I1.fpOk hle (I1.hok.fresh hle)
end MkE
namespace Mk
open Im (rep)
open PySem PySem.Spec PyProof.Rows L2
variable {C : Cg} {G : List Slot}
section
variable {α : Type} [Im α]
def enumL (xs : List α) : List (Int × α) := (xs.zipIdx).map fun p => ((p.2 : Int), p.1)
theorem enumL_len {xs : List α} : (enumL xs).length = xs.length := by unfold enumL; rw [List.length_map, List.length_zipIdx]
theorem enumL_get {xs : List α} {i : Nat} {x : α} (h : xs[i]? = some x) : (enumL xs)[i]? = some ((i : Int), x) := by
  unfold enumL
  rw [List.getElem?_map, List.getElem?_zipIdx, h]
  simp
theorem isWalk_eT {K : PySem.W.Frag} {H1 : Hp} {a : Addr} {vs : List V} {xs : List α} (ha : H1 a = some (.tup vs)) (r : Reps H1 vs xs) (hl : vs.length ≤ sizeLine) : IsWalk (MkE.IeT K a) H1 (enumL xs) [] := by
  rw [r.len] at hl
  refine ⟨by rw [enumL_len]; exact hl, fun Kp hK => ⟨fun i H hi k => ?_, fun H k => ?_, fun i H v H' hi k y => ?_⟩⟩
  · rw [enumL_len] at hi
    have h1 : i < vs.length := by rw [r.len]; exact hi
    exact ⟨vs, vs[i], .inl (.inl ((hK H k).1 a _ ha trivial)), List.getElem?_eq_getElem h1⟩
  · exact ⟨vs, .inl (.inl ((hK H k).1 a _ ha trivial)), by rw [enumL_len, r.len]⟩
  · obtain ⟨T, x, rfl, hT, rfl, f1⟩ := y
    obtain ⟨x', h1, g1⟩ := r.get (f1 vs (.inl (.inl ((hK H k).1 a _ ha trivial))))
    have l : Le none H (upd H T (.tup [.int (i : Nat), x])) := Le.new hT
    exact ⟨l.same, ((i : Int), x'), enumL_get h1, T, .int (i : Nat), x, rfl, upd_same, rfl, Im.keep l.tle (Im.keep (hK H k).1 g1)⟩
theorem isWalk_eL {K : PySem.W.Frag} {H1 : Hp} {a : Addr} {vs : List V} {xs : List α} (ha : H1 a = some (.lst vs)) (r : Reps H1 vs xs) (hl : vs.length ≤ sizeLine) : IsWalk (Ite K a) H1 (enumL xs) [a] := by
  rw [r.len] at hl
  have at' : ∀ {H : Hp} {Kp : Hp → Prop}, (∀ H, Kp H → TLe H1 H ∧ ∀ b ∈ [a], H b = H1 b) → Kp H → SqL K H a vs := fun hK k => .inl (.inl (by rw [(hK _ k).2 a (by simp)]; exact ha))
  refine ⟨by rw [enumL_len]; exact hl, fun Kp hK => ⟨fun i H hi k => ?_, fun H k => ?_, fun i H v H' hi k y => ?_⟩⟩
  · rw [enumL_len] at hi
    have h1 : i < vs.length := by rw [r.len]; exact hi
    exact ⟨vs, vs[i], at' hK k, List.getElem?_eq_getElem h1⟩
  · exact ⟨vs, at' hK k, by rw [enumL_len, r.len]; exact Nat.le_refl _⟩
  · obtain ⟨T, x, rfl, hT, rfl, f1⟩ := y
    obtain ⟨x', h1, g1⟩ := r.get (f1 vs (at' hK k))
    have l : Le none H (upd H T (.tup [.int (i : Nat), x])) := Le.new hT
    exact ⟨l.same, ((i : Int), x'), enumL_get h1, T, .int (i : Nat), x, rfl, upd_same, rfl, Im.keep l.tle (Im.keep (hK H k).1 g1)⟩
variable {e : Expr} {elts : List Expr} {kk : Nat} {p pos tpos : Pos} {xs : List α}
theorem ei_enT (bl : Blt C.T) (ha : EvR C G e (.im (· = xs))) (hg : C.sc.names.lookup ("enumerate" : Str) = some .globalImplicit := by rfl) (hs : ∀ env, starEach [e] env = [(false, eval e env)] := by intro _; rfl) :
    EvI C G (.Tuple elts kk tpos) (.Call (.Name "enumerate" p) [e] [] pos) (· = enumL xs) := fun B σ H own le D ln ow R q => by
  refine tI_of (wi := MkE.iEnT C.T.K (tCons (tE C e) tNil)) (fun X ok => by rw [← ok.K]; exact MkE.pi_enT (gl_of ok hg) (by rw [ok.mg]; exact bl.enumerate) (pa_cons (pe_tE ok) pa_nil (hs _)) (hs _)) ?_
  refine tE_len (ha B σ H ⟨le, D, ln, own, ow⟩ _ fun v H1 ⟨l, _, e1, a, vs, ev, h1, r1⟩ hl => ?_)
  subst e1 ev
  exact ⟨a, vs, rfl, .inl (.inl h1), q _ H1 _ [] l rfl (isWalk_eT h1 r1 (hl a vs (.inr h1))) (fun _ z => by simp at z)⟩
theorem ei_enN {P : List α → Prop} (bl : Blt C.T) (ha : EvR C G e (.ls P)) (hg : C.sc.names.lookup ("enumerate" : Str) = some .globalImplicit := by rfl) (hs : ∀ env, starEach [e] env = [(false, eval e env)] := by intro _; rfl) :
    EvI C G (.Tuple elts kk tpos) (.Call (.Name "enumerate" p) [e] [] pos) (fun ys => ∃ xs, P xs ∧ ys = enumL xs) := fun B σ H own le D ln ow R q => by
  refine tI_of (wi := iEnum C.T.K (tCons (tE C e) tNil)) (fun X ok => by rw [← ok.K]; exact pi_enum (gl_of ok hg) (by rw [ok.mg]; exact bl.enumerate) (pa_cons (pe_tE ok) pa_nil (hs _)) (hs _)) ?_
  refine tE_len (ha B σ H ⟨le, D, ln, own, ow⟩ _ fun v H1 ⟨l, a, vs, ys, ev, hn, h1, r1, py⟩ hl => ?_)
  subst ev
  refine ⟨a, vs, rfl, .inl (.inl h1), q _ H1 _ [a] l ⟨ys, py, rfl⟩ (isWalk_eL h1 r1 (hl a vs (.inl h1))) (fun b hb => ?_)⟩
  rw [List.mem_singleton.mp hb]
  exact ⟨ow.free a hn, (D.le le).ne hn, _, h1⟩
end
end Mk
-- MkF9
namespace Mk
open Im (rep)
open PySem PySem.Spec PyProof.Rows L2
variable {T : Tx}
def rowsOf (cs : List Nm) (L : List (List Nm)) : List (List Int) := rowL cs cs 0 :: (enumL L).map fun p => rowL cs p.2 (p.1 + 1)
theorem leastL_len {cs : List Nm} (h : C5 cs) (rs : List Rule) : (leastL cs rs).length ≤ 18750 := Nat.le_trans (List.length_filter_le _ _) (closedL_len h rs)
theorem sc_typical_rows : FnScope ["rules", "rows", "at", "some"] ["rules"] (defScope (top 61)) := ⟨rfl, rfl, rfl, by decide +kernel, rfl, by decide +kernel, by decide +kernel⟩
theorem ok_typical_rows (h : Top T) : Fn T 6 "typical_rows" (spC (β := RulT T) false (fun b => [.im b]) RulPre (fun b => .im (· = rowsOf b.cols (leastL b.cols b.rules)))) := by
  refine def_ok (at_typical_rows h) sc_typical_rows (fun _ _ _ _ _ _ us hl => match us, hl with | [_], _ => rfl) (fun b => rfl) fun x d hd hp => ?_
  refine run_expr (ev_call (ok_require_rules h) x (ea_var (i := 0) rfl ea_nil) rfl trivial) ?_
  obtain ⟨hx, hc⟩ := hp
  have hsl := leastL_len hc x.rules
  refine run_let (i := 1) put_ls (ev_lst1 (ev_call (ok_row_beside h) (x.cols, x.cols, 0) (ea_im (ev_columns (x := x) h ((ev_var (i := 0) rfl))) (ea_im (ev_columns (x := x) h ((ev_var (i := 0) rfl))) (ea_im ev_int ea_nil))) rfl trivial)) fun G' hG => ?_
  obtain ⟨_, ⟨_, rfl, rfl⟩, rfl⟩ := hG
  refine run_for (ei_enN (blt h) (ev_call (ok_least_closed h) x (ea_var (i := 0) rfl ea_nil) rfl ⟨hx, hc⟩)) (bnd_pair (i := 2) (j := 3)) (I := fun L i G' => ∃ a b, G' = [.im x, .ls (rowL x.cols x.cols 0 :: (L.take i).map fun p : Int × List Nm => rowL x.cols p.2 (p.1 + 1)), a, b]) (fun L _ => ⟨_, _, by rw [List.take_zero]; rfl⟩) ?_ ?_ ?_
  · rintro L i G' ⟨a, b, rfl⟩; rfl
  · rintro L i s G' ⟨M, hM, rfl⟩ hs ⟨a, b, rfl⟩
    subst hM
    have hz : (rowL x.cols x.cols 0 :: ((enumL (leastL x.cols x.rules)).take i).map fun p : Int × List Nm => rowL x.cols p.2 (p.1 + 1)).length ≤ 100000 := by
      rw [List.length_cons, List.length_map, List.length_take, enumL_len]
      omega
    refine run_append (α := List Int) (i := 1) (P := (· = rowL x.cols s.2 (s.1 + 1))) (ev_call (ok_row_beside h) (x.cols, s.2, s.1 + 1) (ea_im (ev_columns (x := x) h ((ev_var (i := 0) rfl))) (ea_var (i := 3) (s := .im s.2) rfl (ea_im (ev_addE ((ev_var (i := 2) rfl)) ev_int) ea_nil))) rfl trivial) rfl hz fun y e => run_nil ⟨.im s.1, .im s.2, ?_⟩
    rw [e, List.take_add_one, hs, List.map_append]
    rfl
  · rintro L G' ⟨M, hM, rfl⟩ ⟨a, b, rfl⟩
    subst hM
    rw [List.take_length]
    exact run_ret (ev_tuple (P := (· = rowsOf x.cols (leastL x.cols x.rules))) (blt h) (es_own (i := 1) rfl))
end Mk
-- MkF10
namespace Mk
open Im (rep)
open PySem PySem.Spec PyProof.Rows L2
variable {T : Tx}
section
variable {κ : Type} [DecidableEq κ]
def uniG (ks ms : List κ) : List κ := ms.foldl (fun acc c => if c ∈ acc then acc else acc ++ [c]) ks
theorem mem_uniG {c : κ} : ∀ {ms ks : List κ}, c ∈ uniG ks ms ↔ c ∈ ks ∨ c ∈ ms
  | [], ks => by simp [uniG]
  | m :: ms, ks => by
    show c ∈ uniG (if m ∈ ks then ks else ks ++ [m]) ms ↔ _
    rw [mem_uniG (ms := ms)]
    by_cases h : m ∈ ks
    · rw [if_pos h]
      constructor
      · rintro (z | z)
        · exact .inl z
        · exact .inr (List.mem_cons_of_mem _ z)
      · rintro (z | z)
        · exact .inl z
        · rcases List.mem_cons.mp z with e | z
          · exact .inl (e ▸ h)
          · exact .inr z
    · rw [if_neg h, List.mem_append, List.mem_singleton, List.mem_cons, or_assoc]
theorem uniG_len : ∀ (ms ks : List κ), (uniG ks ms).length ≤ ks.length + ms.length
  | [], ks => Nat.le_refl _
  | m :: ms, ks => by
    show (uniG (if m ∈ ks then ks else ks ++ [m]) ms).length ≤ _
    have h1 := uniG_len ms (if m ∈ ks then ks else ks ++ [m])
    have h2 : (if m ∈ ks then ks else ks ++ [m]).length ≤ ks.length + 1 := by
      split
      · omega
      · rw [List.length_append, List.length_singleton]; omega
    rw [List.length_cons]
    omega
end
def kN (t : List Nm) : List Str := t.map Nm.s
theorem kN_inj : ∀ {s t : List Nm}, kN s = kN t → s = t
  | [], [], _ => rfl
  | [], _ :: _, h => by simp [kN] at h
  | _ :: _, [], h => by simp [kN] at h
  | a :: s, b :: t, h => by
    have h : a.s :: kN s = b.s :: kN t := h
    rw [List.cons.injEq] at h
    rw [Nm.ext h.1, kN_inj h.2]
def kTs (ts : List (List Nm)) : List (List Str × Bool) := ts.map fun t => (kN t, true)
theorem putS_kTs (ks : List (List Nm)) (c : List Nm) : putS (kTs ks) (kN c) true = kTs (uniG ks [c]) := by
  have e : ((kTs ks).any fun p => decide (p.1 = kN c)) = decide (c ∈ ks) := by
    rw [Bool.eq_iff_iff, List.any_eq_true, decide_eq_true_iff]
    constructor
    · rintro ⟨p, hp, e⟩
      obtain ⟨t, ht, rfl⟩ := List.mem_map.mp hp
      rw [← kN_inj (of_decide_eq_true e : kN t = kN c)]
      exact ht
    · exact fun h => ⟨_, List.mem_map.mpr ⟨c, h, rfl⟩, decide_eq_true rfl⟩
  unfold putS
  rw [e]
  by_cases h : c ∈ ks
  · have e2 : uniG ks [c] = ks := if_pos h
    rw [if_pos (decide_eq_true h), e2]
    unfold kTs
    rw [List.map_map]
    refine List.map_congr_left fun t _ => ?_
    show (if kN t = kN c then (kN t, true) else (kN t, true)) = _
    split <;> rfl
  · have e2 : uniG ks [c] = ks ++ [c] := if_neg h
    rw [decide_eq_false h, e2]
    unfold kTs
    rw [List.map_append]
    rfl
theorem putAll_kTs : ∀ (ms ks : List (List Nm)), putAll (kTs ks) (kTs ms) = kTs (uniG ks ms)
  | [], ks => rfl
  | m :: ms, ks => by
    have e1 : kTs (m :: ms) = (kN m, true) :: kTs ms := rfl
    have e2 : putAll (kTs ks) ((kN m, true) :: kTs ms) = putAll (putS (kTs ks) (kN m) true) (kTs ms) := rfl
    rw [e1, e2, putS_kTs, putAll_kTs ms]
    rfl
def sharedStep (cs : List Nm) (rows : List (List Int)) (acc : List (List Nm)) (p : Int × List Int) : List (List Nm) := uniG acc (uniG [] ((rows.take p.1.toNat).map (sharedL cs p.2)))
def sharedKs (cs : List Nm) (rows : List (List Int)) : List (List Nm) := (enumL rows).foldl (sharedStep cs rows) []
def typB {C : Addr} (x : Rul C) (rows : List (List Int)) : Bool := (sharedKs x.cols rows).all (closedB x.rules) && (setsOf x.cols).all fun s => !(closedB x.rules s && !decide (sharedAll x.cols ((sharedKs x.cols rows).filter (within s)) = s))
def TypPre {C : Addr} (b : Rul C × List (List Int)) : Prop := RulPre b.1 ∧ (∀ r ∈ b.2, r.length = b.1.cols.length) ∧ b.2.length ≤ 200
theorem enumL_take {α : Type} [Im α] {L : List α} {i : Nat} {x : α} (h : L[i]? = some x) : (enumL L).take (i + 1) = (enumL L).take i ++ [((i : Int), x)] := by
  rw [List.take_add_one, enumL_get h]; rfl
theorem sharedStep_len (cs : List Nm) (rows : List (List Int)) (acc : List (List Nm)) (p : Int × List Int) : (sharedStep cs rows acc p).length ≤ acc.length + rows.length := by
  unfold sharedStep
  have h1 := uniG_len (uniG [] ((rows.take p.1.toNat).map (sharedL cs p.2))) acc
  have h2 := uniG_len ((rows.take p.1.toNat).map (sharedL cs p.2)) ([] : List (List Nm))
  rw [List.length_map, List.length_take, List.length_nil] at h2
  omega
theorem shared_len (cs : List Nm) (rows : List (List Int)) : ∀ (L : List (Int × List Int)) (acc : List (List Nm)), (L.foldl (sharedStep cs rows) acc).length ≤ acc.length + L.length * rows.length
  | [], acc => by simp
  | p :: L, acc => by
    have h1 := shared_len cs rows L (sharedStep cs rows acc p)
    have h2 := sharedStep_len cs rows acc p
    rw [List.foldl_cons, List.length_cons, Nat.succ_mul]
    omega
theorem sc_are_typical : FnScope ["rules", "value", "shared", "at", "row", "some", "greater", "other", "one"] ["rules", "value"] (defScope (top 62)) := ⟨rfl, rfl, rfl, by decide +kernel, rfl, by decide +kernel, by decide +kernel⟩
theorem ok_are_typical (h : Top T) : Fn T 6 "are_typical" (spC (β := RulT T × List (List Int)) false (fun b => [.im b.1, .im b.2]) TypPre (fun b => .im (· = typB b.1 b.2))) := by
  refine def_ok (at_are_typical h) sc_are_typical (fun _ _ _ _ _ _ us hl => match us, hl with | [_, _], _ => rfl) (fun b => rfl) fun b d hd hp => ?_
  obtain ⟨x, rows⟩ := b
  obtain ⟨⟨hx, hc⟩, hrl, hn⟩ := hp
  have hx : RulOk x := hx
  have hc : C5 x.cols := hc
  have hrl : ∀ r ∈ rows, r.length = x.cols.length := hrl
  have hn : rows.length ≤ 200 := hn
  refine run_expr (ev_call (ok_require_rules h) x (ea_var (i := 0) rfl ea_nil) rfl trivial) ?_
  refine run_if (b := false) (EvT.to (et_w (ew_or (x := false) (y := false) ((et_not (et_val (ev_isi (P := (· = rows)) (b := true) (blt h) ((ev_var (i := 1) rfl)) (blt h).tuple (fun K => kit_ty (by decide +kernel)) PyProof.Rows.boot_tuple))).to rfl) fun _ =>
    ew_or1 ((ev_gtE (ev_len (P := (· = rows)) (n := rows.length) (blt h) (es_im ((ev_var (i := 1) rfl))) (fun xs e => by rw [e])) (ev_glob (v := .int 200) (g_MAX_TYPICAL h) fun H => rfl)).t.to (decide_eq_false (by omega))))) rfl) (fun z => by cases z) fun _ => run_nil ?_
  refine run_if (b := false) ((et_not (et_val ((ev_all (blt h) (ev_lc (own := [("row", 4)]) (lc_map (fun _ : List Int => true) rfl (ei_tup ((ev_var (i := 1) rfl))) (by kernel_rfl) (bnd_name (i := 4)) (by decide) fun r hr => ev_call (ok_is_row h) (x.cols, r) (ea_im (ev_columns (x := x) h ((ev_var (i := 0) rfl))) (ea_var (i := 4) (s := .im r) rfl ea_nil)) rfl ⟨hx.cols, hrl r hr⟩))).to (y := true) (by simp)))).to rfl) (fun z => by cases z) fun _ => run_nil ?_
  refine run_let (i := 2) put_dt (ev_newT (β := Bool)) fun G' hG => ?_
  obtain ⟨_, rfl, rfl⟩ := hG
  refine run_for (ei_enT (xs := rows) (blt h) ((ev_var (i := 1) rfl))) (bnd_pair (i := 3) (j := 4)) (I := fun L i G' => ∃ a b, G' = [.im x, .im rows, .dt (kTs ((L.take i).foldl (sharedStep x.cols rows) [])), a, b, .no, .no, .no, .no] ∧ (2 ≤ i → (L.take i).foldl (sharedStep x.cols rows) [] ≠ [])) (fun L e => ⟨_, _, by rw [List.take_zero]; rfl, by omega⟩) ?_ ?_ ?_
  · rintro L i G' ⟨a, b, rfl, _⟩; rfl
  · rintro L i p G' rfl hs ⟨a, b, rfl, hne⟩
    have hi : i < rows.length := by
      have := (List.getElem?_eq_some_iff.mp hs).1
      rw [enumL_len] at this
      exact this
    have hp : p = ((i : Int), rows[i]) := by
      rw [enumL_get (List.getElem?_eq_getElem hi)] at hs
      exact (Option.some.inj hs).symm
    subst hp
    have hsl := shared_len x.cols rows ((enumL rows).take i) []
    rw [List.length_take, enumL_len, List.length_nil] at hsl
    have hb1 : min i rows.length * rows.length ≤ 200 * 200 := Nat.mul_le_mul (by omega) hn
    have hlm := uniG_len ((rows.take i).map (sharedL x.cols rows[i])) ([] : List (List Nm))
    rw [List.length_map, List.length_take, List.length_nil] at hlm
    have hmem : rows[i] ∈ rows := List.getElem_mem hi
    refine run_updT (i := 2) (more := kTs (uniG [] ((rows.take i).map (sharedL x.cols rows[i])))) ?_ rfl ?_ ?_ (run_nil ?_)
    · have e1 : kTs (uniG [] ((rows.take i).map (sharedL x.cols rows[i]))) = putAll [] ((rows.take i).map fun o => (kN (sharedL x.cols rows[i] o), true)) := by
        rw [← putAll_kTs]
        unfold kTs
        rw [List.map_map]
        rfl
      rw [e1]
      refine ev_dxT (own := [("other", 7)]) (fun o => sharedL x.cols rows[i] o) (fun _ => true) rfl (ei_tup (ev_takeT (n := i) ((ev_var (i := 1) rfl)) ((ev_var (i := 3) rfl)))) (by kernel_rfl) (bnd_name (i := 7)) (by decide) (fun o ho => ?_) (fun o ho => ev_bl)
      exact ev_call (ok_shared_by h) (x.cols, rows[i], o) (ea_im (ev_columns (x := x) h ((ev_var (i := 0) rfl))) (ea_var (i := 4) (s := .im rows[i]) rfl (ea_var (i := 7) (s := .im o) rfl ea_nil))) rfl ⟨hrl _ hmem, hrl _ (List.mem_of_mem_take ho)⟩
    · by_cases h2 : 2 ≤ i
      · exact .inl fun e => hne h2 (List.length_eq_zero_iff.mp (by rw [← List.length_map (f := fun t : List Nm => (kN t, true))]; show (kTs _).length = 0; rw [e]; rfl))
      · exact .inr (by unfold kTs; rw [List.length_map]; omega)
    · unfold kTs
      rw [List.length_map, List.length_map]
      omega
    · rw [putAll_kTs]
      refine ⟨.im (i : Int), .im rows[i], ?_, fun h2 => ?_⟩
      · rw [enumL_take (List.getElem?_eq_getElem hi), List.foldl_append]
        rfl
      · rw [enumL_take (List.getElem?_eq_getElem hi), List.foldl_append]
        intro e
        have hin : sharedL x.cols rows[i] (rows[0]'(by omega)) ∈ sharedStep x.cols rows (((enumL rows).take i).foldl (sharedStep x.cols rows) []) ((i : Int), rows[i]) := by
          refine mem_uniG.mpr (.inr (mem_uniG.mpr (.inr (List.mem_map.mpr ⟨_, ?_, rfl⟩))))
          show rows[0]'(by omega) ∈ rows.take i
          rw [List.mem_take_iff_getElem]
          exact ⟨0, by omega, rfl⟩
        have e : sharedStep x.cols rows (((enumL rows).take i).foldl (sharedStep x.cols rows) []) ((i : Int), rows[i]) = [] := e
        rw [e] at hin
        simp at hin
  · rintro L G' rfl ⟨a, b, rfl, _⟩
    rw [List.take_length]
    have hsl := shared_len x.cols rows (enumL rows) []
    rw [enumL_len, List.length_nil] at hsl
    have hb1 : rows.length * rows.length ≤ 200 * 200 := Nat.mul_le_mul hn hn
    have hkl : (sharedKs x.cols rows).length ≤ 100000 := by unfold sharedKs; omega
    show Run _ [.im x, .im rows, .dt (kTs (sharedKs x.cols rows)), a, b, .no, .no, .no, .no] _ _
    have hkeys : (kTs (sharedKs x.cols rows)).map (·.1) = (sharedKs x.cols rows).map (·.map Nm.s) := by unfold kTs; rw [List.map_map]; rfl
    refine run_if (b := !(sharedKs x.cols rows).all (closedB x.rules)) (et_not (et_val (EvR.lockT (i := 2) rfl fun c od ks => ?_))) (fun ht => ?_) (fun ht => run_nil ?_)
    · refine (ev_all (blt h) (ev_lc (own := [("some", 5)]) (lc_map (closedB x.rules) rfl (ei_keysT (i := 2) rfl hkeys hkl) (by kernel_rfl) (bnd_name (i := 5)) (by decide) fun s hs => ?_))).to ?_
      · exact ev_call (ok_is_closed_in h) (x, s) (ea_var (i := 0) rfl (ea_var (i := 5) (s := .im s) rfl ea_nil)) rfl trivial
      · rw [List.all_map]; rfl
    · refine run_ret (ev_bl.to ?_)
      unfold typB
      rw [Bool.not_eq_true'] at ht
      rw [ht]; rfl
    have ht : (sharedKs x.cols rows).all (closedB x.rules) = true := by simpa using ht
    refine run_for (ei_new (ev_call (ok_sets_of h) x.cols (ea_im (ev_columns (x := x) h ((ev_var (i := 0) rfl))) ea_nil) rfl hc)) (bnd_name (i := 5)) (I := fun L i G' => ∃ c g, G' = [.im x, .im rows, .dt (kTs (sharedKs x.cols rows)), a, b, c, g, .no, .no] ∧ ∀ s ∈ L.take i, (closedB x.rules s && !decide (sharedAll x.cols ((sharedKs x.cols rows).filter (within s)) = s)) = false) (fun L e => ⟨_, _, rfl, by simp⟩) ?_ ?_ ?_
    · rintro L i G' ⟨c, g, rfl, _⟩; rfl
    · rintro L i s G' rfl hs ⟨c, g, rfl, hall⟩
      refine run_setLcRT (i := 2) (j := 6) (own := [("one", 8)]) (P := (· = (sharedKs x.cols rows).filter (within s))) rfl (fun c od ks => ?_) fun _ e => ?_
      · refine (lc_filter (fun o : List Nm => within s o) (fun s : List Nm => s) rfl (ei_keysT (i := 2) rfl hkeys hkl) (by kernel_rfl) (bnd_name (i := 8)) (by decide) (fun o ho => ?_) fun o ho _ => (ev_var (i := 8) rfl)).imp fun ys e => e.trans (List.map_id _)
        exact et_val (ev_within h ((ev_var (i := 5) rfl)) ((ev_var (i := 8) rfl)))
      subst e
      refine run_if (b := closedB x.rules s && !decide (sharedAll x.cols ((sharedKs x.cols rows).filter (within s)) = s)) (et_w (ew_and (et_val (ev_call (ok_is_closed_in h) (x, s) (ea_var (i := 0) rfl (ea_var (i := 5) (s := .im s) rfl ea_nil)) rfl trivial)) fun _ => ew_and1 (ev_neD (ev_call (ok_shared_by_all h) (x.cols, (sharedKs x.cols rows).filter (within s)) (ea_im (ev_columns (x := x) h ((ev_var (i := 0) rfl))) (ea_var (i := 6) rfl ea_nil)) rfl trivial) (ev_var (i := 5) (a := s) rfl)).t)) (fun ht2 => ?_) (fun ht2 => run_nil (run_nil ⟨_, _, rfl, ?_⟩))
      · refine run_ret (ev_bl.to ?_)
        unfold typB
        rw [ht, Bool.true_and]
        symm
        rw [Bool.eq_false_iff]
        intro z
        have := List.all_eq_true.mp z s (List.mem_of_getElem? hs)
        rw [ht2] at this
        cases this
      · intro t ht3
        rw [List.take_add_one, hs] at ht3
        rcases List.mem_append.mp ht3 with z | z
        · exact hall t z
        · have : t = s := by simpa using z
          rw [this]; exact ht2
    · rintro L G' rfl ⟨c, g, rfl, hall⟩
      rw [List.take_length] at hall
      refine run_ret (ev_bl.to ?_)
      unfold typB
      rw [ht, Bool.true_and]
      symm
      exact List.all_eq_true.mpr fun s hs => by rw [hall s hs]; rfl
end Mk
-- MkSx
namespace Mk
open Im (rep)
open PySem PySem.Spec PyProof.Rows L2
variable {C : Cg} {G : List Slot}
theorem leS_iff {a b : Str} : MkS.leS a b ↔ ¬ b.cps.toList < a.cps.toList := by
  unfold MkS.leS
  have e : W.dataLe false PyData.str = fun a b : Str => decide (a.cps.toList ≤ b.cps.toList) := W.dataLe_str (fun x : Str => x)
  rw [e]
  constructor
  · intro h z
    exact absurd z (List.not_lt.mpr (of_decide_eq_true h))
  · intro h
    exact decide_eq_true (List.not_lt.mp h)
def ascL (xs : List Nm) : List Nm := (uniG [] xs).mergeSort fun a b => decide (¬ ltN b a)
theorem uniG_nodup {κ : Type} [DecidableEq κ] : ∀ {ms ks : List κ}, ks.Nodup → (uniG ks ms).Nodup
  | [], _, h => h
  | m :: ms, ks, h => by
    show (uniG (if m ∈ ks then ks else ks ++ [m]) ms).Nodup
    refine uniG_nodup ?_
    split
    · exact h
    · rename_i hm
      exact List.nodup_append.mpr ⟨h, by simp, fun a ha b hb e => by rw [List.mem_singleton.mp hb] at e; exact hm (e ▸ ha)⟩
theorem mem_ascL {xs : List Nm} {c : Nm} : c ∈ ascL xs ↔ c ∈ xs := by
  unfold ascL
  rw [(List.mergeSort_perm _ _).mem_iff, mem_uniG]
  simp
theorem ascL_asc (xs : List Nm) : (ascL xs).Pairwise ltN := by
  have h1 : (ascL xs).Pairwise fun a b => decide (¬ ltN b a) = true := by
    refine List.pairwise_mergeSort (fun a b c h1 h2 => ?_) (fun a b => ?_) _
    · have h1 := List.not_lt.mp (of_decide_eq_true h1)
      have h2 := List.not_lt.mp (of_decide_eq_true h2)
      exact decide_eq_true (List.not_lt.mpr (List.le_trans h1 h2))
    · rcases List.le_total a.s.cps.toList b.s.cps.toList with h | h
      · rw [decide_eq_true (show ¬ ltN b a from List.not_lt.mpr h)]; rfl
      · rw [decide_eq_true (show ¬ ltN a b from List.not_lt.mpr h), Bool.or_true]
  have h2 : (ascL xs).Nodup := (List.mergeSort_perm _ _).nodup_iff.mpr (uniG_nodup List.nodup_nil)
  refine (h1.and h2).imp fun {a b} ⟨l, n⟩ => ?_
  have l := List.not_lt.mp (of_decide_eq_true l)
  rcases List.le_iff_lt_or_eq.mp l with z | z
  · exact z
  · exact absurd (Nm.ext (str_ext (Array.toList_inj.mp z))) n
theorem sorted_ascL {ys : List Str} {xs : List Nm} (p : ys.Perm (MkS.metL (xs.map Nm.s))) (h : ys.Pairwise MkS.leS) : ys = (ascL xs).map Nm.s := by
  refine (p.trans ?_).eq_of_pairwise (le := MkS.leS) (fun a b _ _ l1 l2 => ?_) h ?_
  · refine (List.perm_ext_iff_of_nodup (MkS.metL_nodup List.nodup_nil) ?_).mpr fun c => ?_
    · exact List.Pairwise.map _ (fun a b hab e => by have e2 : a = b := Nm.ext e; subst e2; exact ltN_irrefl _ hab) (ascL_asc xs)
    · rw [MkS.mem_metL]
      simp only [List.mem_map, List.not_mem_nil, false_or]
      exact ⟨fun ⟨x, hx, e⟩ => ⟨x, mem_ascL.mpr hx, e⟩, fun ⟨x, hx, e⟩ => ⟨x, mem_ascL.mp hx, e⟩⟩
  · have := List.le_antisymm (List.not_lt.mp (leS_iff.mp l1)) (List.not_lt.mp (leS_iff.mp l2))
    exact str_ext (Array.toList_inj.mp this)
  · rw [List.pairwise_map]
    exact (ascL_asc xs).imp fun {a b} l => leS_iff.mpr (ltN_asymm (a := a) (b := b) l)
section
variable {e : Expr} {xs : List Nm} {sp tp pos pos2 : Pos}
theorem set_go {H : Hp} {v : V} (h : SeqIs C.d H v xs) (hz : xs.length ≤ 1000) {f : V → Hp → Prop} (k : ∀ p H2, H p = none → H2 = upd H p (MkS.TSO C.T.P C.T.w p (MkS.metL (xs.map Nm.s))) → f (.ref p) H2) : MkS.rSetT C.T.K C.T.P C.T.w [v] H f := by
  obtain ⟨a, vs, ev, ha, nd, r⟩ := h
  have e1 : (xs.map Nm.s).map V.str = vs := by rw [reps_nm.mp r, List.map_map]; rfl
  refine ⟨a, xs.map Nm.s, by rw [ev], ?_, by rw [List.length_map]; exact hz, fun p hp => k p _ hp rfl⟩
  rw [e1]
  exact ha.imp (fun z => .inl (.inl z)) fun z => .inl (.inl z)
theorem ev_sortedSet (b : Blt C.T) (h : EvSq C G e (· = xs)) (hz : xs.length ≤ 1000) (hg : C.sc.names.lookup ("sorted" : Str) = some .globalImplicit := by rfl) (hg2 : C.sc.names.lookup ("set" : Str) = some .globalImplicit := by rfl)
    (hs : ∀ env, starEach [.Call (.Name "set" tp) [e] [] pos2] env = (false, eval (.Call (.Name "set" tp) [e] [] pos2) env) :: starEach [] env := by intro _; rfl) (hs2 : ∀ env, starEach [e] env = (false, eval e env) :: starEach [] env := by intro _; rfl) :
    EvR C G (.Call (.Name "sorted" sp) [.Call (.Name "set" tp) [e] [] pos2] [] pos) (.ls (· = (ascL xs).map Nm.s)) := fun B σ H E Q q => by
  refine ev_blt1 (f := MkS.rSortT C.T.P C.T.w) (fun X ok => by rw [← ok.prog, ← ok.w]; exact MkS.cr_sortT ok.calm ok.room.units) b.sorted PyProof.Rows.boot_sorted ?_ hg (by decide) (by decide) hs
  refine ev_ty1 (f := MkS.rSetT C.T.K C.T.P C.T.w) (fun X ok => by rw [← ok.K, ← ok.prog, ← ok.w]; exact MkS.cr_setT ok.calm) b.set PyProof.Rows.boot_set ?_ hg2 (by decide) (by decide) hs2
  refine h B σ H E _ fun v H1 ys l py hq => ?_
  subst py
  refine set_go hq hz fun p H2 hp e2 => ?_
  subst e2
  have l2 : Le C.d H1 (upd H1 p (MkS.TSO C.T.P C.T.w p (MkS.metL (ys.map Nm.s)))) := Le.new hp
  have hlen := MkS.metL_len (ys.map Nm.s) []
  rw [List.length_map, List.length_nil] at hlen
  refine ⟨p, _, rfl, upd_same, by show (List.foldl MkS.met1 [] _).length ≤ 1000; omega, MkS.metL_nodup List.nodup_nil, fun x hx => ?_, fun zs p2 hperm hpw hp2 => ?_⟩
  · rcases MkS.mem_metL.mp hx with z | z
    · simp at z
    · obtain ⟨n, _, rfl⟩ := List.mem_map.mp z
      exact n.strOk
  · have l3 := (l.trans l2).trans (Le.new (d := C.d) hp2 (o := .lst (zs.map V.str)))
    exact q _ _ ⟨l3, p2, _, zs, rfl, (l.trans l2).free hp2, upd_same, reps_str.mpr rfl, sorted_ascL hperm hpw⟩
theorem ev_lenSet (b : Blt C.T) (h : EvSq C G e (· = xs)) (hz : xs.length ≤ 1000) (hnd : xs.Nodup) (hg : C.sc.names.lookup ("len" : Str) = some .globalImplicit := by rfl) (hg2 : C.sc.names.lookup ("set" : Str) = some .globalImplicit := by rfl)
    (hs : ∀ env, starEach [.Call (.Name "set" tp) [e] [] pos2] env = (false, eval (.Call (.Name "set" tp) [e] [] pos2) env) :: starEach [] env := by intro _; rfl) (hs2 : ∀ env, starEach [e] env = (false, eval e env) :: starEach [] env := by intro _; rfl) :
    EvR C G (.Call (.Name "len" sp) [.Call (.Name "set" tp) [e] [] pos2] [] pos) (.im (· = (xs.length : Int))) := fun B σ H E Q q => by
  refine ev_blt1 (f := MkS.rLenT C.T.P C.T.w) (fun X ok => by rw [← ok.prog, ← ok.w]; exact MkS.cr_lenT) b.len boot_len ?_ hg (by decide) (by decide) hs
  refine ev_ty1 (f := MkS.rSetT C.T.K C.T.P C.T.w) (fun X ok => by rw [← ok.K, ← ok.prog, ← ok.w]; exact MkS.cr_setT ok.calm) b.set PyProof.Rows.boot_set ?_ hg2 (by decide) (by decide) hs2
  refine h B σ H E _ fun v H1 ys l py hq => ?_
  subst py
  refine set_go hq hz fun p H2 hp e2 => ?_
  subst e2
  have hlen := MkS.metL_len (ys.map Nm.s) []
  rw [List.length_map, List.length_nil] at hlen
  have hcnt : (MkS.metL (ys.map Nm.s)).length = ys.length := by
    have p : (MkS.metL (ys.map Nm.s)).Perm (ys.map Nm.s) := (List.perm_ext_iff_of_nodup (MkS.metL_nodup List.nodup_nil) (List.Pairwise.map _ (fun a b hab e => hab (Nm.ext e)) hnd)).mpr fun c => by
      rw [MkS.mem_metL]; simp
    rw [p.length_eq, List.length_map]
  refine ⟨p, _, rfl, upd_same, by show (List.foldl MkS.met1 [] _).length ≤ 1000; omega, ?_⟩
  rw [hcnt]
  exact q _ _ ⟨l.trans (Le.new hp), _, rfl, rfl⟩
end
end Mk
-- MkIt
namespace MkI
open PySem PySem.Spec PyProof.Rows L2
section
variable {X : Cx} {pins : List (Addr × Obj)} {σ : L2.St} {H : Hp} {s : Shared} {d : Addr} {o : Obj}
theorem frzTv {kvs : List (List Key × V)} (I : Inv X pins σ H s) (h : H d = some (.frz o (.dT kvs))) :
    (d == sysModules) = false ∧ s.heap.get? d = some o ∧ o.ExactDict ∧ ∃ (es : Array DictEntry) (ep : Nat), o.data = .dict es ep ∧ es.size = kvs.length ∧
      ∀ (i : Nat) (k : List Key) (v : V), kvs[i]? = some (k, v) → ∃ (en : DictEntry) (q : Addr), es[i]? = some en ∧ en.key = .ref q ∧ H q = some (.tup (k.map kV)) ∧ RelV v en.val := by
  obtain ⟨hd, z, hs, xs, pr, o', es, ep, ho, hx, hdt, he, _⟩ := I.hok d _ h
  rw [hd] at ho
  cases ho
  have l1 : es.size = xs.length := size_of_entries he
  have l2 : kvs.length = xs.length := Paired.length pr
  refine ⟨hs, hd, hx, es, ep, hdt, by omega, fun i k v e => ?_⟩
  have hlt : i < xs.length := by rw [← l2]; exact (List.getElem?_eq_some_iff.mp e).1
  have at' : ∀ {l : List (List Key × V)} {m : List (List Key × Addr × Value)} {i : Nat} {p : List Key × V}, KT H l m → l[i]? = some p → ∃ y, m[i]? = some y ∧ p.1 = y.1 ∧ H y.2.1 = some (.tup (p.1.map kV)) ∧ RelV p.2 y.2.2 := by
    intro l m i p r e
    induction r generalizing i with
    | nil => simp at e
    | @cons p' q' ps qs hq t ih =>
      cases i with
      | zero =>
        have e' : p' = p := by simpa using e
        subst e'
        exact ⟨q', rfl, hq⟩
      | succ i =>
        obtain ⟨y, h1, h2⟩ := ih (i := i) (by simpa using e)
        exact ⟨y, by simpa using h1, h2⟩
  obtain ⟨y, hy, y1, y2, y3⟩ := at' pr e
  refine ⟨entryOfKey (tupleKind (mixKind X.prog X.w)) y, y.2.1, ?_, rfl, y2, y3⟩
  rw [← Array.getElem?_toList, he, List.getElem?_map, hy]
  rfl
def ItT (d : Addr) (o : Obj) (kvs : List (List Key × V)) : It :=
  ⟨fun i H => H d = some (.frz o (.dT kvs)) ∧ i < kvs.length, fun i H x H' => ∃ T k v q, kvs[i]? = some (k, v) ∧ x = .ref T ∧ H T = none ∧ H q = some (.tup (k.map kV)) ∧ H' = upd H T (.tup [.ref q, v]), fun i H => H d = some (.frz o (.dT kvs)) ∧ i = kvs.length⟩
theorem turn_it {P : Program} {w : World} {K : PySem.W.Frag} {es : Array DictEntry} {ep : Nat} {kvs : List (List Key × V)} {elts : List Expr} {kk : Nat} {tpos : Pos} (it : Addr) (hod : o.data = .dict es ep) :
    Turn P w K (.Tuple elts kk tpos) (ItT d o kvs) [it] it (fun i h => ∃ ok ov, IsItemIter h it d i kvs.length ep ok ov) where
  mem := List.mem_singleton.mpr rfl
  obj := fun i h st b hb => by
    rw [List.mem_singleton.mp hb]
    obtain ⟨ok, ov, e⟩ := st
    exact ⟨_, e, fun v z => nomatch z⟩
  keep := fun i h h' st k => by
    obtain ⟨ok, ov, e⟩ := st
    exact ⟨ok, ov, k it (List.mem_singleton.mpr rfl) _ e⟩
  item := by
    intro X hP hw hK hc i pins s σ H E I hf st hg
    subst hP hw hK
    obtain ⟨hd, hi⟩ := hg
    obtain ⟨hs, hgd, hx, es', ep', hdt, hsz, ent⟩ := frzTv I hd
    obtain ⟨rfl, rfl⟩ := dict_ep hod hdt
    obtain ⟨⟨k, v⟩, hkv⟩ : ∃ p, kvs[i]? = some p := ⟨kvs[i], List.getElem?_eq_getElem hi⟩
    obtain ⟨en, q, hen, hek, hq, rv⟩ := ent i k v hkv
    obtain ⟨ok, ov, he⟩ := st
    rw [← hsz] at he
    have hlt : it < s.heap.objs.size := Heap.lt_size he
    have hie : i < es'.size := by rw [hsz]; exact hi
    have een : es'[i] = en := by
      rw [Array.getElem?_eq_getElem hie] at hen
      exact Option.some.inj hen
    refine DT.nextI he ⟨o, hgd, hx, hdt⟩ hie fun h' ho hT hz hk => ?_
    rw [een] at ho hT
    refine ⟨_, rfl, wpAny_letOwnedTupleGo_items (s := { s with heap := h' }) ho fun h'' he' sb => ?_⟩
    have hT2 : h''.get? s.heap.objs.size = some { cls := .type "tuple", data := .seq #[en.key, en.val] } := (sb.2 _ (Nat.ne_of_gt hlt)).trans hT
    have new : ObjOk X.prog X.w (upd H s.heap.objs.size (.tup [.ref q, v])) h'' s.heap.objs.size (.tup [.ref q, v]) :=
      ⟨by show 2 ≤ sizeLine; decide, [en.key, en.val], .cons hek (.cons rv .nil), ⟨_, hT2, rfl, _, rfl⟩⟩
    have I1 : Inv X pins σ (upd H s.heap.objs.size (.tup [.ref q, v])) { s with heap := h'' } :=
      I.turnedNew (t' := s.toks) (ch := [it]) (fun b ob hb e => (sb.2 b (by simpa using hb)).trans (hk b ob (by simpa using hb) e)) hf (Nat.le_refl _) new
    refine ⟨.ref s.heap.objs.size, _, I1, rfl, ⟨_, k, v, q, hkv, rfl, I.hok.fresh (Nat.le_refl _), hq, rfl⟩, ⟨en.key, en.val, ?_⟩, fun b hb => ?_⟩
    · rw [← hsz]; exact he'
    · rw [List.mem_singleton.mp hb, upd_ne (Nat.ne_of_lt hlt)]
      exact (hf it (List.mem_singleton.mpr rfl)).1
  done := by
    intro X hP hw hK hc i pins s σ H E I hf st hg
    subst hP hw hK
    obtain ⟨hd, hi⟩ := hg
    obtain ⟨f0, f1, f2, f3, f4, f5⟩ := hf it (List.mem_singleton.mpr rfl)
    obtain ⟨hs, hgd, hx, es', ep', hdt, hsz, ent⟩ := frzTv I hd
    obtain ⟨rfl, rfl⟩ := dict_ep hod hdt
    obtain ⟨ok, ov, he⟩ := st
    rw [← hsz] at he
    exact DT.endI (I.ok.hd hc) he ⟨o, hgd, hx, hdt⟩ (by omega) fun h' eb => ⟨rfl, I.turned (t' := s.toks) (fun b ob hb e => eb b ob hb e) f0 f1 f3 f4 f5⟩
  self := fun A i s Q E st h => by
    obtain ⟨_, _, e⟩ := st
    exact PySem.W.kcp_self e h
def iItT (td : TE) : TI := fun σ H R => td σ H fun x H1 => ∃ d o kvs, x = .ref d ∧ H1 d = some (.frz o (.dT kvs)) ∧ R (ItT d o kvs) H1
theorem pi_itT {e : Expr} {td : TE} {apos cpos tpos : Pos} {elts : List Expr} {kk : Nat} (he : PE X e td) (hbase : attributeBase e "items" X.env (eval e X.env) = eval e X.env) (hline : (apos.endLine == cpos.line) = true) :
    PI X (.Tuple elts kk tpos) (.Call (.Attribute e "items" apos) [] [] cpos) (iItT td) := by
  refine ⟨fun pins s σ H R I h => ?_⟩
  refine wpAny_Call_method (T := "dict") (id := "dict.items") hbase rfl hline F.plainAttrs_dict F.slot_dict_items F.type_dict_items (thn (he.run pins s σ H _ I h) fun u s1 ⟨x, H1, I1, rx, d, o, kvs, ex, hd, q⟩ => ?_)
  subst ex
  obtain rfl : u = Value.ref d := rx
  obtain ⟨hs, hgd, hx, es, ep, hdt, hsz, ent⟩ := frzTv I1 hd
  refine ⟨⟨o, hgd, hx.1⟩, fun a ea => by cases ea; exact ⟨o, hgd, hx.2.1⟩, ?_⟩
  have I2 : Inv X pins σ H1 { s1 with heap := s1.heap.push { cls := .type "dict_items", data := .fields #[.ref d] } } := I1.kept (t' := s1.toks) fun b ob q => Heap.get?_push_of_some _ q
  have fin : wpAny (model X.prog X.w) X.A (pyIter (.ref s1.heap.objs.size)) (PIE X pins σ (.Tuple elts kk tpos) R) X.xe { s1 with heap := s1.heap.push { cls := .type "dict_items", data := .fields #[.ref d] } } := by
    refine DT.iterI (d := d) (es := es) (ep := ep) ⟨_, Heap.get?_push_size _ rfl, rfl, rfl⟩ ⟨o, Heap.get?_push_of_some _ hgd, hx, hdt⟩ (pi_one (tk := s1.toks) I2 _ (turn_it _ hdt) ⟨.none, .none, ?_⟩ q)
    rw [hsz]
    exact Heap.get?_push_size _ rfl
  show wpAny _ _ (callWith cpos (.builtin "dict.items") [.ref d] [] []) _ X.xe s1
  exact method_meetsIn F.slot_dict_items F.entry_dict_items rfl (PySem.evalArgs_none ⟨rfl, ⟨o, hgd, hx.1⟩, F.args_dict_items_1 _, _, DT.meetsItems (es := es) (ep := ep) hs, ⟨o, hgd, hx, hdt⟩, fin⟩)
end
end MkI
namespace Mk
open Im (rep)
open PySem PySem.Spec PyProof.Rows L2
variable {C : Cg} {G : List Slot}
section
variable {β : Type} [Im β] {kvs : List (List Str × β)} {i : Nat}
theorem isWalk_itT {H1 : Hp} {a : Addr} {od : Obj} {ks : List (List Key × V)} {ts : List (List Nm × β)} (h : H1 a = some (.frz od (.dT ks))) (r : RepT H1 ks kvs) (hk : kvs = ts.map fun p => (p.1.map Nm.s, p.2)) (hl : ts.length ≤ sizeLine) : IsWalk (MkI.ItT a od ks) H1 ts [a] := by
  have ln : ks.length = ts.length := by rw [r.len, hk, List.length_map]
  have at' : ∀ {H : Hp} {Kp : Hp → Prop}, (∀ H, Kp H → TLe H1 H ∧ ∀ b ∈ [a], H b = H1 b) → Kp H → H a = some (.frz od (.dT ks)) := fun hK k => by rw [(hK _ k).2 a (by simp)]; exact h
  refine ⟨hl, fun Kp hK => ⟨fun i H hi k => ⟨at' hK k, by rw [ln]; exact hi⟩, fun H k => ⟨at' hK k, ln.symm⟩, fun i H v H' hi k y => ?_⟩⟩
  obtain ⟨T, k', w, q, h2, rfl, hT, hq, rfl⟩ := y
  obtain ⟨t, b, e1, e2, rb⟩ := r.get h2
  rw [hk, List.getElem?_map] at e1
  obtain ⟨x, hx, ex⟩ := Option.map_eq_some_iff.mp e1
  have e3 : x.1.map Nm.s = t := congrArg Prod.fst ex
  have e4 : x.2 = b := congrArg Prod.snd ex
  have l : Le none H (upd H T (.tup [.ref q, w])) := Le.new hT
  refine ⟨l.same, x, hx, T, .ref q, w, rfl, upd_same, Im.keep l.tle (rep_nms ?_), ?_⟩
  · rw [e3, hq, e2, List.map_map]; rfl
  · rw [e4]; exact Im.keep l.tle (Im.keep (hK H k).1 rb)
theorem ei_itT {x : Str} {pos apos cpos tpos : Pos} {elts : List Expr} {kk : Nat} {a : Addr} {od : Obj} {ks : List (List Key × V)} {ts : List (List Nm × β)} (hG : G[i]? = some (lkT a od ks kvs)) (hk : kvs = ts.map fun p => (p.1.map Nm.s, p.2)) (hl : ts.length ≤ 100000) (hN : C.N[i]? = some x := by rfl) (hv : Vis C.sc x := by first | exact Or.inl rfl | exact Or.inr (Or.inl rfl) | exact Or.inr (Or.inr rfl))
    (hd : (x == ("__debug__" : Str)) = false := by decide) (hcd : (x == ("__classdict__" : Str)) = false := by decide) (hbase : ∀ env, attributeBase (.Name x pos) "items" env (eval (.Name x pos) env) = eval (.Name x pos) env := by intro _; rfl) (hline : (apos.endLine == cpos.line) = true := by rfl) :
    EvI C G (.Tuple elts kk tpos) (.Call (.Attribute (.Name x pos) "items" apos) [] [] cpos) (· = ts) := fun B σ H own le D ln ow R q => by
  obtain ⟨h1, h2, h3, h4, h5, h6⟩ := ow.slots i _ hG
  have h1 := join_some.mp h1
  refine tI_of (wi := MkI.iItT (tVar i)) (fun X ok => MkI.pi_itT (pe_var (i := i) (by rw [ok.N]; exact hN) (by rw [ok.sc]; exact hv) hd hcd) (hbase _) hline) ⟨_, h1, a, od, ks, rfl, h4, q _ H ts [a] (Le.refl _ _) rfl (isWalk_itT h4 h6 hk (by rw [sizeLine_eq]; omega)) fun b hb => ?_⟩
  rw [List.mem_singleton.mp hb]
  exact ⟨h2, h3, _, h4⟩
end
end Mk
-- MkF11
namespace Mk
open Im (rep)
open PySem PySem.Spec PyProof.Rows L2
variable {T : Tx}
section
variable {C : Cg} {G : List Slot} {β : Type} [Im β] {kvs : List (List Str × β)} {i : Nat} {y : Str} {p pos : Pos}
theorem ev_getDt {a f : Expr} {x : List Nm} {b : β} {apos : Pos} (ha : EvR C G a (.im (· = x))) (hf : EvR C G f (.im (· = b))) (hG : G[i]? = some (.dt kvs)) (hm : ∀ X, M2 X (.Name y p) "get" apos a f pos := by intro X; exact ⟨rfl, rfl, rfl, rfl⟩) (hN : C.N[i]? = some y := by rfl) (hv : Vis C.sc y := by first | exact Or.inl rfl | exact Or.inr (Or.inl rfl) | exact Or.inr (Or.inr rfl))
    (hd : (y == ("__debug__" : Str)) = false := by decide) (hcd : (y == ("__classdict__" : Str)) = false := by decide) :
    EvR C G (.Call (.Attribute (.Name y p) "get" apos) [a, f] [] pos) (.im (· = (valS kvs (kN x)).getD b)) := fun B σ H E Q q => by
  refine tE_of (t := tDGet2 (tVar i) (tE C a) (tE C f)) (fun X ok => pe_dget2 (by have := ok.room.units; omega) (pe_var (i := i) (by rw [ok.N]; exact hN) (by rw [ok.sc]; exact hv) hd hcd) (pe_tE ok) (pe_tE ok) (hm X)) ?_
  obtain ⟨c, ks, h1, h0, h2, h3, h4, _⟩ := E.dt hG
  refine ⟨_, h1, c, rfl, .inr ⟨ks, .inl h3⟩, ha B σ H E _ fun v H1 ⟨l, z, e, r⟩ => hf B σ H1 (E.go l) _ fun w H2 ⟨l2, z2, e2, r2⟩ => ?_⟩
  subst e e2
  obtain ⟨t, rfl, ht⟩ := key_rep r
  have l3 := l.trans l2
  refine ⟨_, DGet.t (l3.keep h3 h2) (l2.tle t _ ht trivial), q _ H2 ⟨l3, _, rfl, ?_⟩⟩
  show rep H2 _ ((valS kvs (z.map Nm.s)).getD z2)
  rcases repT_val (z.map Nm.s) (h4.keep l3.tle) with ⟨e1, e2⟩ | ⟨w', b', e1, e2, e3⟩ <;> rw [e1, e2]
  · exact r2
  · exact e3
theorem run_putT {a e : Expr} {x : List Nm} {b : β} {pos' pos2 : Pos} {rest : List Stmt} {D : GEnds} (he : EvR C G e (.im (· = b))) (ha : EvR C G a (.im (· = x))) (hG : G[i]? = some (.dt kvs)) (hz : kvs.length < 100000) (k : Run C (G.set i (.dt (putS kvs (kN x) b))) rest D) (hN : C.N[i]? = some y := by rfl)
    (hv : Vis C.sc y := by first | exact Or.inl rfl | exact Or.inr (Or.inl rfl) | exact Or.inr (Or.inr rfl)) (hd : (y == ("__debug__" : Str)) = false := by decide) (hcd : (y == ("__classdict__" : Str)) = false := by decide)
    (hs : ∀ env, swapsWith e (some (.Subscript (.Name y p) a pos')) pos2.line env = pure false := by intro _; rfl) :
    Run C G (.Assign [.Subscript (.Name y p) a pos'] e pos2 :: rest) D := fun B σ H E => by
  refine tSs_of (t := tSeq (sDPut (tVar i) (tE C a) (tE C e)) (tSs C rest)) (fun X ok => pss_cons (ps_dput (by have := ok.room.units; omega) (pe_var (i := i) (by rw [ok.N]; exact hN) (by rw [ok.sc]; exact hv) hd hcd) (pe_tE ok) (pe_tE ok) (hs _)) (pss_tS ok)) ?_
  obtain ⟨c, ks, h1, h2, h3, h4, h5⟩ := own_dt (kvs' := putS kvs (kN x) b) E hG
  refine he B σ H E _ fun v H1 ⟨l, _, e1, r1⟩ => ⟨_, h1, ha B σ H1 (E.go l) _ fun u H2 ⟨l2, _, e2, r2⟩ => ?_⟩
  subst e1 e2
  obtain ⟨t, rfl, ht⟩ := key_rep r2
  have l3 := l.trans l2
  refine ⟨c, _, rfl, DPut.t (l3.keep h3 h2) ht (by rw [h4.len, sizeLine_eq]; omega), ?_⟩
  exact k B σ _ (h5 H2 _ l3 ((h4.keep l3.tle).put (Im.keep l2.tle r1)))
end
theorem valS_kN {β : Type} (x : List Nm) : ∀ pd : List (List Nm × β), valS (pd.map fun p => (kN p.1, p.2)) (kN x) = valS pd x
  | [] => rfl
  | p :: pd => by
    unfold valS
    rw [List.map_cons, List.find?_cons, List.find?_cons]
    by_cases h : p.1 = x
    · rw [decide_eq_true h, decide_eq_true (show kN p.1 = kN x by rw [h])]; rfl
    · rw [decide_eq_false h, decide_eq_false (fun z => h (kN_inj z))]
      exact valS_kN x pd
theorem putS_kN {β : Type} (x : List Nm) (b : β) (pd : List (List Nm × β)) : putS (pd.map fun p => (kN p.1, p.2)) (kN x) b = (putS pd x b).map fun p => (kN p.1, p.2) := by
  have e : ((pd.map fun p => (kN p.1, p.2)).any fun p => decide (p.1 = kN x)) = pd.any fun p => decide (p.1 = x) := by
    rw [List.any_map]
    congr 1
    funext p
    show decide (kN p.1 = kN x) = decide (p.1 = x)
    by_cases h : p.1 = x
    · rw [decide_eq_true h, decide_eq_true (show kN p.1 = kN x by rw [h])]
    · rw [decide_eq_false h, decide_eq_false (fun z => h (kN_inj z))]
  unfold putS
  rw [e]
  split
  · rw [List.map_map, List.map_map]
    refine List.map_congr_left fun p _ => ?_
    show (if kN p.1 = kN x then (kN p.1, b) else (kN p.1, p.2)) = (fun p : List Nm × β => (kN p.1, p.2)) (if p.1 = x then (p.1, b) else p)
    by_cases h : p.1 = x
    · rw [if_pos h, if_pos (show kN p.1 = kN x by rw [h])]
    · rw [if_neg h, if_neg (fun z => h (kN_inj z))]
  · rw [List.map_append]; rfl
def plStep (pd : List (List Nm × List Nm)) (r : Rule) : List (List Nm × List Nm) := putS pd r.1 ((valS pd r.1).getD [] ++ r.2.filter fun c => !decide (c ∈ r.1))
def plainOf (rs : List Rule) : List Rule := ((rs.foldl plStep []).filter fun p => !decide (p.2 = [])).map fun p => (p.1, ascL p.2)
def PlPre (rs : List Rule) : Prop := rs.length ≤ 16 ∧ ∀ r ∈ rs, r.2.length ≤ 8
theorem mem_putS {κ β : Type} [DecidableEq κ] {kvs : List (κ × β)} {k : κ} {b : β} {p : κ × β} (h : p ∈ putS kvs k b) : p ∈ kvs ∨ p = (k, b) := by
  unfold putS at h
  split at h
  · obtain ⟨q, hq, e⟩ := List.mem_map.mp h
    by_cases z : q.1 = k
    · rw [if_pos z] at e; right; rw [← e, z]
    · rw [if_neg z] at e; left; rw [← e]; exact hq
  · rcases List.mem_append.mp h with z | z
    · exact .inl z
    · exact .inr (List.mem_singleton.mp z)
theorem valS_mem {κ β : Type} [DecidableEq κ] {kvs : List (κ × β)} {k : κ} {b : β} (h : valS kvs k = some b) : (k, b) ∈ kvs := by
  unfold valS at h
  obtain ⟨p, hp, e⟩ := Option.map_eq_some_iff.mp h
  have h1 := List.find?_some hp
  have h2 : p.1 = k := of_decide_eq_true h1
  rw [← h2, ← e]
  exact List.mem_of_find?_eq_some hp
theorem pl_bound : ∀ (rs : List Rule) (pd : List (List Nm × List Nm)) (n : Nat), (∀ r ∈ rs, r.2.length ≤ 8) → (∀ p ∈ pd, p.2.length ≤ n) → (rs.foldl plStep pd).length ≤ pd.length + rs.length ∧ ∀ p ∈ rs.foldl plStep pd, p.2.length ≤ n + 8 * rs.length
  | [], pd, n, _, h => ⟨Nat.le_refl _, h⟩
  | r :: rs, pd, n, hr, h => by
    have hp : ∀ p ∈ plStep pd r, p.2.length ≤ n + 8 := fun p hp => by
      rcases mem_putS hp with z | z
      · exact Nat.le_trans (h p z) (Nat.le_add_right _ _)
      · rw [z]
        show ((valS pd r.1).getD [] ++ _).length ≤ _
        rw [List.length_append]
        have h1 := List.length_filter_le (fun c => !decide (c ∈ r.1)) r.2
        have h2 := hr r List.mem_cons_self
        have h3 : ((valS pd r.1).getD []).length ≤ n := by
          cases e : valS pd r.1 with
          | none => exact Nat.zero_le _
          | some b => exact h _ (valS_mem e)
        omega
    obtain ⟨g1, g2⟩ := pl_bound rs (plStep pd r) (n + 8) (fun q hq => hr q (List.mem_cons_of_mem _ hq)) hp
    have hl : (plStep pd r).length ≤ pd.length + 1 := putS_len _ _ _
    rw [List.foldl_cons, List.length_cons]
    refine ⟨by omega, fun p hp => ?_⟩
    have := g2 p hp
    omega
theorem sc_plain_in : FnScope ["rules", "found", "left", "right"] ["rules"] (defScope (top 32)) := ⟨rfl, rfl, rfl, by decide +kernel, rfl, by decide +kernel, by decide +kernel⟩
theorem ok_plain_in (h : Top T) : Fn T 2 "plain_in" (spC (β := List Rule) false (fun b => [.ro b]) PlPre (fun b => .im (· = plainOf b))) := by
  refine def_ok (at_plain_in h) sc_plain_in (fun _ _ _ _ _ _ us hl => match us, hl with | [_], _ => rfl) (fun b => rfl) fun rs d hd hp => ?_
  obtain ⟨hn, h8⟩ := hp
  refine run_let (i := 1) put_dt (ev_newT (β := List Nm)) fun G' hG => ?_
  obtain ⟨_, rfl, rfl⟩ := hG
  refine run_for (ei_ro (i := 0) (xs := rs) rfl) (bnd_pair (i := 2) (j := 3)) (I := fun L i G' => ∃ a b, G' = [.ro rs, .dt (((L.take i).foldl plStep []).map fun p => (kN p.1, p.2)), a, b]) (fun L e => ⟨_, _, by rw [List.take_zero]; rfl⟩) ?_ ?_ ?_
  · rintro L i G' ⟨a, b, rfl⟩; rfl
  · rintro L i r G' rfl hr ⟨a, b, rfl⟩
    have hb := pl_bound (L.take i) [] 0 (fun q hq => h8 q (List.mem_of_mem_take hq)) (by simp)
    rw [List.length_take, List.length_nil] at hb
    have hr8 := h8 r (List.mem_of_getElem? hr)
    refine run_putT (i := 1) (x := r.1) (b := (valS ((L.take i).foldl plStep []) r.1).getD [] ++ r.2.filter fun c => !decide (c ∈ r.1)) ?_ ((ev_var (i := 2) rfl)) rfl (by rw [List.length_map]; omega) (run_nil ⟨.im r.1, .im r.2, ?_⟩)
    · refine (ev_catT (P := (· = (valS ((L.take i).foldl plStep []) r.1).getD [])) (R := (· = r.2.filter fun c => !decide (c ∈ r.1))) ((ev_getDt (i := 1) (x := r.1) (b := ([] : List Nm)) ((ev_var (i := 2) rfl)) ev_tup0 rfl).to (by rw [valS_kN])) (ev_call (ok_without_columns h) (r.2, r.1) (ea_var (i := 3) (s := .im r.2) rfl (ea_var (i := 2) (s := .im r.1) rfl ea_nil)) rfl trivial) ?_).imp fun z ⟨_, _, e1, e2, e3⟩ => by rw [e3, e1, e2]
      rintro xs ys rfl rfl
      have h1 := List.length_filter_le (fun c => !decide (c ∈ r.1)) r.2
      have h3 : ((valS ((L.take i).foldl plStep []) r.1).getD []).length ≤ 0 + 8 * min i L.length := by
        cases e : valS ((L.take i).foldl plStep []) r.1 with
        | none => exact Nat.zero_le _
        | some b => exact hb.2 _ (valS_mem e)
      omega
    · rw [foldl_take _ _ hr, putS_kN]
      rfl
  · rintro L G' rfl ⟨a, b, rfl⟩
    rw [List.take_length]
    have hb := pl_bound L [] 0 h8 (by simp)
    rw [List.length_nil] at hb
    refine run_ret (EvR.lockT (i := 1) rfl fun c od ks => ?_)
    refine (ev_tuple (blt h) (es_ls (ev_lc (own := [("left", 2), ("right", 3)]) (lc_filter (fun p : List Nm × List Nm => !decide (p.2 = [])) (fun p => (p.1, ascL p.2)) rfl (ei_itT (i := 1) (ts := L.foldl plStep []) rfl rfl (by omega)) (by kernel_rfl) (bnd_pair (i := 2) (j := 3)) (by decide) (fun p hp => ?_) fun p hp _ => ?_)))).imp fun z e => e
    · exact (ev_neD (ev_var (i := 3) (a := p.2) rfl) (ev_tup0 (α := Nm))).t
    · have := hb.2 p hp
      exact ev_pairE ((ev_var (i := 2) rfl)) (ev_names ((ev_tuple (P := (· = (ascL p.2).map Nm.s)) (blt h) (es_ls (ev_sortedSet (blt h) (es_im ((ev_var (i := 3) rfl))) (by omega))))))
def nameOf (kvs : List (Str × Nm)) (c : Nm) : Nm := (valS kvs c.s).getD c
def NmPre (b : List Nm × List (Str × Nm)) : Prop := ∀ c ∈ b.1, (valS b.2 c.s).isSome = true
theorem sc_with_names : FnScope ["columns", "names", "column"] ["columns", "names"] (defScope (top 31)) := ⟨rfl, rfl, rfl, by decide +kernel, rfl, by decide +kernel, by decide +kernel⟩
theorem ok_with_names (h : Top T) : Fn T 1 "with_names" (spC (β := List Nm × List (Str × Nm)) false (fun b => [.im b.1, .rk b.2]) NmPre (fun b => .im (· = srt (b.1.map (nameOf b.2))))) := by
  refine def_ok (at_with_names h) sc_with_names (fun _ _ _ _ _ _ us hl => match us, hl with | [_, _], _ => rfl) (fun b => rfl) fun b d hd hp => ?_
  obtain ⟨cs, kvs⟩ := b
  have hp : ∀ c ∈ cs, (valS kvs c.s).isSome = true := hp
  refine run_ret ((ev_tuple (blt h) (es_ls (ev_sorted (P := (· = cs.map (nameOf kvs))) (blt h) (el_ls (ev_lc (own := [("column", 2)]) (lc_map (nameOf kvs) rfl (ei_tup ((ev_var (i := 0) rfl))) (by kernel_rfl) (bnd_name (i := 2)) (by decide) fun c hc => ?_))) (fun xs _ => allAlike_of alike_nm xs) (fun xs e => fine_names xs)))).imp fun z ⟨_, e1, e2⟩ => by rw [e2, e1])
  obtain ⟨b, hb⟩ := Option.isSome_iff_exists.mp (hp c hc)
  exact (ev_atDk (i := 1) (s := .rk kvs) (ev_nmS (ev_var (i := 2) (a := c) rfl)) rfl (.inr rfl) hb).to (by unfold nameOf; rw [hb]; rfl)
end Mk
-- MkNe
namespace Mk
open Im (rep)
open PySem PySem.Spec PyProof.Rows L2
variable {C : Cg} {G : List Slot}
theorem addR_uni (L : List Rule) (r : Rule) : uniR [] (L ++ [r]) = addR (uniR [] L) r := by
  unfold uniR
  rw [List.foldl_append]
  rfl
theorem sortable_rules (rs : List Rule) : W.Sortable (rs.map Dat.data) := W.Sortable.tuples fun b => ⟨_, _, rfl⟩
theorem ev_sortedRules {iter : Expr} {k : Nat} {scope : Scope} {p1 p2 p3 pos sp spos : Pos} {j : Nat} {xs : List Rule} (b : Blt C.T) (hl : G.length = C.N.length) (hi : EvI C G (.Name "rule" p1) iter (· = xs)) (ok : blkC C.N C.sc scope [("rule", k)] = true) (hN : C.N[k]? = some "rule") (hx : (C.blk scope).sc.names.lookup ("rule" : Str) = some .local) (hk : k < G.length) (hz : xs.length ≤ 1000)
    (hg : C.sc.names.lookup ("sorted" : Str) = some .globalImplicit := by rfl) (hs : ∀ env x, foldedSetIterable iter env x = pure x := by intro _ _; rfl) (h1 : 1 ≤ C.k := by exact Nat.le_of_ble_eq_true rfl)
    (hst : ∀ env, starEach [.DictComp (.Name "rule" p2) (.Constant (.bool true) j p3) [⟨.Name "rule" p1, iter, [], 0⟩] scope pos] env = (false, eval (.DictComp (.Name "rule" p2) (.Constant (.bool true) j p3) [⟨.Name "rule" p1, iter, [], 0⟩] scope pos) env) :: starEach [] env := by intro _; rfl) :
    EvR C G (.Call (.Name "sorted" sp) [.DictComp (.Name "rule" p2) (.Constant (.bool true) j p3) [⟨.Name "rule" p1, iter, [], 0⟩] scope pos] [] spos) (.ls (· = srt (uniR [] xs))) := fun B σ H E Q q => by
  refine ev_blt1 (f := rSortN C.T.P C.T.w) (fun X ok => by rw [← ok.prog, ← ok.w]; exact cr_sortN ok.calm ok.room.units) b.sorted PyProof.Rows.boot_sorted ?_ hg (by decide) (by decide) hst
  have hv : (wipeG G [k])[k]? = (wipeG G [k])[k]? := rfl
  refine te_dx (kNd C.T) (β := Bool) (own := [("rule", k)]) (fun r : Rule => r) (fun _ => true) (fun L D H => ∃ ns, H D = some (dN C.T.P C.T.w D ns) ∧ NdR H ns (uniR [] (L.map fun p : Rule × Bool => p.1)) ∧ ns.length ≤ L.length)
    (fun H D hD => ⟨[], upd_same, trivial, Nat.le_refl _⟩) (fun {d L D H H'} hd kk ⟨ns, g1, g2, g3⟩ => ⟨ns, kk.keep g1 hd, g2.keep kk.tle, g3⟩) ?_ hl hi ok (bnd_name (i := k) hN (.inl hx)) (by simp) (fun x hx' => ?_) (fun x hx' => ev_bl) hs rfl h1 B σ H E _ fun D H2 l n ⟨ns, g1, g2, g3⟩ => ?_
  · intro L D H y z kk b hz' ⟨ns, g1, g2, g3⟩ ry rz
    have ez : z = .bl b := rz
    obtain ⟨t, ey, _⟩ := (show ∃ t, y = .ref t ∧ True from let ⟨t, _, _, e, _⟩ := ry; ⟨t, e, trivial⟩)
    subst ey
    have tl : TLe H (upd H D (dN C.T.P C.T.w D (storedH ns (nkR kk) t (.bool b)))) := TLe.upd fun o ho => by rw [g1] at ho; cases ho; exact id
    refine ⟨_, ⟨ns, _, t, kk, b, g1, g2, rfl, ry, ez, by omega, rfl⟩, ⟨_, upd_same, ?_, ?_⟩, fun d H0 h0 le => le.mut h0⟩
    · rw [List.map_append]
      show NdR _ _ (uniR [] (_ ++ [kk]))
      rw [addR_uni]
      exact (g2.put ry).keep tl
    · rw [List.length_append, List.length_singleton]
      unfold storedH
      split
      · rw [List.length_map]; omega
      · rw [List.length_append, List.length_singleton]; omega
  · exact ev_var (C := C.blk scope) (i := k) (List.getElem?_set_self (by rw [wipeG_length]; exact hk)) hN (.inl hx)
  · have e1 : (xs.map fun x : Rule => (x, true)).map (fun p : Rule × Bool => p.1) = xs := by rw [List.map_map]; exact List.map_id _
    rw [e1] at g2
    rw [List.length_map] at g3
    have hn := g2.len
    refine ⟨D, ns, uniR [] xs, rfl, g1, g2, by omega, allAlike_of alike_rule _, sortable_rules _, fun p hp => ?_⟩
    obtain ⟨q1, q2, q3⟩ := prs_rep g2
    have e2 : srt (uniR [] xs) = ((prs ns (uniR [] xs)).mergeSort (W.dataLe false fun b => Dat.data b.2)).map (·.2) := by
      have z := W.sort_maps (r := W.dataLe false fun b : V × Rule => Dat.data b.2) (s := W.dataLe false Dat.data) (·.2) (l := prs ns (uniR [] xs)) fun a _ b _ => rfl
      rw [z, q2]
      rfl
    refine q _ _ ⟨l.trans (Le.new hp), p, _, srt (uniR [] xs), rfl, l.free hp, upd_same, ?_, rfl⟩
    rw [e2]
    exact (reps_maps fun b hb => q1 b ((List.mergeSort_perm _ _).mem_iff.mp hb)).keep (Le.new (d := none) hp).tle
end Mk
-- MkFl
namespace Mk
open Im (rep)
open PySem PySem.Spec PyProof.Rows L2
variable {C : Cg} {G : List Slot}
section
variable {d : Option Addr} {B H : Hp} {σ : L2.St} {i : Nat} {a : Addr} {u0 u1 : HO} {P : Hp → Prop}
theorem Env.settle (E : Env d B G σ H) (hσ : σ[i]? = some (some (.ref a))) (hB : B a = none) (hw : ∀ own : Addr → Option Nat, Owns d B H G σ own → own a = some i) (h0 : H a = some u0) (s0 : ¬ Stable u0)
    (hm : ∀ H1 H2, TLe H1 H2 → P H1 → P H2) (hP : P (upd H a u1)) : Env d B (G.set i (.fz a u1 P)) σ (upd H a u1) := by
  have hd := E.dice.ne hB
  obtain ⟨le, D, ln, own, ow⟩ := E
  have hwa := hw own ow
  have tl : TLe H (upd H a u1) := TLe.upd fun o e => by rw [h0] at e; cases e; exact s0
  have n1 : ∀ {b j}, j ≠ i → own b = some j → b ≠ a := fun {b j} hj z q => by rw [q, hwa] at z; exact hj (Option.some.inj z).symm
  have n2 : ∀ {b}, own b = none → b ≠ a := fun {b} z q => by rw [q, hwa] at z; cases z
  let own' : Addr → Option Nat := fun b => if b = a then none else own b
  have o1 : ∀ {b}, own b = none → own' b = none := fun {b} z => by show (if b = a then none else own b) = none; split <;> first | rfl | exact z
  have o2 : ∀ {b}, b ≠ a → own' b = own b := fun {b} z => if_neg z
  refine ⟨le.mut hB, D, by rw [List.length_set]; exact ln, own', fun b e => ?_, fun b j e => ?_, fun j s e => ?_⟩
  · by_cases q : b = a
    · rw [q, upd_same] at e; cases e
    · rw [upd_ne q] at e; exact o1 (ow.free b e)
  · have q : b ≠ a := fun z => by rw [z] at e; simp [own'] at e
    rw [o2 q] at e
    refine ⟨(ow.cell b j e).1, ?_⟩
    rw [upd_ne q]
    exact (ow.cell b j e).2
  · rcases slot_other e with ⟨rfl, rfl, _⟩ | ⟨hj, e⟩
    · exact ⟨join_some.mpr hσ, if_pos rfl, hd, upd_same, hm, hP⟩
    · have hs := ow.slots j s e
      cases s with
      | no => exact hs
      | im x => obtain ⟨v, g1, g2⟩ := hs; exact ⟨v, g1, Im.keep tl g2⟩
      | ro ys => obtain ⟨b, ws, g1, g2, g3, g4, g5⟩ := hs; exact ⟨b, ws, g1, o1 g2, g3, by rw [upd_ne (n2 g2)]; exact g4, g5.keep tl⟩
      | ls ys => obtain ⟨b, ws, g1, g2, g3, g4, g5⟩ := hs; have q := n1 hj g3; exact ⟨b, ws, g1, g2, by rw [o2 q]; exact g3, by rw [upd_ne q]; exact g4, g5.keep tl⟩
      | dk ys => obtain ⟨b, ws, g1, g2, g3, g4, g5⟩ := hs; have q := n1 hj g3; exact ⟨b, ws, g1, g2, by rw [o2 q]; exact g3, by rw [upd_ne q]; exact g4, g5.keep tl⟩
      | rk ys => obtain ⟨b, ws, g1, g2, g3, g4, g5⟩ := hs; exact ⟨b, ws, g1, o1 g2, g3, by rw [upd_ne (n2 g2)]; exact g4, g5.keep tl⟩
      | dt ys => obtain ⟨b, ws, g1, g2, g3, g4, g5⟩ := hs; have q := n1 hj g3; exact ⟨b, ws, g1, g2, by rw [o2 q]; exact g3, by rw [upd_ne q]; exact g4, g5.keep tl⟩
      | di => exact hs
      | ob b c dx fs R => obtain ⟨g1, g2, g3, g4, g5, g6, g7⟩ := hs; have q := n1 hj g3; exact ⟨g1, g2, by rw [o2 q]; exact g3, by rw [upd_ne q]; exact g4, g5, g6, g6 _ _ tl g7⟩
      | fz b u R => obtain ⟨g1, g2, g3, g4, g5, g6⟩ := hs; exact ⟨g1, o1 g2, g3, by rw [upd_ne (n2 g2)]; exact g4, g5, g5 _ _ tl g6⟩
theorem Env.obj {c dx : Addr} {fs : List (Str × V)} (E : Env d B G σ H) (e : G[i]? = some (.ob a c dx fs P)) : σ[i]? = some (some (.ref a)) ∧ B a = none ∧ d ≠ some a ∧ H a = some (.ins c dx fs) ∧ fs.length ≠ 3 ∧ (∀ H1 H2, TLe H1 H2 → P H1 → P H2) ∧ P H ∧
    ∀ own : Addr → Option Nat, Owns d B H G σ own → own a = some i := by
  have hd := fun h => E.dice.ne (H := B) (p := a) h
  obtain ⟨_, D, _, own, h⟩ := E
  obtain ⟨h1, h2, h3, h4, h5, h6, h7⟩ := h.slots i _ e
  refine ⟨join_some.mp h1, h2, hd h2, h4, h5, h6, h7, fun own' h' => ?_⟩
  obtain ⟨_, _, g3, _⟩ := h'.slots i _ e
  exact g3
end
section
variable {α : Type} [Im α] {y : α} {i : Nat} {x : Str} {f : Str} {e : Expr} {p pos pos' : Pos} {rest : List Stmt} {D : GEnds} {a dx : Addr} {fs : List (Str × V)} {P : Hp → Prop} {c : Addr}
theorem run_fld (he : EvR C G e (.im (· = y))) (hG : G[i]? = some (.ob a c dx fs P)) (hc : Cls C.T.K c) (hn : NoAttr C.T.K c f) (hl : fs.length < 900) (k : ∀ v, Run C (G.set i (if (putF f v fs).length = 3 then .fz a (.ins c dx (putF f v fs)) (fun H => P H ∧ rep H v y) else .ob a c dx (putF f v fs) (fun H => P H ∧ rep H v y))) rest D)
    (hN : C.N[i]? = some x := by rfl) (hv : Vis C.sc x := by first | exact Or.inl rfl | exact Or.inr (Or.inl rfl) | exact Or.inr (Or.inr rfl)) (hd : (x == ("__debug__" : Str)) = false := by decide) (hcd : (x == ("__classdict__" : Str)) = false := by decide)
    (hs : ∀ env, swapsWith e (some (.Attribute (.Name x p) f pos')) pos.line env = pure false := by intro _; rfl) : Run C G (.Assign [.Attribute (.Name x p) f pos'] e pos :: rest) D := fun B σ H E => by
  refine tSs_of (t := tSeq (sFld C.T.K (tVar i) (tE C e) f) (tSs C rest)) (fun X ok => pss_cons (by rw [← ok.K]; exact ps_fld (pe_var (i := i) (by rw [ok.N]; exact hN) (by rw [ok.sc]; exact hv) hd hcd) (pe_tE ok) (hs _)) (pss_tS ok)) ?_
  refine he B σ H E _ fun v H1 ⟨l, y', e1, r1⟩ => ?_
  rw [e1] at r1
  obtain ⟨h1, h2, h3, h4, h5, h6, h7, h8⟩ := (E.go l).obj hG
  refine ⟨_, h1, a, c, dx, fs, rfl, h4, hc, hn, by omega, ?_⟩
  have s0 : ¬ Stable (.ins c dx fs) := h5
  have tl : TLe H1 (upd H1 a (.ins c dx (putF f v fs))) := TLe.upd fun o e => by rw [h4] at e; cases e; exact s0
  have mono : ∀ G1 G2, TLe G1 G2 → (P G1 ∧ rep G1 v y) → (P G2 ∧ rep G2 v y) := fun G1 G2 k ⟨q1, q2⟩ => ⟨h6 _ _ k q1, Im.keep k q2⟩
  have hP : P (upd H1 a (.ins c dx (putF f v fs))) ∧ rep (upd H1 a (.ins c dx (putF f v fs))) v y := ⟨h6 _ _ tl h7, Im.keep tl r1⟩
  refine k v B σ _ ?_
  split
  · exact (E.go l).settle (P := fun H => P H ∧ rep H v y) h1 h2 h8 h4 s0 mono hP
  · rename_i hne
    exact Env.put (s := .no) (E.go l) h1 h2 h8 h4 s0 ⟨rfl, upd_same, hne, mono, hP⟩
end
end Mk
-- MkIn
namespace Mk
open Im (rep)
open PySem PySem.Spec PyProof.Rows L2
variable {T : Tx}
def mkRul (T : Tx) (cs : List Nm) (rs : List Rule) : RulT T := ⟨cs, srt (uniR [] rs), plainOf (srt (uniR [] rs))⟩
structure InPre (cs : List Nm) (rs : List Rule) : Prop where
  cols : Cols cs
  rules : ∀ r ∈ rs, ROk cs r
  len : rs.length ≤ 1000
  few : (uniR [] rs).length ≤ 16
theorem mem_uniR {r : Rule} : ∀ {ms ks : List Rule}, r ∈ uniR ks ms ↔ r ∈ ks ∨ r ∈ ms
  | [], ks => by simp [uniR]
  | m :: ms, ks => by
    show r ∈ uniR (if m ∈ ks then ks else ks ++ [m]) ms ↔ _
    rw [mem_uniR (ms := ms)]
    by_cases h : m ∈ ks
    · rw [if_pos h, List.mem_cons]
      exact ⟨fun z => z.elim .inl fun z => .inr (.inr z), fun z => z.elim .inl fun z => z.elim (fun e => .inl (e ▸ h)) .inr⟩
    · rw [if_neg h, List.mem_append, List.mem_singleton, List.mem_cons, or_assoc]
theorem srt_perm {α : Type} [Dat α] (xs : List α) : (srt xs).Perm xs := List.mergeSort_perm _ _
theorem mem_srtR {r : Rule} {rs : List Rule} : r ∈ srt (uniR [] rs) ↔ r ∈ rs := by
  rw [(srt_perm _).mem_iff, mem_uniR]
  simp
theorem sc_init : FnScope ["self", "columns", "rules", "rule", "found"] ["self", "columns", "rules"] (defScope (mth 0)) := ⟨rfl, rfl, rfl, by decide +kernel, rfl, by decide +kernel, by decide +kernel⟩
theorem run_init (h : Top T) {a dx : Addr} {cs : List Nm} {rs : List Rule} (hp : InPre cs rs) :
    Run ⟨T, ["self", "columns", "rules", "rule", "found"], defScope (mth 0), 6, none, fun _ => true⟩ [.ob a (gR T.K) dx [] (fun _ => True), .im cs, .im rs, .no, .no] (defBody (mth 0))
      { nx := fun G' => ∃ v1 v2 v3 x y, G' = [.fz a (.ins (gR T.K) dx (insF v1 v2 v3)) (fun H => ((True ∧ rep H v1 cs) ∧ rep H v2 (srt (uniR [] rs))) ∧ rep H v3 (plainOf (srt (uniR [] rs)))), .im cs, .im rs, x, y], rt := .im (α := Bool) fun _ => False } := by
  obtain ⟨hc, hr, hz, hf⟩ := hp
  have hl : (srt (uniR [] rs)).length ≤ 16 := by rw [(srt_perm _).length_eq]; exact hf
  refine run_expr (ev_call (ok_require_columns_rules h) cs (ea_var (i := 1) (s := .im cs) rfl ea_nil) rfl hc) ?_
  refine run_for (ei_tup ((ev_var (i := 2) rfl))) (bnd_name (i := 3)) (I := fun L i G' => ∃ x, G' = [.ob a (gR T.K) dx [] (fun _ => True), .im cs, .im rs, x, .no]) (fun L e => ⟨_, rfl⟩) ?_ ?_ ?_
  · rintro L i G' ⟨x, rfl⟩; rfl
  · rintro L i r G' rfl hr' ⟨x, rfl⟩
    exact run_expr (ev_call (ok_require_rule h) (cs, r) (ea_var (i := 1) (s := .im cs) rfl (ea_var (i := 3) (s := .im r) rfl ea_nil)) rfl (hr r (List.mem_of_getElem? hr'))) (run_nil ⟨_, rfl⟩)
  · rintro L G' rfl ⟨x, rfl⟩
    refine run_let (i := 4) put_ro (ev_sortedRules (k := 3) (blt h) rfl (ei_tup (ev_var (i := 2) (a := L) rfl)) (by kernel_rfl) rfl rfl (Nat.le_of_ble_eq_true rfl) hz) fun G' hG => ?_
    obtain ⟨_, rfl, rfl⟩ := hG
    refine run_if (b := false) ((ev_gtE (ev_len (P := (· = srt (uniR [] L))) (n := ((srt (uniR [] L)).length : Int)) (blt h) (es_ro (i := 4) rfl) (fun xs e => by rw [e])) (ev_glob (v := .int 16) (g_MAX_RULES h) fun H => rfl)).t.to (decide_eq_false (by omega))) (fun z => by cases z) fun _ => run_nil ?_
    refine run_fld (i := 0) (y := cs) ((ev_var (i := 1) rfl)) rfl (c_cls h) (c_own_columns h) (Nat.le_of_ble_eq_true rfl) fun v1 => ?_
    refine run_fld (i := 0) (y := srt (uniR [] L)) (ev_tuple (P := (· = srt (uniR [] L))) (blt h) (es_ro (i := 4) rfl)) rfl (c_cls h) (c_own_rules h) (Nat.le_of_ble_eq_true rfl) fun v2 => ?_
    refine run_fld (i := 0) (y := plainOf (srt (uniR [] L))) (ev_call (ok_plain_in h) (srt (uniR [] L)) (ea_var (i := 4) rfl ea_nil) rfl ⟨hl, fun r hr' => (hr r (mem_srtR.mp hr')).hr.len⟩) rfl (c_cls h) (c_own_plain h) (Nat.le_of_ble_eq_true rfl) fun v3 => ?_
    exact run_nil ⟨v1, v2, v3, _, _, rfl⟩
end Mk
namespace Mk
open Im (rep)
open PySem PySem.Spec PyProof.Rows L2
variable {T : Tx}
def spI (T : Tx) : Sp := fun vs H Q _ => ∃ (a dx : Addr) (v1 v2 : V) (cs : List Nm) (rs : List Rule), vs = [.ref a, v1, v2] ∧ H a = some (.ins (gR T.K) dx []) ∧ rep H v1 cs ∧ rep H v2 rs ∧ InPre cs rs ∧
  ∀ H', (∀ b o, b ≠ a → H b = some o → H' b = some o) → rep H' (.ref a) (mkRul T cs rs) → Q .non H'
theorem init_ok (h : Top T) : FnR T.P T.w T.K T.mg T.base CX0 7 (He.ma T.K (gR T.K) "__init__") (fun vs H Q E => ∃ ws rest, vs = ws ++ rest ∧ ws.length = ["self", "columns"].length ∧ rest.length ≤ sizeLine ∧ ∀ p, H p = Option.none → spI T (ws ++ [V.ref p]) (upd H p (.tup rest)) Q E) := by
  obtain ⟨fd, F⟩ := d___init__ h
  obtain ⟨oc, od, dV, kV, doc, pm, an, cdv, ct, osl, rfl, lk, hcd, hdv, hkv⟩ := F.ex
  have hdv : dV = .none := hdv.elim (fun z => z.2) fun z => absurd rfl z.1
  subst hdv
  refine StX.fn_star (k := 6) (ps := ["self", "columns"]) (pv := "rules") lk hcd sc_init StX.cxUp_none (StX.bind_star2 (B := fun us => bindArgs (PySem.W.fnOf "__init__" "Rules.__init__" (defArgs (mth 0)) (defBody (mth 0)) (defScope (mth 0)) .none kV doc pm an cdv ct) ⟨us, []⟩) (fun _ _ => rfl) (fun _ _ _ _ => rfl)) fun A outer s H vs Q E hr ⟨a, dx, v1, v2, cs, rs, ev, ha, r1, r2, hp, hq⟩ => ?_
  subst ev
  have hrun := run_init h (a := a) (dx := dx) hp
  let C : Cg := ⟨T, ["self", "columns", "rules", "rule", "found"], defScope (mth 0), 6, none, fun _ => true⟩
  let B : Hp := fun b => if b = a then none else H b
  have E0 : Env none B [.ob a (gR T.K) dx [] (fun _ => True), .im cs, .im rs, .no, .no] (start ["self", "columns", "rules", "rule", "found"] [.ref a, v1, v2]) H := by
    refine ⟨fun b o e => ?_, DiceAt.no, rfl, fun b => if b = a then some 0 else none, fun b e => ?_, fun b j e => ?_, fun j s e => ?_⟩
    · have e : (if b = a then none else H b) = some o := e
      by_cases q : b = a
      · rw [if_pos q] at e; cases e
      · rw [if_neg q] at e; exact .inl e
    · exact if_neg (fun q => by rw [q, ha] at e; cases e)
    · have e : (if b = a then some 0 else none) = some j := e
      by_cases q : b = a
      · refine ⟨if_pos q, fun o ho st => ?_⟩
        rw [q, ha] at ho
        cases ho
        exact absurd st (by show ¬ (0 = 3); decide)
      · rw [if_neg q] at e; cases e
    · match j, e with
      | 0, e => cases e; exact ⟨rfl, if_pos rfl, if_pos rfl, ha, by show ¬ (0 = 3); decide, fun _ _ _ z => z, trivial⟩
      | 1, e => cases e; exact ⟨v1, rfl, r1⟩
      | 2, e => cases e; exact ⟨v2, rfl, r2⟩
      | 3, e => cases e; trivial
      | 4, e => cases e; trivial
      | n + 5, e => cases e
  have hr2 := hrun B _ H E0
  refine ⟨tSs C (defBody (mth 0)), PSs.nox (pss_tS ⟨rfl, rfl, rfl, rfl, rfl, rfl, sc_init.nd, rfl, rfl, hr, rfl, fun _ _ => rfl⟩), ?_⟩
  intro X ok pins s1 I
  refine thn (hr2 X ok pins s1 I) fun fl s2 q => ?_
  cases fl with
  | next =>
    obtain ⟨σ', H', I', G', ⟨u1, u2, u3, x, y, rfl⟩, E'⟩ := q
    refine ⟨σ', H', I', hq H' (fun b o hb e => ?_) ?_⟩
    · rcases E'.le b o (show (if b = a then none else H b) = some o by rw [if_neg hb]; exact e) with z | ⟨z, _⟩
      · exact z
      · cases z
    · obtain ⟨_, _, _, own, ow⟩ := E'
      obtain ⟨_, _, _, g4, _, ⟨⟨_, g5⟩, g6⟩, g7⟩ := ow.slots 0 _ rfl
      exact ⟨a, dx, u1, u2, u3, rfl, g4, g5, g6, g7⟩
  | ret u =>
    obtain ⟨v, σ', H', I', r, _, _, z, _⟩ := q
    exact z.elim
  | brk => obtain ⟨_, _, _, _, z, _⟩ := q; exact z.elim
  | cont => obtain ⟨_, _, _, _, z, _⟩ := q; exact z.elim
end Mk
-- MkMk
namespace Mk
open Im (rep)
open PySem PySem.Spec PyProof.Rows L2
theorem pe_makeS {X : Cx} {CX : CXT} {k : Nat} {f Ca : Addr} {sp : Sp} {E : XK} {x : Str} {e : Expr} {es : List Expr} {t : TA} {p pos : Pos} (M : L2.Mk X.K Ca f) (F : FnR X.prog X.w X.K X.mg X.base CX k f sp) (hr : Room (k + 1) X.A) (hg : Gl X x) (hm : X.mg x = some (.ref Ca)) (hx : Passes CX X E) (ha : PA X (e :: es) t) (hdb : (x == ("__debug__" : Str)) = false)
    (he : starEach (e :: es) X.env = (false, eval e X.env) :: starEach es X.env) (hst : (backTo pos (starEach es X.env)).any (·.1) = true) : PE X (.Call (.Name x p) (e :: es) [] pos) (StX.tMakeR Ca sp E t) := by
  refine ⟨fun pins s σ H Q I h => ?_⟩
  refine wpAny_Call_Name_kw (ld_glob I hg hm ?_ hdb)
  refine PySem.W.callWith_S2 (h₀ := X.base) I.ok.mod.kin M.kp (thn (ha.run pos pins s σ H _ I h) fun us s1 ⟨vs, H1, I1, r, q⟩ => ⟨I1.kIn, ?_⟩) he hst
  exact StX.run_makeR M F hr hx I1 r q
end Mk
namespace Mk
open Im (rep)
open PySem PySem.Spec PyProof.Rows L2
variable {C : Cg} {G : List Slot}
theorem mk_go {T : Tx} {H : Hp} {d : Option Addr} {v : V} {us : List V} {cs : List Nm} {rs : List Rule} {Q : VK} (D : DiceAt d H) (rv : rep H v cs) (ru : Reps H us rs) (hp : InPre cs rs) (q : ∀ a H2, retIs d H (.im (· = mkRul T cs rs)) (.ref a) H2 → Q (.ref a) H2) :
    ∀ x dx, H x = none → H dx = none → dx ≠ x → (fun vs H Q (E : XK) => ∃ ws rest, vs = ws ++ rest ∧ ws.length = (["self", "columns"] : List Str).length ∧ rest.length ≤ sizeLine ∧ ∀ p, H p = none → spI T (ws ++ [V.ref p]) (upd H p (.tup rest)) Q E)
      (V.ref x :: v :: us) (upd (upd H dx (.own x)) x (.ins (gR T.K) dx [])) (fun w H2 => w = .non ∧ Q (.ref x) H2) E0 := by
  intro x dx hx hdx hne
  have l1 : Le d H (upd (upd H dx (.own x)) x (.ins (gR T.K) dx [])) := (Le.new hdx).mut hx
  refine ⟨[V.ref x, v], us, rfl, rfl, by rw [ru.len, sizeLine_eq]; have := hp.len; omega, fun p hpn => ?_⟩
  have hpx : p ≠ x := fun z => by rw [z, upd_same] at hpn; cases hpn
  have hpH : H p = none := l1.free hpn
  have l2 := l1.trans (Le.new hpn (o := .tup us))
  refine ⟨x, dx, v, .ref p, cs, rs, rfl, by rw [upd_ne (Ne.symm hpx), upd_same], Im.keep l2.tle rv, ⟨p, us, rfl, upd_same, ru.keep l2.tle⟩, hp, fun H' k r => ⟨rfl, q x H' ⟨fun b o e => ?_, _, rfl, r⟩⟩⟩
  have hbx : b ≠ x := fun z => by rw [z, hx] at e; cases e
  rcases l2 b o e with z | ⟨z1, z2, o', z3, z4⟩
  · exact .inl (k b o hbx z)
  · exact .inr ⟨z1, z2, o', k b o' hbx z3, z4⟩
end Mk
namespace Mk
open Im (rep)
open PySem PySem.Spec PyProof.Rows L2
variable {C : Cg} {G : List Slot} {T : Tx}
theorem ev_make1 (h : Top T) {a b : Expr} {p pos sp : Pos} {cs : List Nm} {rs : List Rule} (ha : EvR C G a (.im (· = cs))) (hb : EvSq C G b (· = rs)) (hp : InPre cs rs) (hk : 8 ≤ C.k := by exact Nat.le_of_ble_eq_true rfl) (hg : C.sc.names.lookup ("Rules" : Str) = some .globalImplicit := by rfl)
    (he : ∀ env, starEach [a, .Starred b sp] env = (false, eval a env) :: starEach [.Starred b sp] env := by intro _; rfl) (hs : ∀ env, starEach [.Starred b sp] env = (true, eval b env) :: starEach [] env := by intro _; rfl) (hst : ∀ env, (backTo pos (starEach [.Starred b sp] env)).any (·.1) = true := by intro _; rfl) (hT : C.T = T := by rfl) :
    EvR C G (.Call (.Name "Rules" p) [a, .Starred b sp] [] pos) (.im (· = mkRul T cs rs)) := fun B σ H E Q q => by
  subst hT
  refine tE_of (t := StX.tMakeR (gR C.T.K) (fun vs H Q (E : XK) => ∃ ws rest, vs = ws ++ rest ∧ ws.length = (["self", "columns"] : List Str).length ∧ rest.length ≤ sizeLine ∧ ∀ p, H p = none → spI C.T (ws ++ [V.ref p]) (upd H p (.tup rest)) Q E) E0 (tCons (tE C a) (StX.tStar C.T.K (tE C b) tNil))) (fun X ok => pe_makeS (k := 7) (by rw [ok.K]; exact c_mkr h) (by rw [ok.prog, ok.w, ok.K, ok.mg, ok.base]; exact init_ok h) (ok.room.mono hk) (gl_of ok hg) (by rw [ok.mg]; exact g_Rules h) pass0 (pa_cons (pe_tE ok) (by rw [← ok.K]; exact StX.pa_star (pe_tE ok) pa_nil (hs _)) (he _)) (by decide) (he _) (hst _)) ?_
  refine ha B σ H E _ fun v H1 ⟨l, _, e1, r1⟩ => hb B σ H1 (E.go l) _ fun w H2 ys l2 py ⟨c, vs, ew, hc, nd, r2⟩ => ?_
  subst e1 py ew
  refine ⟨c, vs, rfl, (SeqIs.sq hc).symm, ?_⟩
  have r3 : Reps H2 (vs ++ []) ys := by rw [List.append_nil]; exact r2
  exact mk_go (T := C.T) ((E.go l).go l2).diceH (Im.keep l2.tle r1) r3 hp fun x H3 hr => q _ _ (retIs.pre (l.trans l2) hr)
end Mk
-- MkMl
namespace Mk
open Im (rep)
open PySem PySem.Spec PyProof.Rows L2
variable {C : Cg} {G : List Slot} {T : Tx}
theorem ev_make2 (h : Top T) {a b c : Expr} {p pos sp : Pos} {cs : List Nm} {rs : List Rule} {r : Rule} (ha : EvR C G a (.im (· = cs))) (hb : EvSq C G b (· = rs)) (hc : EvR C G c (.im (· = r))) (hp : InPre cs (rs ++ [r])) (hk : 8 ≤ C.k := by exact Nat.le_of_ble_eq_true rfl) (hg : C.sc.names.lookup ("Rules" : Str) = some .globalImplicit := by rfl)
    (he : ∀ env, starEach [a, .Starred b sp, c] env = (false, eval a env) :: starEach [.Starred b sp, c] env := by intro _; rfl) (hs : ∀ env, starEach [.Starred b sp, c] env = (true, eval b env) :: starEach [c] env := by intro _; rfl) (hs2 : ∀ env, starEach [c] env = (false, eval c env) :: starEach [] env := by intro _; rfl) (hst : ∀ env, (backTo pos (starEach [.Starred b sp, c] env)).any (·.1) = true := by intro _; rfl) (hT : C.T = T := by rfl) :
    EvR C G (.Call (.Name "Rules" p) [a, .Starred b sp, c] [] pos) (.im (· = mkRul T cs (rs ++ [r]))) := fun B σ H E Q q => by
  subst hT
  refine tE_of (t := StX.tMakeR (gR C.T.K) (fun vs H Q (E : XK) => ∃ ws rest, vs = ws ++ rest ∧ ws.length = (["self", "columns"] : List Str).length ∧ rest.length ≤ sizeLine ∧ ∀ p, H p = none → spI C.T (ws ++ [V.ref p]) (upd H p (.tup rest)) Q E) E0 (tCons (tE C a) (StX.tStar C.T.K (tE C b) (tCons (tE C c) tNil)))) (fun X ok => pe_makeS (k := 7) (by rw [ok.K]; exact c_mkr h) (by rw [ok.prog, ok.w, ok.K, ok.mg, ok.base]; exact init_ok h) (ok.room.mono hk) (gl_of ok hg) (by rw [ok.mg]; exact g_Rules h) pass0 (pa_cons (pe_tE ok) (by rw [← ok.K]; exact StX.pa_star (pe_tE ok) (pa_cons (pe_tE ok) pa_nil (hs2 _)) (hs _)) (he _)) (by decide) (he _) (hst _)) ?_
  refine ha B σ H E _ fun v H1 ⟨l, _, e1, r1⟩ => hb B σ H1 (E.go l) _ fun w H2 ys l2 py ⟨c, vs, ew, hc2, nd, r2⟩ => ?_
  subst py ew
  refine ⟨c, vs, rfl, (SeqIs.sq hc2).symm, hc B σ H2 ((E.go l).go l2) _ fun u H3 ⟨l3, _, e3, r3⟩ => ?_⟩
  rw [e1] at r1
  rw [e3] at r3
  exact mk_go (T := C.T) (((E.go l).go l2).go l3).diceH (Im.keep (l2.trans l3).tle r1) ((r2.keep l3.tle).app (Reps.one r3)) hp fun x H4 hr => q _ _ (retIs.pre ((l.trans l2).trans l3) hr)
end Mk
-- MkF12
namespace Mk
open Im (rep)
open PySem PySem.Spec PyProof.Rows L2
variable {T : Tx}
structure WrPre {C : Addr} (x : Rul C) (r : Rule) : Prop where
  ok : RulOk x
  rok : ROk x.cols r
  inp : InPre x.cols (x.rules ++ [r])
theorem sc_with_rule : FnScope ["self", "left", "right"] ["self", "left", "right"] (defScope (mth 7)) := ⟨rfl, rfl, rfl, by decide +kernel, rfl, by decide +kernel, by decide +kernel⟩
theorem ok_with_rule (h : Top T) : Md T 9 "with_rule" (spC (β := RulT T × Rule) false (fun b => [.im b.1, .im b.2.1, .im b.2.2]) (fun b => WrPre b.1 b.2) (fun b => .im (· = mkRul T b.1.cols (b.1.rules ++ [b.2])))) := by
  refine md_ok (c_with_rule h) (d_with_rule h) sc_with_rule (fun _ _ _ _ _ _ us hl => match us, hl with | [_, _, _], _ => rfl) (fun b => rfl) fun b d hp => ?_
  obtain ⟨x, l, r⟩ := b
  obtain ⟨h1, h2, h3⟩ := hp
  refine run_expr (ev_call (ok_require_rule h) (x.cols, (l, r)) (ea_im (ev_own_columns (x := x) h ((ev_var (i := 0) rfl))) (ea_im (ev_pairE ((ev_var (i := 1) rfl)) ((ev_var (i := 2) rfl))) ea_nil)) rfl h2) ?_
  exact run_ret (ev_make2 h (rs := x.rules) (r := (l, r)) (ev_own_columns (x := x) h ((ev_var (i := 0) rfl))) (es_im (ev_own_rules (x := x) h ((ev_var (i := 0) rfl)))) (ev_pairE ((ev_var (i := 1) rfl)) ((ev_var (i := 2) rfl))) h3)
end Mk
-- MkF13
namespace Mk
open Im (rep)
open PySem PySem.Spec PyProof.Rows L2
variable {T : Tx}
def without (cs s : List Nm) : List Nm := cs.filter fun c => !decide (c ∈ s)
def struckL (rs : List Rule) (s : List Nm) : List Rule := (rs.map fun r => (without r.1 s, without r.2 s)).filter fun r => !decide (r.2 = [])
structure StPre {C : Addr} (x : Rul C) (s : List Nm) : Prop where
  sub : ∀ c ∈ s, c ∈ x.cols
  inp : InPre (without x.cols s) (struckL x.rules s)
theorem sc_struck_all : FnScope ["self", "columns", "column", "rules", "found", "left", "right", "rule"] ["self", "columns"] (defScope (mth 10)) := ⟨rfl, rfl, rfl, by decide +kernel, rfl, by decide +kernel, by decide +kernel⟩
theorem ok_struck_all (h : Top T) : Md T 9 "struck_all" (spC (β := RulT T × List Nm) false (fun b => [.im b.1, .im b.2]) (fun b => StPre b.1 b.2) (fun b => .im (· = mkRul T (without b.1.cols b.2) (struckL b.1.rules b.2)))) := by
  refine md_ok (c_struck_all h) (d_struck_all h) sc_struck_all (fun _ _ _ _ _ _ us hl => match us, hl with | [_, _], _ => rfl) (fun b => rfl) fun b d hp => ?_
  obtain ⟨x, s⟩ := b
  obtain ⟨hs, hi⟩ := hp
  have hs : ∀ c ∈ s, c ∈ x.cols := hs
  refine run_if (b := false) ((et_not (et_val (ev_isi (P := (· = s)) (b := true) (blt h) ((ev_var (i := 1) rfl)) (blt h).tuple (fun K => kit_ty (by decide +kernel)) PyProof.Rows.boot_tuple))).to rfl) (fun z => by cases z) fun _ => run_nil ?_
  refine run_for (ei_tup ((ev_var (i := 1) rfl))) (bnd_name (i := 2)) (I := fun L i G' => ∃ a, G' = [.im x, .im s, a, .no, .no, .no, .no, .no]) (fun L e => ⟨_, rfl⟩) ?_ ?_ ?_
  · rintro L i G' ⟨a, rfl⟩; rfl
  · rintro L i c G' rfl hc ⟨a, rfl⟩
    have hm : c ∈ x.cols := hs c (List.mem_of_getElem? hc)
    refine run_if (b := false) (EvT.to (et_w (ew_or (x := false) (y := false) ((et_not (et_val (ev_isi (P := (· = c)) (b := true) (blt h) ((ev_var (i := 2) rfl)) (blt h).str (fun K => kit_ty (by decide +kernel)) PyProof.Rows.boot_str))).to rfl) fun _ => ew_or1 ((ev_niNm (xs := x.cols) (ev_var (i := 2) (a := c) rfl) (es_im (ev_own_columns (x := x) h ((ev_var (i := 0) rfl))))).t.to (by rw [decide_eq_true hm]; rfl)))) rfl) (fun z => by cases z) fun _ => run_nil (run_nil ⟨_, rfl⟩)
  · rintro L G' rfl ⟨a, rfl⟩
    refine run_setLcR (i := 3) (own := [("left", 5), ("right", 6)]) (P := (· = x.rules.map fun r => (without r.1 L, without r.2 L))) (lc_map (fun r : Rule => (without r.1 L, without r.2 L)) rfl (ei_tup (ev_own_rules (x := x) h ((ev_var (i := 0) rfl)))) (by kernel_rfl) (bnd_pair (i := 5) (j := 6)) (by decide) fun r hr => ?_) fun _ e => ?_
    · exact ev_pairE (ev_call (ok_without_columns h) (r.1, L) (ea_var (i := 5) (s := .im r.1) rfl (ea_var (i := 1) (s := .im L) rfl ea_nil)) rfl trivial) (ev_call (ok_without_columns h) (r.2, L) (ea_var (i := 6) (s := .im r.2) rfl (ea_var (i := 1) (s := .im L) rfl ea_nil)) rfl trivial)
    subst e
    refine run_setLcR (i := 4) (own := [("rule", 7)]) (P := (· = struckL x.rules L)) ((lc_filter (fun r : Rule => !decide (r.2 = [])) (fun r : Rule => r) rfl (ei_ro (i := 3) rfl) (by kernel_rfl) (bnd_name (i := 7)) (by decide) (fun r hr => ?_) fun r hr _ => (ev_var (i := 7) rfl)).imp fun ys e => e.trans (List.map_id _)) fun _ e => ?_
    · exact (ev_neD (ev_snd (P := (· = r)) (R := (· = r.2)) ((ev_var (i := 7) rfl)) (fun x e => by rw [e])) (ev_tup0 (α := Nm))).t
    subst e
    exact run_ret (ev_make1 h (cs := without x.cols L) (rs := struckL x.rules L) (ev_call (ok_without_columns h) (x.cols, L) (ea_im (ev_own_columns (x := x) h ((ev_var (i := 0) rfl))) (ea_var (i := 1) (s := .im L) rfl ea_nil)) rfl trivial) (es_ro (i := 4) rfl) hi)
end Mk
-- MkOf
namespace Mk
open Im (rep)
open PySem PySem.Spec PyProof.Rows L2
variable {T : Tx}
structure ClsV (a : Addr) where
instance {a : Addr} : Im (ClsV a) := ⟨fun _ v _ => v = .ref a, fun _ h => h⟩
theorem pe_makeL {X : Cx} {CX : CXT} {k i : Nat} {f Ca : Addr} {sp : Sp} {E : XK} {x : Str} {e : Expr} {es : List Expr} {t : TA} {p pos : Pos} (M : L2.Mk X.K Ca f) (F : FnR X.prog X.w X.K X.mg X.base CX k f sp) (hr : Room (k + 1) X.A) (hN : X.N[i]? = some x) (hv : Vis X.env.scope x) (hx : Passes CX X E) (ha : PA X (e :: es) t)
    (hdb : (x == ("__debug__" : Str)) = false) (hcd : (x == ("__classdict__" : Str)) = false) (he : starEach (e :: es) X.env = (false, eval e X.env) :: starEach es X.env) (hst : (backTo pos (starEach es X.env)).any (·.1) = true) :
    PE X (.Call (.Name x p) (e :: es) [] pos) (fun σ H Q => σ[i]? = some (some (.ref Ca)) ∧ StX.tMakeR Ca sp E t σ H Q) := by
  refine ⟨fun pins s σ H Q I h => ?_⟩
  obtain ⟨hs, ht⟩ := h
  refine wpAny_Call_Name_kw (thn ((pe_var (pos := p) hN hv hdb hcd).run pins s σ H (fun v H1 => v = .ref Ca ∧ H1 = H) I ⟨.ref Ca, hs, rfl, rfl⟩) fun u s1 ⟨v, H1, I1, r1, q1⟩ => ?_)
  obtain ⟨rfl, rfl⟩ := q1
  cases r1
  refine PySem.W.callWith_S2 (h₀ := X.base) I1.ok.mod.kin M.kp (thn (ha.run pos pins s1 σ _ _ I1 ht) fun us s2 ⟨vs, H2, I2, r, q⟩ => ⟨I2.kIn, ?_⟩) he hst
  exact StX.run_makeR M F hr hx I2 r q
section
variable {C : Cg} {G : List Slot}
theorem ev_makeV (h : Top T) {i : Nat} {x : Str} {a b : Expr} {p pos sp : Pos} {cs : List Nm} {rs : List Rule} {c0 : ClsV (gR T.K)} (hG : G[i]? = some (.im c0)) (ha : EvR C G a (.im (· = cs))) (hb : EvSq C G b (· = rs)) (hp : InPre cs rs) (hk : 8 ≤ C.k := by exact Nat.le_of_ble_eq_true rfl)
    (hN : C.N[i]? = some x := by rfl) (hv : Vis C.sc x := by first | exact Or.inl rfl | exact Or.inr (Or.inl rfl) | exact Or.inr (Or.inr rfl)) (hd : (x == ("__debug__" : Str)) = false := by decide) (hcd : (x == ("__classdict__" : Str)) = false := by decide)
    (he : ∀ env, starEach [a, .Starred b sp] env = (false, eval a env) :: starEach [.Starred b sp] env := by intro _; rfl) (hs : ∀ env, starEach [.Starred b sp] env = (true, eval b env) :: starEach [] env := by intro _; rfl) (hst : ∀ env, (backTo pos (starEach [.Starred b sp] env)).any (·.1) = true := by intro _; rfl) (hT : C.T = T := by rfl) :
    EvR C G (.Call (.Name x p) [a, .Starred b sp] [] pos) (.im (· = mkRul T cs rs)) := fun B σ H E Q q => by
  subst hT
  obtain ⟨v0, h1, h2⟩ := E.im hG
  have h2 : v0 = .ref (gR C.T.K) := h2
  subst h2
  refine tE_of (fun X ok => pe_makeL (i := i) (k := 7) (sp := fun vs H Q (E : XK) => ∃ ws rest, vs = ws ++ rest ∧ ws.length = (["self", "columns"] : List Str).length ∧ rest.length ≤ sizeLine ∧ ∀ p, H p = none → spI C.T (ws ++ [V.ref p]) (upd H p (.tup rest)) Q E) (E := E0) (t := tCons (tE C a) (StX.tStar C.T.K (tE C b) tNil)) (by rw [ok.K]; exact c_mkr h) (by rw [ok.prog, ok.w, ok.K, ok.mg, ok.base]; exact init_ok h) (ok.room.mono hk) (by rw [ok.N]; exact hN) (by rw [ok.sc]; exact hv) pass0 (pa_cons (pe_tE ok) (by rw [← ok.K]; exact StX.pa_star (pe_tE ok) pa_nil (hs _)) (he _)) hd hcd (he _) (hst _)) ⟨h1, ?_⟩
  refine ha B σ H E _ fun v H1 ⟨l, _, e1, r1⟩ => hb B σ H1 (E.go l) _ fun w H2 ys l2 py ⟨c, vs, ew, hc, nd, r2⟩ => ?_
  subst e1 py ew
  refine ⟨c, vs, rfl, (SeqIs.sq hc).symm, ?_⟩
  have r3 : Reps H2 (vs ++ []) ys := by rw [List.append_nil]; exact r2
  exact mk_go (T := C.T) ((E.go l).go l2).diceH (Im.keep l2.tle r1) r3 hp fun x H3 hr => q _ _ (retIs.pre (l.trans l2) hr)
end
theorem sc_of : FnScope ["cls", "columns", "rules"] ["cls", "columns", "rules"] (defScope (mth 1)) := ⟨rfl, rfl, rfl, by decide +kernel, rfl, by decide +kernel, by decide +kernel⟩
abbrev spOf (T : Tx) : Sp := spC (β := List Nm × List Rule) false (fun b => [.im (⟨⟩ : ClsV (gR T.K)), .im b.1, .im b.2]) (fun b => InPre b.1 b.2) (fun b => .im (· = mkRul T b.1 b.2))
theorem ok_of (h : Top T) : FnR T.P T.w T.K T.mg T.base CX0 9 (He5.wf T.K (gR T.K) "classmethod" "of") (fun vs H Q E => spOf T (vs ++ []) H Q E) := by
  obtain ⟨fd, F⟩ := d_of h
  refine FnOk.raw (fn_okF (k := 8) (post := fun b : List Nm × List Rule => .im (· = mkRul T b.1 b.2)) F sc_of (fun b => rfl) fun b d _ hp => ?_) (FunD.bindsN F (fun _ _ _ _ _ _ us hl => match us, hl with | [_, _, _], _ => rfl)) .nil
  obtain ⟨cs, rs⟩ := b
  have hp : InPre cs rs := hp
  refine run_expr (ev_call (ok_require_columns_rules h) cs (ea_var (i := 1) (s := .im cs) rfl ea_nil) rfl hp.cols) ?_
  refine run_if (b := false) ((et_not (et_val (ev_isi (P := (· = rs)) (b := true) (blt h) ((ev_var (i := 2) rfl)) (blt h).tuple (fun K => kit_ty (by decide +kernel)) PyProof.Rows.boot_tuple))).to rfl) (fun z => by cases z) fun _ => run_nil ?_
  exact run_ret (ev_makeV h (i := 0) (cs := cs) (rs := rs) (c0 := ⟨⟩) rfl ((ev_var (i := 1) rfl)) (es_im ((ev_var (i := 2) rfl))) hp)
section
variable {C : Cg} {G : List Slot}
theorem ev_of (h : Top T) {a b : Expr} {p apos pos : Pos} {cs : List Nm} {rs : List Rule} (ha : EvR C G a (.im (· = cs))) (hb : EvR C G b (.im (· = rs))) (hp : InPre cs rs) (hk : 9 ≤ C.k := by exact Nat.le_of_ble_eq_true rfl) (hg : C.sc.names.lookup ("Rules" : Str) = some .globalImplicit := by rfl)
    (hs : ∀ env, starEach [a, b] env = (false, eval a env) :: starEach [b] env := by intro _; rfl) (hs2 : ∀ env, starEach [b] env = (false, eval b env) :: starEach [] env := by intro _; rfl) (hpl : ∀ env, (backTo pos (starEach [b] env)).any (·.1) = false := by intro _; rfl)
    (ht : ∀ env, ∃ pl : Sem Bool, eval (.Call (.Attribute (.Name "Rules" p) "of" apos) [a, b] [] pos) env = (do
      let ov ← eval (.Name "Rules" p) env
      standAt apos.atName
      let (f, first) ← holding [ov] (getMethod ov "of" pl)
      callWith pos f first (backTo pos (starEach [a, b] env)) (backToKw pos (keywordEach [] env))) := by intro _; exact ⟨_, rfl⟩) (hT : C.T = T := by rfl) :
    EvR C G (.Call (.Attribute (.Name "Rules" p) "of" apos) [a, b] [] pos) (.im (· = mkRul T cs rs)) := fun B σ H E Q q => by
  subst hT
  refine tE_of (t := ClX.tCMeth (gR C.T.K) (fun vs H Q E => spOf C.T (vs ++ []) H Q E) E0 (tC (.ref (gR C.T.K))) (tA C [a, b])) (fun X ok => by
    obtain ⟨pl, ht⟩ := ht X.env
    exact ClX.pe_cmeth (pl := pl) (k := 9) (pe_glob (v := .ref (gR C.T.K)) (gl_of ok hg) (by rw [ok.mg]; exact g_Rules h) rfl (by decide)) (by rw [ok.K]; exact c_cread h) (by rw [ok.K]; exact c_of h) (by rw [ok.prog, ok.w, ok.K, ok.mg, ok.base]; exact ok_of h) (ok.room.mono hk) pass0 (pa_tA ok) (hs _) (hpl _) ht) ?_
  refine ⟨rfl, ?_⟩
  refine ea_im ha (ea_im hb ea_nil hs2) hs B σ H E _ fun vs H1 ss l e1 a1 => ?_
  subst e1
  rw [List.append_nil]
  refine ⟨(cs, rs), none, fun _ => rfl, hp, DiceAt.no, ⟨⟨_, rfl, rfl⟩, ArgsOk.pure rfl a1⟩, fun v H' ⟨l', hv⟩ => q v H' (retIs.pre l ⟨l'.of_none, hv⟩)⟩
end
end Mk
-- MkF14
namespace Mk
open Im (rep)
open PySem PySem.Spec PyProof.Rows L2
variable {T : Tx}
section
variable {C : Cg} {G : List Slot} {γ : Type} [Im γ] {kvs : List (Str × γ)} {i : Nat}
theorem ev_isDict {y : Str} {p p2 pos py : Pos} (bl : Blt C.T) (hG : G[i]? = some (.rk kvs)) (hN : C.N[i]? = some y := by rfl) (hv : Vis C.sc y := by first | exact Or.inl rfl | exact Or.inr (Or.inl rfl) | exact Or.inr (Or.inr rfl))
    (hd : (y == ("__debug__" : Str)) = false := by decide) (hcd : (y == ("__classdict__" : Str)) = false := by decide) (hg : C.sc.names.lookup ("isinstance" : Str) = some .globalImplicit := by rfl) (hgt : C.sc.names.lookup ("dict" : Str) = some .globalImplicit := by rfl) :
    EvR C G (.Call (.Name "isinstance" p) [.Name y py, .Name "dict" p2] [] pos) (.im (· = true)) := fun B σ H E Q q => by
  refine tE_of (t := tCB (rIsi C.T.K) (tCons (tVar i) (tCons (tC (.ty "dict")) tNil))) (fun X ok => by
    rw [← ok.K]
    exact pe_callB call_isi (gl_of ok hg) (by rw [ok.mg]; exact bl.isinstance) PyProof.Rows.boot_isinstance (pa_cons (pe_var (i := i) (by rw [ok.N]; exact hN) (by rw [ok.sc]; exact hv) hd hcd) (pa_cons (pe_bltn (gl_of ok hgt) (by rw [ok.mg]; exact bl.dict) PyProof.Rows.boot_dict rfl (by decide) (by decide)) pa_nil rfl) rfl) (by decide) (by decide) rfl rfl) ?_
  obtain ⟨a, ks, h1, h2, h3, h4⟩ := E.rk hG
  exact ⟨_, h1, _, .ty "dict", .type "dict", .type "dict", true, rfl, .ty "dict", .base (.dK h3), kit_ty (by decide +kernel), q _ H ⟨Le.refl _ _, true, rfl, rfl⟩⟩
theorem isWalk_keysK {H1 : Hp} {a : Addr} {od : Obj} {ks : List (Key × V)} (h : H1 a = some (.frz od (.dK ks))) (r : RepK H1 ks kvs) (hl : kvs.length ≤ sizeLine) : IsWalk (Itk a od ks) H1 (kvs.map (·.1)) [a] := by
  have ln : ks.length = (kvs.map (·.1)).length := by rw [r.len, List.length_map]
  refine ⟨by rw [List.length_map]; exact hl, fun Kp hK => ?_⟩
  rw [← ln]
  refine (walk_keys (d := a) (o := od) (kvs := ks)).mono (fun H k => by rw [(hK H k).2 a (by simp)]; exact h) fun i H v H' hi k y => ?_
  obtain ⟨e, k', w, h2, ev⟩ := y
  subst e ev
  have e1 : (ks.map (·.1))[i]? = some k' := by rw [List.getElem?_map, h2]; rfl
  rw [r.keys, List.getElem?_map] at e1
  obtain ⟨t, ht, et⟩ := Option.map_eq_some_iff.mp e1
  subst et
  exact ⟨fun _ _ z => z, t, ht, rfl⟩
theorem ei_keysK {tg : Expr} {x : Str} {pos : Pos} {a : Addr} {od : Obj} {ks : List (Key × V)} (hG : G[i]? = some (lkK a od ks kvs)) (hl : kvs.length ≤ 100000) (hN : C.N[i]? = some x := by rfl) (hv : Vis C.sc x := by first | exact Or.inl rfl | exact Or.inr (Or.inl rfl) | exact Or.inr (Or.inr rfl))
    (hd : (x == ("__debug__" : Str)) = false := by decide) (hcd : (x == ("__classdict__" : Str)) = false := by decide) : EvI C G tg (.Name x pos) (· = kvs.map (·.1)) := fun B σ H own le D ln ow R q => by
  obtain ⟨h1, h2, h3, h4, h5, h6⟩ := ow.slots i _ hG
  have h1 := join_some.mp h1
  refine tI_of (wi := iKeys (tVar i)) (fun X ok => pi_keys (pe_var (i := i) (by rw [ok.N]; exact hN) (by rw [ok.sc]; exact hv) hd hcd)) ⟨_, h1, a, od, rfl, .inl ⟨ks, h4, q _ H _ [a] (Le.refl _ _) rfl (isWalk_keysK h4 h6 (by rw [sizeLine_eq]; omega)) fun b hb => ?_⟩⟩
  rw [List.mem_singleton.mp hb]
  exact ⟨h2, h3, _, h4⟩
end
section
variable {κ β : Type} [DecidableEq κ]
theorem putS_new {kvs : List (κ × β)} {k : κ} {b : β} (h : k ∉ kvs.map (·.1)) : putS kvs k b = kvs ++ [(k, b)] := by
  unfold putS
  rw [if_neg]
  intro z
  obtain ⟨p, hp, e⟩ := List.any_eq_true.mp z
  exact h (List.mem_map.mpr ⟨p, hp, of_decide_eq_true e⟩)
theorem putAll_new : ∀ (L acc : List (κ × β)), ((acc ++ L).map (·.1)).Nodup → putAll acc L = acc ++ L
  | [], acc, _ => by rw [List.append_nil]; rfl
  | p :: L, acc, h => by
    have h2 : p.1 ∉ acc.map (·.1) := by
      rw [List.map_append, List.map_cons] at h
      intro z
      exact (List.nodup_append.mp h).2.2 _ z _ List.mem_cons_self rfl
    show putAll (putS acc p.1 p.2) L = _
    rw [putS_new h2, putAll_new L _ (by rw [List.append_assoc]; exact h), List.append_assoc]
    rfl
theorem valS_new {α : Type} {fk : α → κ} {fv : α → β} : ∀ {L : List α}, (L.map fk).Nodup → ∀ x ∈ L, valS (L.map fun x => (fk x, fv x)) (fk x) = some (fv x)
  | [], _, x, hx => by simp at hx
  | y :: L, h, x, hx => by
    rw [List.map_cons, List.nodup_cons] at h
    unfold valS
    rw [List.map_cons, List.find?_cons]
    by_cases e : fk y = fk x
    · have : x = y := by
        rcases List.mem_cons.mp hx with z | z
        · exact z
        · exact absurd (e ▸ List.mem_map_of_mem z) h.1
      rw [this, decide_eq_true rfl]; rfl
    · rw [decide_eq_false e]
      have hx2 : x ∈ L := by
        rcases List.mem_cons.mp hx with z | z
        · exact absurd (by rw [z]) e
        · exact z
      exact valS_new h.2 x hx2
end
def renR (f : Nm → Nm) (r : Rule) : Rule := (srt (r.1.map f), srt (r.2.map f))
structure RnPre {C : Addr} (x : Rul C) (kvs : List (Str × Nm)) : Prop where
  keys : ∀ p ∈ kvs, ∃ c ∈ x.cols, c.s = p.1
  len : kvs.length < 64
  cols : Cols x.cols
  nd : (x.cols.map (nameOf kvs)).Nodup
  sub : ∀ r ∈ x.rules, (∀ c ∈ r.1, c ∈ x.cols) ∧ ∀ c ∈ r.2, c ∈ x.cols
  inp : InPre (srt (x.cols.map (nameOf kvs))) (x.rules.map (renR (nameOf kvs)))
theorem nms_nodup {cs : List Nm} (h : cs.Nodup) : (cs.map Nm.s).Nodup := List.Pairwise.map _ (fun a b hab e => hab (Nm.ext e)) h
theorem sc_renamed_by : FnScope ["self", "names", "name", "found", "given", "rules", "column", "left", "right"] ["self", "names"] (defScope (mth 12)) := ⟨rfl, rfl, rfl, by decide +kernel, rfl, by decide +kernel, by decide +kernel⟩
theorem ok_renamed_by (h : Top T) : Md T 9 "renamed_by" (spC (β := RulT T × List (Str × Nm)) false (fun b => [.im b.1, .rk b.2]) (fun b => RnPre b.1 b.2) (fun b => .im (· = mkRul T (srt (b.1.cols.map (nameOf b.2))) (b.1.rules.map (renR (nameOf b.2)))))) := by
  refine md_ok (c_renamed_by h) (d_renamed_by h) sc_renamed_by (fun _ _ _ _ _ _ us hl => match us, hl with | [_, _], _ => rfl) (fun b => rfl) fun b d hp => ?_
  obtain ⟨x, kvs⟩ := b
  obtain ⟨h1, h2, h3, h4, h5, h6⟩ := hp
  have h1 : ∀ p ∈ kvs, ∃ c ∈ x.cols, c.s = p.1 := h1
  have h2 : kvs.length < 64 := h2
  have h3 : Cols x.cols := h3
  have h4 : (x.cols.map (nameOf kvs)).Nodup := h4
  have h5 : ∀ r ∈ x.rules, (∀ c ∈ r.1, c ∈ x.cols) ∧ ∀ c ∈ r.2, c ∈ x.cols := h5
  have hcn := asc_nodup h3.asc
  have hc8 := h3.len
  refine run_if (b := false) (EvT.to (et_w (ew_or (x := false) (y := false) ((et_not (et_val (ev_isDict (i := 1) (kvs := kvs) (blt h) rfl))).to rfl) fun _ => ew_or1 ((et_not (et_val ((EvR.lockK (i := 1) (kvs := kvs) rfl (fun j s e hj => ?_) fun a od ks =>
    ev_all (bs := (kvs.map (·.1)).map fun _ => true) (blt h) (ev_lc (own := [("name", 2)]) (lc_map (fun _ : Str => true) rfl (ei_keysK (i := 1) (kvs := kvs) rfl (by omega)) (by kernel_rfl) (bnd_name (i := 2)) (by decide) fun y hy => ?_))).to (y := true) (by simp)))).to rfl))) rfl) (fun z => by cases z) fun _ => run_nil ?_
  rotate_left
  · exact ev_isi (P := (· = y)) (blt h) ((ev_var (i := 2) rfl)) (blt h).str (fun K => kit_ty (by decide +kernel)) PyProof.Rows.boot_str
  rotate_left
  · match j, e with
    | 0, e => cases e; exact trivial
    | 1, _ => exact absurd rfl hj
    | 2, e => cases e; exact trivial
    | 3, e => cases e; exact trivial
    | 4, e => cases e; exact trivial
    | 5, e => cases e; exact trivial
    | 6, e => cases e; exact trivial
    | 7, e => cases e; exact trivial
    | 8, e => cases e; exact trivial
    | n + 9, e => cases e
  refine run_for (ei_new (ev_sortedDk (i := 1) (kvs := kvs) (blt h) rfl (.inr rfl) h2)) (bnd_name (i := 2)) (I := fun L i G' => ∃ a, G' = [.im x, .rk kvs, a, .no, .no, .no, .no, .no, .no]) (fun L e => ⟨_, rfl⟩) ?_ ?_ ?_
  · rintro L i G' ⟨a, rfl⟩; rfl
  · rintro L i y G' ⟨hp, _⟩ hy ⟨a, rfl⟩
    have hm : y ∈ kvs.map (·.1) := hp.mem_iff.mp (List.mem_of_getElem? hy)
    obtain ⟨p, hp2, ep⟩ := List.mem_map.mp hm
    obtain ⟨c, hc, ec⟩ := h1 p hp2
    have ecy : y = c.s := by rw [ec]; exact ep.symm
    refine run_if (b := false) ((ev_niNm (x := c) (xs := x.cols) ((ev_var (i := 2) (a := y) rfl).as fun H v r => by rw [ecy] at r; exact r) (es_im (ev_own_columns (x := x) h ((ev_var (i := 0) rfl))))).t.to (by rw [decide_eq_true hc]; rfl)) (fun z => by cases z) fun _ => run_nil (run_nil ⟨_, rfl⟩)
  · rintro L G' _ ⟨a, rfl⟩
    have hkv : putAll [] (x.cols.map fun c : Nm => (c.s, nameOf kvs c)) = x.cols.map fun c => (c.s, nameOf kvs c) := by
      have := putAll_new (x.cols.map fun c : Nm => (c.s, nameOf kvs c)) [] (by rw [List.nil_append, List.map_map]; exact nms_nodup hcn)
      rw [this, List.nil_append]
    have hval : ∀ c ∈ x.cols, valS (x.cols.map fun c : Nm => (c.s, nameOf kvs c)) c.s = some (nameOf kvs c) := valS_new (fk := Nm.s) (fv := nameOf kvs) (nms_nodup hcn)
    have hno : ∀ c ∈ x.cols, nameOf (x.cols.map fun c : Nm => (c.s, nameOf kvs c)) c = nameOf kvs c := fun c hc => by
      show (valS _ c.s).getD c = _
      rw [hval c hc]; rfl
    refine run_let (i := 3) put_dk (ev_dcOk (own := [("column", 6)]) (kvs := putAll [] (x.cols.map fun c : Nm => (c.s, nameOf kvs c))) (mk_dc (fun c : Nm => c.s) (nameOf kvs) rfl (ei_tup (ev_own_columns (x := x) h ((ev_var (i := 0) rfl)))) (by kernel_rfl) (bnd_name (i := 6)) (by decide) (fun c hc => ev_nmS ((ev_var (i := 6) rfl))) fun c hc => ?_)) fun G' hG => ?_
    · exact ev_getDk (i := 1) (s := .rk kvs) (kvs := kvs) (ev_nmS (ev_var (i := 6) (a := c) rfl)) (ev_var (i := 6) (a := c) rfl) rfl (.inr rfl)
    obtain ⟨_, rfl, rfl⟩ := hG
    rw [hkv]
    refine run_setLcR (i := 4) (own := [("column", 6)]) (P := (· = x.cols.map (nameOf kvs))) (lc_map (nameOf kvs) rfl (ei_tup (ev_own_columns (x := x) h ((ev_var (i := 0) rfl)))) (by kernel_rfl) (bnd_name (i := 6)) (by decide) fun c hc => ?_) fun _ e => ?_
    · exact ev_atDk (i := 3) (s := .dk (x.cols.map fun c : Nm => (c.s, nameOf kvs c))) (ev_nmS (ev_var (i := 6) (a := c) rfl)) rfl (.inl rfl) (hval c hc)
    subst e
    refine run_if (b := false) (EvT.to (et_w (ew_or (x := false) (y := false) ((et_not (et_val ((ev_all (bs := (x.cols.map (nameOf kvs)).map fun _ => true) (blt h) (ev_lc (own := [("name", 2)]) (lc_map (fun _ : Nm => true) rfl (ei_ro (i := 4) rfl) (by kernel_rfl) (bnd_name (i := 2)) (by decide) fun c hc => ev_call (ok_is_name h) c (ea_var (i := 2) (s := .im c) rfl ea_nil) rfl trivial))).to (y := true) (by simp)))).to rfl) fun _ =>
      ew_or1 ((ev_ltE (ev_lenSet (xs := x.cols.map (nameOf kvs)) (blt h) (es_ro (i := 4) rfl) (by rw [List.length_map]; omega) h4) (ev_len (P := (· = x.cols.map (nameOf kvs))) (n := ((x.cols.map (nameOf kvs)).length : Int)) (blt h) (es_ro (i := 4) rfl) (fun xs e => by rw [e]))).t.to (decide_eq_false (by omega))))) rfl) (fun z => by cases z) fun _ => run_nil ?_
    have hwn : ∀ s : List Nm, (∀ c ∈ s, c ∈ x.cols) → s.map (nameOf (x.cols.map fun c : Nm => (c.s, nameOf kvs c))) = s.map (nameOf kvs) := fun s hs => List.map_congr_left fun c hc => hno c (hs c hc)
    have hpre : ∀ s : List Nm, (∀ c ∈ s, c ∈ x.cols) → NmPre (s, x.cols.map fun c : Nm => (c.s, nameOf kvs c)) := fun s hs c hc => by
      show (valS _ c.s).isSome = true
      rw [hval c (hs c hc)]; rfl
    refine run_setLcR (i := 5) (own := [("left", 7), ("right", 8)]) (P := (· = x.rules.map (renR (nameOf kvs)))) (lc_map (renR (nameOf kvs)) rfl (ei_tup (ev_own_rules (x := x) h ((ev_var (i := 0) rfl)))) (by kernel_rfl) (bnd_pair (i := 7) (j := 8)) (by decide) fun r hr => ?_) fun _ e => ?_
    · obtain ⟨g1, g2⟩ := h5 r hr
      refine (ev_pairE (x := srt (r.1.map (nameOf kvs))) (y := srt (r.2.map (nameOf kvs))) ((ev_call (ok_with_names h) (r.1, x.cols.map fun c : Nm => (c.s, nameOf kvs c)) (ea_var (i := 7) (s := .im r.1) rfl (ea_var (i := 3) (s := .dk (x.cols.map fun c : Nm => (c.s, nameOf kvs c))) rfl ea_nil)) rfl (hpre _ g1)).to ?_)
        ((ev_call (ok_with_names h) (r.2, x.cols.map fun c : Nm => (c.s, nameOf kvs c)) (ea_var (i := 8) (s := .im r.2) rfl (ea_var (i := 3) (s := .dk (x.cols.map fun c : Nm => (c.s, nameOf kvs c))) rfl ea_nil)) rfl (hpre _ g2)).to ?_))
      · exact congrArg srt (hwn _ g1)
      · exact congrArg srt (hwn _ g2)
    subst e
    refine run_ret (ev_make1 h (cs := srt (x.cols.map (nameOf kvs))) (rs := x.rules.map (renR (nameOf kvs))) ((ev_call (ok_with_names h) (x.cols, x.cols.map fun c : Nm => (c.s, nameOf kvs c)) (ea_im (ev_own_columns (x := x) h ((ev_var (i := 0) rfl))) (ea_var (i := 3) (s := .dk (x.cols.map fun c : Nm => (c.s, nameOf kvs c))) rfl ea_nil)) rfl (hpre _ fun c hc => hc)).to ?_) (es_ro (i := 5) rfl) h6)
    exact congrArg srt (hwn _ fun c hc => hc)
end Mk
-- MkDi
namespace Mk
open Im (rep)
open PySem PySem.Spec PyProof.Rows L2
variable {C : Cg} {G : List Slot}
section
variable {d : Option Addr} {B H : Hp} {σ : L2.St} {p : Addr} {o : HO}
theorem Env.dice_put (E : Env d B G σ H) (hd : d = some p) (ho : Dice o) : Env d B G σ (upd H p o) := by
  have DH := E.diceH
  obtain ⟨le, D, ln, own, ow⟩ := E
  obtain ⟨oB, hB, qB⟩ := D p hd
  obtain ⟨oH, hH, qH⟩ := DH p hd
  have tl : TLe H (upd H p o) := TLe.upd fun o' e => by
    rw [hH] at e
    cases e
    obtain ⟨_, _, _, rfl⟩ := qH
    exact id
  have nb : ∀ {a : Addr}, B a = none → a ≠ p := fun z q => by rw [q, hB] at z; cases z
  have nd : ∀ {a : Addr}, d ≠ some a → a ≠ p := fun z q => z (by rw [hd, q])
  refine ⟨fun a u e => ?_, D, ln, own, fun a e => ?_, fun a i e => ?_, fun i s e => ?_⟩
  · by_cases hap : a = p
    · subst hap
      rw [hB] at e
      cases e
      exact .inr ⟨hd, qB, o, upd_same, ho⟩
    · rw [upd_ne hap]; exact le a u e
  · by_cases hap : a = p
    · subst hap; rw [upd_same] at e; cases e
    · rw [upd_ne hap] at e; exact ow.free a e
  · have hc := ow.cell a i e
    rw [upd_ne (nb hc.1)]
    exact hc
  · have hs := ow.slots i s e
    cases s with
    | no => exact hs
    | im x => obtain ⟨v, e, r⟩ := hs; exact ⟨v, e, Im.keep tl r⟩
    | ro xs => obtain ⟨a, vs, e, n, w, h1, r⟩ := hs; exact ⟨a, vs, e, n, w, by rw [upd_ne (nd w)]; exact h1, r.keep tl⟩
    | ls xs => obtain ⟨a, vs, e, n, w, h1, r⟩ := hs; exact ⟨a, vs, e, n, w, by rw [upd_ne (nb n)]; exact h1, r.keep tl⟩
    | dk kvs => obtain ⟨a, vs, e, n, w, h1, r⟩ := hs; exact ⟨a, vs, e, n, w, by rw [upd_ne (nb n)]; exact h1, r.keep tl⟩
    | rk kvs => obtain ⟨a, vs, e, n, w, h1, r⟩ := hs; exact ⟨a, vs, e, n, w, by rw [upd_ne (nd w)]; exact h1, r.keep tl⟩
    | dt kvs => obtain ⟨a, vs, e, n, w, h1, r⟩ := hs; exact ⟨a, vs, e, n, w, by rw [upd_ne (nb n)]; exact h1, r.keep tl⟩
    | di => exact hs
    | ob a C dx fs P => obtain ⟨e, n, w, h1, hl, hm, r⟩ := hs; exact ⟨e, n, w, by rw [upd_ne (nb n)]; exact h1, hl, hm, hm _ _ tl r⟩
    | fz a u P => obtain ⟨e, n, w, h1, hm, r⟩ := hs; exact ⟨e, n, w, by rw [upd_ne (nd w)]; exact h1, hm, hm _ _ tl r⟩
theorem dice_le {H' : Hp} (D : DiceAt d H) (hd : d = some p) (ho : Dice o) (k : Le d H H') : Le d H (upd H' p o) := fun a u e => by
  by_cases hap : a = p
  · subst hap
    obtain ⟨o', h1, h2⟩ := D a hd
    rw [h1] at e
    cases e
    exact .inr ⟨hd, h2, o, upd_same, ho⟩
  · rw [upd_ne hap]; exact k a u e
end
theorem ev_di {i : Nat} {x : Str} {k : Int} {j p q pos : _} (hk : k = 0 ∨ k = 1 ∨ k = 2) (hG : G[i]? = some .di) (hN : C.N[i]? = some x := by rfl) (hv : Vis C.sc x := by first | exact Or.inl rfl | exact Or.inr (Or.inl rfl) | exact Or.inr (Or.inr rfl)) (hd : (x == ("__debug__" : Str)) = false := by decide) (hcd : (x == ("__classdict__" : Str)) = false := by decide) :
    EvR C G (.Subscript (.Name x p) (.Constant (.int k) j q) pos) (.im fun _ : Int => True) := fun B σ H E Q qq => by
  refine tE_of (t := tOp (rIx C.T.K) (tVar i) (tE C (.Constant (.int k) j q))) (fun X ok => by rw [← ok.K]; exact pe_ix ix_seq (pe_var (i := i) (by rw [ok.N]; exact hN) (by rw [ok.sc]; exact hv) hd hcd) (pe_tE ok) (fun _ _ => rfl)) ?_
  obtain ⟨a, y0, y1, y2, h1, h2, h3⟩ := E.di hG
  refine ⟨_, h1, tE_of (fun X ok => pe_int) ?_⟩
  rcases hk with rfl | rfl | rfl
  · exact .inl ⟨a, _, 0, .int y0, rfl, rfl, .inl (.inl h3), rfl, qq _ H ⟨Le.refl _ _, y0, trivial, rfl⟩⟩
  · exact .inl ⟨a, _, 1, .int y1, rfl, rfl, .inl (.inl h3), rfl, qq _ H ⟨Le.refl _ _, y1, trivial, rfl⟩⟩
  · exact .inl ⟨a, _, 2, .int y2, rfl, rfl, .inl (.inl h3), rfl, qq _ H ⟨Le.refl _ _, y2, trivial, rfl⟩⟩
theorem run_dput {i : Nat} {x : Str} {k : Int} {j p q pos pos' : _} {e : Expr} {rest : List Stmt} {D : GEnds} {P : Int → Prop} (hk : k = 0 ∨ k = 1 ∨ k = 2) (he : EvR C G e (.im P)) (hG : G[i]? = some .di) (kk : Run C G rest D) (hN : C.N[i]? = some x := by rfl) (hv : Vis C.sc x := by first | exact Or.inl rfl | exact Or.inr (Or.inl rfl) | exact Or.inr (Or.inr rfl)) (hd : (x == ("__debug__" : Str)) = false := by decide) (hcd : (x == ("__classdict__" : Str)) = false := by decide)
    (hs : ∀ env, swapsWithSole [.Subscript (.Name x p) (.Constant (.int k) j q) pos'] e pos.line env = pure false := by intro _; rfl) (hw : ∀ env, swappedStores [.Subscript (.Name x p) (.Constant (.int k) j q) pos'] e env = pure none := by intro _; rfl) :
    Run C G (.Assign [.Subscript (.Name x p) (.Constant (.int k) j q) pos'] e pos :: rest) D := fun B σ H E => by
  refine tSs_of (t := tSeq (tAsg (tE C e) (gSub (tVar i) (tE C (.Constant (.int k) j q)) rSetL)) (tSs C rest)) (fun X ok => pss_cons (ps_asg (pe_tE ok) (pg_sub (pe_var (i := i) (by rw [ok.N]; exact hN) (by rw [ok.sc]; exact hv) hd hcd) (pe_tE ok) set_list) (hs _) (hw _)) (pss_tS ok)) ?_
  refine he B σ H E _ fun v H1 ⟨l, z, pz, r⟩ => ?_
  have ev : v = .int z := r
  subst ev
  obtain ⟨a, y0, y1, y2, h1, h2, h3⟩ := (E.go l).di hG
  refine ⟨_, h1, tE_of (fun X ok => pe_int) ?_⟩
  rcases hk with rfl | rfl | rfl
  · exact ⟨a, _, 0, 0, rfl, rfl, h3, rfl, kk B σ _ ((E.go l).dice_put h2 ⟨z, y1, y2, rfl⟩)⟩
  · exact ⟨a, _, 1, 1, rfl, rfl, h3, rfl, kk B σ _ ((E.go l).dice_put h2 ⟨y0, z, y2, rfl⟩)⟩
  · exact ⟨a, _, 2, 2, rfl, rfl, h3, rfl, kk B σ _ ((E.go l).dice_put h2 ⟨y0, y1, z, rfl⟩)⟩
section
variable {e a b : Expr} {p pos : Pos} {P R : Int → Prop}
theorem ev_intI (bl : Blt C.T) (h : EvR C G e (.im P)) (hg : C.sc.names.lookup ("int" : Str) = some .globalImplicit := by rfl) (hs : ∀ env, starEach [e] env = (false, eval e env) :: starEach [] env := by intro _; rfl) :
    EvR C G (.Call (.Name "int" p) [e] [] pos) (.im P) := fun B σ H E Q q => by
  refine ev_ty1 (fun X ok => call_int1) bl.int PyProof.Rows.boot_int ?_ hg (by decide) (by decide) hs
  exact h B σ H E _ fun v H1 ⟨l, z, pz, r⟩ => .inl ⟨z, by rw [show v = .int z from r], q _ H1 ⟨l, z, pz, rfl⟩⟩
theorem ev_intB {P : Bool → Prop} (bl : Blt C.T) (h : EvR C G e (.im P)) (hg : C.sc.names.lookup ("int" : Str) = some .globalImplicit := by rfl) (hs : ∀ env, starEach [e] env = (false, eval e env) :: starEach [] env := by intro _; rfl) :
    EvR C G (.Call (.Name "int" p) [e] [] pos) (.im fun _ : Int => True) := fun B σ H E Q q => by
  refine ev_ty1 (fun X ok => call_int1) bl.int PyProof.Rows.boot_int ?_ hg (by decide) (by decide) hs
  exact h B σ H E _ fun v H1 ⟨l, z, pz, r⟩ => .inr ⟨z, by rw [show v = .bl z from r], q _ H1 ⟨l, _, trivial, rfl⟩⟩
theorem ev_abs (bl : Blt C.T) (h : EvR C G e (.im P)) (hg : C.sc.names.lookup ("abs" : Str) = some .globalImplicit := by rfl) (hs : ∀ env, starEach [e] env = (false, eval e env) :: starEach [] env := by intro _; rfl) :
    EvR C G (.Call (.Name "abs" p) [e] [] pos) (.im fun _ : Int => True) := fun B σ H E Q q => by
  refine ev_blt1 (fun X ok => call_abs) bl.abs PyProof.Rows.boot_abs ?_ hg (by decide) (by decide) hs
  exact h B σ H E _ fun v H1 ⟨l, z, pz, r⟩ => ⟨z, by rw [show v = .int z from r], q _ H1 ⟨l, _, trivial, rfl⟩⟩
theorem ev_max2 (bl : Blt C.T) (ha : EvR C G a (.im P)) (hb : EvR C G b (.im R)) (hg : C.sc.names.lookup ("max" : Str) = some .globalImplicit := by rfl) (hs : ∀ env, starEach [a, b] env = (false, eval a env) :: starEach [b] env := by intro _; rfl) (hs2 : ∀ env, starEach [b] env = (false, eval b env) :: starEach [] env := by intro _; rfl) (hpl : ∀ env, (backTo pos (starEach [b] env)).any (·.1) = false := by intro _; rfl) :
    EvR C G (.Call (.Name "max" p) [a, b] [] pos) (.im fun z : Int => ∃ i j, P i ∧ R j ∧ z = max i j) := fun B σ H E Q q => by
  refine tE_of (t := tCB _ (tCons (tE C a) (tCons (tE C b) tNil))) (fun X ok => pe_callB (call_max2 ok.calm) (gl_of ok hg) (by rw [ok.mg]; exact bl.max) PyProof.Rows.boot_max (pa_cons (pe_tE ok) (pa_cons (pe_tE ok) pa_nil (hs2 _)) (hs _)) (by decide) (by decide) (hs _) (hpl _)) ?_
  refine ha B σ H E _ fun v H1 ⟨l, i, pi, ri⟩ => hb B σ H1 (E.go l) _ fun w H2 ⟨l2, j, pj, rj⟩ => ⟨i, j, by rw [show v = .int i from ri, show w = .int j from rj], q _ H2 ⟨l.trans l2, _, ⟨i, j, pi, pj, rfl⟩, ?_⟩⟩
  show V.int _ = V.int _
  congr 1
  split <;> omega
theorem ev_min2 (bl : Blt C.T) (ha : EvR C G a (.im P)) (hb : EvR C G b (.im R)) (hg : C.sc.names.lookup ("min" : Str) = some .globalImplicit := by rfl) (hs : ∀ env, starEach [a, b] env = (false, eval a env) :: starEach [b] env := by intro _; rfl) (hs2 : ∀ env, starEach [b] env = (false, eval b env) :: starEach [] env := by intro _; rfl) (hpl : ∀ env, (backTo pos (starEach [b] env)).any (·.1) = false := by intro _; rfl) :
    EvR C G (.Call (.Name "min" p) [a, b] [] pos) (.im fun z : Int => ∃ i j, P i ∧ R j ∧ z = min i j) := fun B σ H E Q q => by
  refine tE_of (t := tCB _ (tCons (tE C a) (tCons (tE C b) tNil))) (fun X ok => pe_callB (call_min2 ok.calm) (gl_of ok hg) (by rw [ok.mg]; exact bl.min) PyProof.Rows.boot_min (pa_cons (pe_tE ok) (pa_cons (pe_tE ok) pa_nil (hs2 _)) (hs _)) (by decide) (by decide) (hs _) (hpl _)) ?_
  refine ha B σ H E _ fun v H1 ⟨l, i, pi, ri⟩ => hb B σ H1 (E.go l) _ fun w H2 ⟨l2, j, pj, rj⟩ => ⟨i, j, by rw [show v = .int i from ri, show w = .int j from rj], q _ H2 ⟨l.trans l2, _, ⟨i, j, pi, pj, rfl⟩, ?_⟩⟩
  show V.int _ = V.int _
  congr 1
  split <;> omega
def CPowW (i j : Int) : Prop := 0 ≤ j ∧ (Builtin.Int.intBits i : Int) * j ≤ 2 ^ 27
theorem op_powW {X : Cx} : OpR X (binaryOp .Pow) (rI CPowW fun i j => .int (i ^ j.toNat)) := opI fun _ _ _ _ _ _ _ hc q => pow_int hc.1 hc.2 q
theorem ev_powE {i j : Int} (ha : EvR C G a (.im (· = i))) (hb : EvR C G b (.im (· = j))) (hc : CPowW i j) : EvR C G (.BinOp a .Pow b pos) (.im (· = i ^ j.toNat)) :=
  (ev_intop (fun X => op_powW) ha hb (fun x y e1 e2 => by rw [e1, e2]; exact hc)).imp fun z ⟨_, _, e1, e2, e3⟩ => by rw [e3, e1, e2]
theorem ev_modR {j : Int} (ha : EvR C G a (.im P)) (hb : EvR C G b (.im (· = j))) (hj : 0 < j) : EvR C G (.BinOp a .Mod b pos) (.im fun z : Int => 0 ≤ z ∧ z < j) :=
  (ev_mod ha hb (fun _ e => by rw [e]; exact hj)).imp fun z ⟨i, k, _, e2, e3⟩ => by
    subst e2
    rw [e3]
    exact ⟨Int.emod_nonneg _ (by omega), Int.emod_lt_of_pos _ hj⟩
theorem ev_any1 (h : EvR C G e (.im P)) : EvR C G e (.im fun _ : Int => True) := h.imp fun _ _ => trivial
theorem ev_addA (ha : EvR C G a (.im P)) (hb : EvR C G b (.im R)) : EvR C G (.BinOp a .Add b pos) (.im fun _ : Int => True) := (ev_add ha hb).imp fun _ _ => trivial
theorem ev_subA (ha : EvR C G a (.im P)) (hb : EvR C G b (.im R)) : EvR C G (.BinOp a .Sub b pos) (.im fun _ : Int => True) := (ev_sub ha hb).imp fun _ _ => trivial
theorem ev_mulL (ha : EvR C G a (.im P)) (hb : EvR C G b (.im R)) (h : ∀ i, P i → -(2 ^ 64) < i ∧ i < 2 ^ 64) : EvR C G (.BinOp a .Mult b pos) (.im fun _ : Int => True) := (ev_mul ha hb fun i j pi _ => .inl (h i pi)).imp fun _ _ => trivial
theorem ev_mulR (ha : EvR C G a (.im P)) (hb : EvR C G b (.im R)) (h : ∀ i, R i → -(2 ^ 64) < i ∧ i < 2 ^ 64) : EvR C G (.BinOp a .Mult b pos) (.im fun _ : Int => True) := (ev_mul ha hb fun i j _ pj => .inr (h j pj)).imp fun _ _ => trivial
end
theorem Run.nx {sts : List Stmt} {D : GEnds} {K : List Slot → Prop} (h : Run C G sts D) (k : ∀ G', D.nx G' → K G') : Run C G sts { D with nx := K } := fun B σ H E => by
  have q := h B σ H E
  intro X ok pins s I
  refine thn (q X ok pins s I) fun f s1 q => ?_
  cases f with
  | next =>
    obtain ⟨σ', H', I', G', hG, E'⟩ := q
    exact ⟨σ', H', I', G', k G' hG, E'⟩
  | ret v => exact q
  | brk => exact q
  | cont => exact q
theorem run_ifK {c : Expr} {pos : Pos} {rest body orelse : List Stmt} {D : GEnds} {P : Bool → Prop} (K : List Slot → Prop) (h : EvT C G c P) (h1 : P true → Run C G body { D with nx := K }) (h2 : P false → Run C G orelse { D with nx := K }) (k : ∀ G', K G' → Run C G' rest D) : Run C G (.If c body orelse pos :: rest) D :=
  run_ifP h (fun p => (h1 p).nx k) (fun p => (h2 p).nx k)
end Mk
-- MkScr
namespace Mk
open Im (rep)
open PySem PySem.Spec PyProof.Rows L2
def KL (K : PySem.W.Frag) (a : Addr) (xs : List Int) : Prop := ∃ (o : Obj) (its : Array Value) (n : Nat), K.lookup a = some o ∧ o.cls = .type "list" ∧ o.dict = none ∧ o.data = .seq its n ∧ its.size ≤ sizeLine ∧ Vals (xs.map V.int) its.toList
structure KS (K : PySem.W.Frag) (xs : List Int) where
instance {K : PySem.W.Frag} {xs : List Int} : Im (KS K xs) := ⟨fun _ v _ => ∃ a, v = .ref a ∧ KL K a xs, fun _ h => h⟩
def Scr (T : Tx) (xs : List Int) (s : Slot) : Prop := (∃ a o, s = .fz a (.frz o (.lst (xs.map V.int))) (fun _ => True)) ∨ s = .im (⟨⟩ : KS T.K xs)
section
variable {T : Tx} {xs : List Int} {s : Slot}
theorem Scr.drop (h : Scr T xs s) {α : Type} {f : Slot → α} {g : Slot → α} (h1 : ∀ a u P, f (.fz a u P) = g (.fz a u P)) (h2 : f (.im (⟨⟩ : KS T.K xs)) = g (.im (⟨⟩ : KS T.K xs))) : f s = g s := by
  rcases h with ⟨a, o, rfl⟩ | rfl
  · exact h1 _ _ _
  · exact h2
theorem Scr.noDi (h : Scr T xs s) {ss : List Slot} (hs : Mk.noDi ss = true) : Mk.noDi (s :: ss) = true := by
  rcases h with ⟨a, o, rfl⟩ | rfl
  · exact hs
  · exact hs
theorem scr_arg {d : Option Addr} {H : Hp} {a : Addr} (hd : d = none) (h : SqL T.K H a (xs.map V.int)) (hO : Only H) : ∃ s, Scr T xs s ∧ argIs d H (.ref a) s := by
  rcases h with (h | ⟨o, h⟩) | ⟨o, its, n, h1, h2, h3, h4, h5, h6⟩
  · rcases hO a with z | ⟨o, ys, z⟩
    · rw [h] at z; cases z
    · rw [h] at z; cases z
  · exact ⟨_, .inl ⟨a, o, rfl⟩, rfl, rfl, by rw [hd]; exact nofun, h, fun _ _ _ _ => trivial, trivial⟩
  · exact ⟨_, .inr rfl, .ref a, rfl, a, rfl, o, its, n, h1, h2, h3, h4, h5, h6⟩
end
section
variable {C : Cg} {G : List Slot} {xs : List Int} {s : Slot} {i : Nat} {x : Str} {p pos : Pos}
theorem Env.scr {B H : Hp} {σ : L2.St} (E : Env C.d B G σ H) (hG : G[i]? = some s) (hs : Scr C.T xs s) : ∃ a, σ[i]? = some (some (.ref a)) ∧ argIs C.d H (.ref a) s ∧ ∀ H', Le C.d H H' → SqL C.T.K H' a (xs.map V.int) := by
  rcases hs with ⟨a, o, rfl⟩ | rfl
  · obtain ⟨_, _, _, own, ow⟩ := E
    obtain ⟨h1, h2, h3, h4, h5, h6⟩ := ow.slots i _ hG
    exact ⟨a, join_some.mp h1, ⟨rfl, rfl, h3, h4, h5, h6⟩, fun H' l => .inl (.inr ⟨o, l.keep h4 h3⟩)⟩
  · obtain ⟨v, h1, a, rfl, h2⟩ := E.im hG
    exact ⟨a, h1, ⟨_, rfl, a, rfl, h2⟩, fun H' _ => .inr h2⟩
theorem ev_lenScr {lp : Pos} (b : Blt C.T) (hG : G[i]? = some s) (hs : Scr C.T xs s) (hN : C.N[i]? = some x := by rfl) (hv : Vis C.sc x := by first | exact Or.inl rfl | exact Or.inr (Or.inl rfl) | exact Or.inr (Or.inr rfl)) (hd : (x == ("__debug__" : Str)) = false := by decide) (hcd : (x == ("__classdict__" : Str)) = false := by decide)
    (hg : C.sc.names.lookup ("len" : Str) = some .globalImplicit := by rfl) : EvR C G (.Call (.Name "len" lp) [.Name x p] [] pos) (.im (· = (xs.length : Int))) := fun B σ H E Q q => by
  refine ev_blt1 (f := fun xs H Q => ∃ x n, xs = [x] ∧ LenV C.T.K x H n ∧ Q (V.int n) H) (fun X ok => by rw [← ok.K]; exact call_len) b.len boot_len ?_ hg (by decide) (by decide) (fun _ => rfl)
  obtain ⟨a, h1, _, h2⟩ := E.scr hG hs
  refine tE_of (t := tVar i) (fun X ok => pe_var (i := i) (by rw [ok.N]; exact hN) (by rw [ok.sc]; exact hv) hd hcd) ⟨_, h1, _, (xs.map V.int).length, rfl, .inl ⟨_, h2 H (Le.refl _ _), rfl⟩, q _ H ⟨Le.refl _ _, _, rfl, ?_⟩⟩
  rw [List.length_map]
  rfl
theorem ev_ixScr {e : Expr} {k : Nat} (hG : G[i]? = some s) (hs : Scr C.T xs s) (he : EvR C G e (.im (· = (k : Int)))) (hk : k < xs.length) (hN : C.N[i]? = some x := by rfl) (hv : Vis C.sc x := by first | exact Or.inl rfl | exact Or.inr (Or.inl rfl) | exact Or.inr (Or.inr rfl)) (hd : (x == ("__debug__" : Str)) = false := by decide) (hcd : (x == ("__classdict__" : Str)) = false := by decide)
    (hix : PlainIx e := by exact fun _ _ => rfl) : EvR C G (.Subscript (.Name x p) e pos) (.im fun _ : Int => True) := fun B σ H E Q q => by
  refine tE_of (t := tOp (rIx C.T.K) (tVar i) (tE C e)) (fun X ok => by rw [← ok.K]; exact pe_ix ix_seq (pe_var (i := i) (by rw [ok.N]; exact hN) (by rw [ok.sc]; exact hv) hd hcd) (pe_tE ok) hix) ?_
  obtain ⟨a, h1, _, h2⟩ := E.scr hG hs
  refine ⟨_, h1, he B σ H E _ fun v H1 ⟨l, z, ez, r⟩ => ?_⟩
  subst ez
  have hx : (xs.map V.int)[k]? = some (.int xs[k]) := by rw [List.getElem?_map, List.getElem?_eq_getElem hk]; rfl
  refine .inl ⟨a, _, (k : Int), _, rfl, r, h2 H1 l, ?_, q _ H1 ⟨l, xs[k], trivial, rfl⟩⟩
  have := atI_nat (α := Int) (xs := xs) (j := k) (List.getElem?_eq_getElem hk)
  unfold L2.atI at this ⊢
  rw [List.length_map]
  cases q2 : ixN xs.length (k : Int) with
  | none => rw [q2] at this; cases this
  | some m =>
    rw [q2] at this
    show (xs.map V.int)[m]? = _
    have this : xs[m]? = some xs[k] := this
    rw [List.getElem?_map, this]
    rfl
theorem ea_scr {es : List Expr} {P : List Slot → Prop} (hG : G[i]? = some s) (hs : Scr C.T xs s) (hes : EvA C G es P) (hN : C.N[i]? = some x := by rfl) (hv : Vis C.sc x := by first | exact Or.inl rfl | exact Or.inr (Or.inl rfl) | exact Or.inr (Or.inr rfl)) (hd : (x == ("__debug__" : Str)) = false := by decide) (hcd : (x == ("__classdict__" : Str)) = false := by decide) :
    EvA C G (.Name x p :: es) (fun s' => ∃ ss, P ss ∧ s' = s :: ss) := fun B σ H E Q q => by
  refine tA_of (t := tCons (tVar i) (tA C es)) (fun X ok => pa_cons (pe_var (i := i) (by rw [ok.N]; exact hN) (by rw [ok.sc]; exact hv) hd hcd) (pa_tA ok) rfl) ?_
  obtain ⟨a, h1, h2, _⟩ := E.scr hG hs
  refine ⟨_, h1, ?_⟩
  exact hes B σ H E _ fun vs H2 ss l p a => q _ H2 _ l ⟨ss, p, rfl⟩ ⟨h2.le E.diceH l, a⟩
end
end Mk
-- MkPl
namespace Mk
open Im (rep)
open PySem PySem.Spec PyProof.Rows L2
variable {T : Tx}
def dropDi : Slot → Slot
  | .di => .no
  | s => s
section
variable {C : Cg} {G : List Slot}
theorem env_dice {B H : Hp} {σ : L2.St} {i : Nat} {xs : List Int} (E : Env none B G σ H) (hG : G[i]? = some (.ls xs)) (h3 : xs.length = 3) : ∃ p B', B p = none ∧ B' p ≠ none ∧ (∀ a, a ≠ p → B' a = B a) ∧ Env (some p) B' (G.set i .di) σ H := by
  obtain ⟨p, vs, h1, h2, h3', h4, h5, h6⟩ := E.ls hG
  obtain ⟨le, D, ln, own, ow⟩ := E
  have hown := h6 own ow
  have hdice : Dice (.lst vs) := by
    obtain ⟨a, b, c, rfl⟩ : ∃ a b c, xs = [a, b, c] := by
      match xs, h3 with
      | [a, b, c], _ => exact ⟨a, b, c, rfl⟩
    exact ⟨a, b, c, by rw [reps_int.mp h5]; rfl⟩
  have nb : ∀ {a : Addr}, own a = none → a ≠ p := fun z q => by rw [q, hown] at z; cases z
  have nj : ∀ {a : Addr} {j : Nat}, j ≠ i → own a = some j → a ≠ p := fun hj z q => by rw [q, hown] at z; exact hj (Option.some.inj z).symm
  refine ⟨p, fun a => if a = p then some (.lst vs) else B a, h2, by simp, fun a ha => if_neg ha, fun a o e => ?_, fun a ha => ?_, by rw [List.length_set]; exact ln, fun a => if a = p then none else own a, fun a e => ?_, fun a j e => ?_, fun j s e => ?_⟩
  · have e : (if a = p then some (HO.lst vs) else B a) = some o := e
    by_cases q : a = p
    · rw [if_pos q] at e; cases e; exact .inl (by rw [q]; exact h4)
    · rw [if_neg q] at e; exact (le a o e).imp id fun z => by obtain ⟨z, _⟩ := z; cases z
  · cases ha
    exact ⟨.lst vs, if_pos rfl, hdice⟩
  · show (if a = p then none else own a) = none
    by_cases q : a = p
    · exact if_pos q
    · rw [if_neg q]; exact ow.free a e
  · have e : (if a = p then none else own a) = some j := e
    by_cases q : a = p
    · rw [if_pos q] at e; cases e
    · rw [if_neg q] at e
      exact ⟨(if_neg q).trans (ow.cell a j e).1, (ow.cell a j e).2⟩
  · rcases slot_other e with ⟨rfl, rfl, _⟩ | ⟨hj, e⟩
    · exact ⟨p, join_some.mpr h1, rfl⟩
    · have hs := ow.slots j s e
      have k1 : ∀ {a : Addr}, own a = none → (if a = p then none else own a) = none := fun z => by rw [if_neg (nb z)]; exact z
      have k2 : ∀ {a : Addr}, own a = some j → (if a = p then none else own a) = some j := fun z => by rw [if_neg (nj hj z)]; exact z
      have k3 : ∀ {a : Addr}, own a = some j → B a = none → (if a = p then some (HO.lst vs) else B a) = none := fun z y => by rw [if_neg (nj hj z)]; exact y
      have k4 : ∀ {a : Addr}, own a = none → some p ≠ some a := fun z q => nb z (Option.some.inj q).symm
      cases s with
      | no => exact hs
      | im x => exact hs
      | ro xs => obtain ⟨a, vs, e, n, w, h1, r⟩ := hs; exact ⟨a, vs, e, k1 n, k4 n, h1, r⟩
      | ls xs => obtain ⟨a, vs, e, n, w, h1, r⟩ := hs; exact ⟨a, vs, e, k3 w n, k2 w, h1, r⟩
      | dk kvs => obtain ⟨a, vs, e, n, w, h1, r⟩ := hs; exact ⟨a, vs, e, k3 w n, k2 w, h1, r⟩
      | rk kvs => obtain ⟨a, vs, e, n, w, h1, r⟩ := hs; exact ⟨a, vs, e, k1 n, k4 n, h1, r⟩
      | dt kvs => obtain ⟨a, vs, e, n, w, h1, r⟩ := hs; exact ⟨a, vs, e, k3 w n, k2 w, h1, r⟩
      | di => obtain ⟨a, _, z⟩ := hs; cases z
      | ob a C dx fs P => obtain ⟨e, n, w, r⟩ := hs; exact ⟨e, k3 w n, k2 w, r⟩
      | fz a u P => obtain ⟨e, n, w, r⟩ := hs; exact ⟨e, k1 n, k4 n, r⟩
theorem le_undice {B B' H : Hp} {p : Addr} (h1 : B p = none) (h2 : ∀ a, a ≠ p → B' a = B a) (k : Le (some p) B' H) : Le none B H := fun a o e => by
  have hap : a ≠ p := fun z => by rw [z, h1] at e; cases e
  rcases k a o (by rw [h2 a hap]; exact e) with z | ⟨z, _⟩
  · exact .inl z
  · exact absurd (Option.some.inj z).symm hap
theorem env_undice {B B' H : Hp} {σ : L2.St} {p : Addr} (h1 : B p = none) (h0 : B' p ≠ none) (h2 : ∀ a, a ≠ p → B' a = B a) (E : Env (some p) B' G σ H) : Env none B (G.map dropDi) σ H := by
  obtain ⟨le, D, ln, own, ow⟩ := E
  have kb : ∀ {a : Addr}, B' a = none → B a = none := fun {a} z => by
    by_cases q : a = p
    · rw [q]; exact h1
    · rw [← h2 a q]; exact z
  refine ⟨le_undice h1 h2 le, DiceAt.no, by rw [List.length_map]; exact ln, own, ow.free, fun a i e => ⟨kb (ow.cell a i e).1, (ow.cell a i e).2⟩, fun i s e => ?_⟩
  rw [List.getElem?_map] at e
  obtain ⟨s', e1, e2⟩ := Option.map_eq_some_iff.mp e
  subst e2
  have hs := ow.slots i s' e1
  cases s' with
  | no => exact hs
  | im x => exact hs
  | ro xs => obtain ⟨a, vs, e, n, w, h1, r⟩ := hs; exact ⟨a, vs, e, n, nofun, h1, r⟩
  | ls xs => obtain ⟨a, vs, e, n, w, h1, r⟩ := hs; exact ⟨a, vs, e, kb n, w, h1, r⟩
  | dk kvs => obtain ⟨a, vs, e, n, w, h1, r⟩ := hs; exact ⟨a, vs, e, kb n, w, h1, r⟩
  | rk kvs => obtain ⟨a, vs, e, n, w, h1, r⟩ := hs; exact ⟨a, vs, e, n, nofun, h1, r⟩
  | dt kvs => obtain ⟨a, vs, e, n, w, h1, r⟩ := hs; exact ⟨a, vs, e, kb n, w, h1, r⟩
  | di => trivial
  | ob a C dx fs P => obtain ⟨e, n, w, r⟩ := hs; exact ⟨e, kb n, w, r⟩
  | fz a u P => obtain ⟨e, n, w, r⟩ := hs; exact ⟨e, n, nofun, r⟩
theorem run_dice {i : Nat} {sts : List Stmt} {D : GEnds} {xs : List Int} (hG : G[i]? = some (.ls xs)) (h3 : xs.length = 3) (hd : C.d = none)
    (h : ∀ p, Run { C with d := some p } (G.set i .di) sts { nx := fun G' => D.nx (G'.map dropDi), rt := D.rt, bk := fun G' => D.bk (G'.map dropDi), ct := fun G' => D.ct (G'.map dropDi) }) : Run C G sts D := fun B σ H E => by
  rw [hd] at E
  obtain ⟨p, B', h1, h0, h2, E'⟩ := env_dice E hG h3
  have hr := h p B' σ H E'
  intro X ok pins s I
  have ok' : Cok { C with d := some p } X := ⟨ok.prog, ok.w, ok.K, ok.mg, ok.base, ok.N, ok.nd, ok.sc, ok.calm, ok.room, ok.xe, ok.fn⟩
  refine thn (hr X ok' pins s I) fun f s1 q => ?_
  rw [hd]
  cases f with
  | next =>
    obtain ⟨σ3, H3, I3, G3, q3, E3⟩ := q
    exact ⟨σ3, H3, I3, _, q3, env_undice h1 h0 h2 E3⟩
  | brk =>
    obtain ⟨σ3, H3, I3, G3, q3, E3⟩ := q
    exact ⟨σ3, H3, I3, _, q3, env_undice h1 h0 h2 E3⟩
  | cont =>
    obtain ⟨σ3, H3, I3, G3, q3, E3⟩ := q
    exact ⟨σ3, H3, I3, _, q3, env_undice h1 h0 h2 E3⟩
  | ret u =>
    obtain ⟨v3, σ3, H3, I3, r3, q3⟩ := q
    refine ⟨v3, σ3, H3, I3, r3, le_undice h1 h2 q3.1, ?_⟩
    have kb : ∀ {a : Addr}, B' a = none → B a = none := fun {a} z => by
      by_cases q : a = p
      · rw [q]; exact h1
      · rw [← h2 a q]; exact z
    have hv := q3.2
    revert hv
    show valIs B' v3 H3 D.rt → valIs B v3 H3 D.rt
    cases D.rt with
    | im P => exact id
    | ls P => exact fun ⟨p, vs, xs, e, n, q⟩ => ⟨p, vs, xs, e, kb n, q⟩
    | dk P => exact fun ⟨p, vs, xs, e, n, q⟩ => ⟨p, vs, xs, e, kb n, q⟩
    | dt P => exact fun ⟨p, vs, xs, e, n, q⟩ => ⟨p, vs, xs, e, kb n, q⟩
    | non => exact id
end
theorem sc_dice : FnScope ["_law_script", "_law_at", "_law_cell", "_law_great", "_law_mixed"] ["_law_script", "_law_at"] (defScope (top 64)) := ⟨rfl, rfl, rfl, by decide +kernel, rfl, by decide +kernel, by decide +kernel⟩
theorem ok_dice (h : Top T) {xs : List Int} {s : Slot} (hs : Scr T xs s) : Fn T 1 "_law_dice" (spC (β := Nat) false (fun b => [s, .im (b : Int)]) (fun _ => True) (fun _ => .ls (fun ys : List Int => ys.length = 3))) := by
  refine def_ok (at_law_dice h) sc_dice (fun _ _ _ _ _ _ us hl => match us, hl with | [_, _], _ => rfl) (fun b => rfl) fun k d hd _ => ?_
  refine run_setP (i := 2) (ev_addA (ev_mulL ev_int (ev_var (i := 1) (a := (k : Int)) rfl) (fun i e => by rw [e]; decide)) ev_int) fun z _ => ?_
  refine run_ifK (P := (· = decide ((k : Int) < (xs.length : Int)))) (fun G' => ∃ z : Int, G' = [s, .im (k : Int), .im z, .no, .no]) (ev_ltE (ev_var (i := 1) (a := (k : Int)) rfl) (ev_lenScr (i := 0) (blt h) rfl hs)).t (fun ht => ?_) (fun _ => run_nil ⟨z, rfl⟩) ?_
  · have ht : (k : Int) < xs.length := of_decide_eq_true ht.symm
    exact run_setP (i := 2) (P := fun _ : Int => True) (ev_ixScr (i := 0) (k := k) rfl hs (ev_var (i := 1) rfl) (by omega)) fun z _ => run_nil ⟨z, rfl⟩
  · rintro G' ⟨z, rfl⟩
    refine run_setP (i := 3) (ev_any1 (ev_modR (ev_intI (blt h) (ev_abs (blt h) (ev_var (i := 2) (a := z) rfl))) (ev_powE (ev_powE ev_int ev_int ⟨by decide, by decide +kernel⟩) ev_int ⟨by decide, by decide +kernel⟩) (by decide +kernel))) fun g _ => ?_
    refine run_setP (i := 4) (ev_addA (ev_addA (ev_addA (ev_mulR (ev_modR (ev_intI (blt h) (ev_var (i := 3) (a := g) rfl)) ev_int (by decide)) ev_int (fun i e => by rw [e]; decide)) (ev_mulL ev_int (ev_var (i := 1) (a := (k : Int)) rfl) (fun i e => by rw [e]; decide))) (ev_mulL ev_int (ev_intB (blt h) (ev_ltE (ev_var (i := 2) (a := z) rfl) ev_int).v) (fun i e => by rw [e]; decide))) ev_int) fun m _ => ?_
    refine run_ret (ev_lstL (α := Int) (ea_imP (P := fun _ : Int => True) ((ev_max2 (blt h) ev_int (ev_subA (ev_var (i := 3) (a := g) rfl) (ev_powE ev_int ev_int ⟨by decide, by decide +kernel⟩))).imp fun _ _ => trivial) (ea_imP (P := fun _ : Int => True) (ev_any1 (ev_modR (ev_intI (blt h) (ev_var (i := 4) (a := m) rfl)) ev_int (by decide))) (ea_imP (P := fun _ : Int => True) (ev_any1 ev_int) ea_nil))) ?_)
    rintro ss ⟨x, _, _, ⟨y, _, _, ⟨w, _, _, rfl, rfl⟩, rfl⟩, rfl⟩
    exact ⟨[x, y, w], rfl, rfl, by simp⟩
theorem sc_pull : FnScope ["_law_dice_here", "_law_total", "_law_found", "_law_one", "_law_two"] ["_law_dice_here", "_law_total"] (defScope (top 65)) := ⟨rfl, rfl, rfl, by decide +kernel, rfl, by decide +kernel, by decide +kernel⟩
theorem ok_pull (h : Top T) : Fn T 1 "_law_pull" (spC (β := Int) true (fun b => [.di, .im b]) (fun b => 0 < b ∧ b < 1073741824) (fun b => .im fun z : Int => 0 ≤ z ∧ z < b)) := by
  refine def_ok (at_law_pull h) sc_pull (fun _ _ _ _ _ _ us hl => match us, hl with | [_, _], _ => rfl) (fun b => rfl) fun n d hd hp => ?_
  obtain ⟨h1, h2⟩ := hp
  refine run_ifK (P := fun _ => True) (fun G' => G' = [.di, .im n, .no, .no, .no]) (((ev_gt (P := fun _ : Int => True) (ev_di (i := 0) (.inl rfl) rfl) ev_int).imp fun _ _ => trivial).t) (fun _ => ?_) (fun _ => run_nil rfl) ?_
  · refine run_setP (i := 2) (ev_modR (P := fun _ : Int => True) (ev_intI (blt h) (ev_di (i := 0) (.inl rfl) rfl)) (ev_var (i := 1) (a := n) rfl) h1) fun z hz => ?_
    refine run_dput (i := 0) (.inl rfl) (ev_fdiv (P := fun _ : Int => True) (ev_di (i := 0) (.inl rfl) rfl) (ev_var (i := 1) (a := n) rfl) (fun j e => by rw [e]; exact ⟨h1, h2⟩)) rfl ?_
    exact run_ret ((ev_var (i := 2) (a := z) rfl).imp fun x e => by rw [e]; exact hz)
  rintro G' rfl
  refine run_dput (i := 0) (.inr (.inr rfl)) (ev_addA (P := fun _ : Int => True) (ev_di (i := 0) (.inr (.inr rfl)) rfl) ev_int) rfl ?_
  refine run_setP (i := 3) (ev_modR (ev_intI (blt h) (ev_addA (P := fun _ : Int => True) (ev_di (i := 0) (.inr (.inl rfl)) rfl) (ev_mulL ev_int (R := fun _ : Int => True) (ev_di (i := 0) (.inr (.inr rfl)) rfl) (fun i e => by rw [e]; decide)))) ev_int (by decide)) fun y hy => ?_
  refine run_setP (i := 4) (ev_mulL (ev_modR (ev_intI (blt h) (ev_mulL (ev_var (i := 3) (a := y) rfl) (ev_var (i := 3) (a := y) rfl) (fun i e => by rw [e]; omega))) ev_int (by decide)) (ev_var (i := 3) (a := y) rfl) (fun i e => by omega)) fun w _ => ?_
  exact run_ret (ev_modR (ev_intI (blt h) (ev_any1 (ev_fdiv (ev_modR (ev_intI (blt h) (ev_addA (ev_var (i := 4) (a := w) rfl) (ev_mulL ev_int (R := fun _ : Int => True) (ev_di (i := 0) (.inr (.inr rfl)) rfl) (fun i e => by rw [e]; decide)))) ev_int (by decide)) ev_int (fun j e => by rw [e]; decide)))) (ev_var (i := 1) (a := n) rfl) h1)
end Mk
-- MkPk
namespace Mk
open Im (rep)
open PySem PySem.Spec PyProof.Rows L2
variable {T : Tx}
section
variable {C : Cg} {G : List Slot}
theorem ev_pull (h : Top T) {i : Nat} {x : Str} {e : Expr} {p q pos : Pos} {n : Int} (hG : G[i]? = some .di) (he : EvR C G e (.im (· = n))) (hn : 0 < n ∧ n < 1073741824) (hk : 1 ≤ C.k := by exact Nat.le_of_ble_eq_true rfl) (hN : C.N[i]? = some x := by rfl)
    (hv : Vis C.sc x := by first | exact Or.inl rfl | exact Or.inr (Or.inl rfl) | exact Or.inr (Or.inr rfl)) (hd : (x == ("__debug__" : Str)) = false := by decide) (hcd : (x == ("__classdict__" : Str)) = false := by decide)
    (hg : C.sc.names.lookup ("_law_pull" : Str) = some .globalImplicit := by rfl) (hs : ∀ env, starEach [e] env = (false, eval e env) :: starEach [] env := by intro _; rfl) (hpl : ∀ env, (backTo pos (starEach [e] env)).any (·.1) = false := by intro _; rfl) (hT : C.T = T := by rfl) :
    EvR C G (.Call (.Name "_law_pull" p) [.Name x q, e] [] pos) (.im fun z : Int => 0 ≤ z ∧ z < n) :=
  ev_callD (ok_pull h) n (ea_var (s := .di) hG (ea_im he ea_nil hs) (hN := hN) (hv := hv) (hd := hd) (hcd := hcd)) rfl hn hk hg hT (by decide) (fun _ => rfl) hpl
end
section
variable {C : Cg} {G : List Slot}
theorem ev_eqI {a b : Expr} {pos : Pos} {P R : Int → Prop} (ha : EvR C G a (.im P)) (hb : EvR C G b (.im R)) : EvC C G (.Compare a [.Eq] [b] pos) (fun z => ∃ i j, P i ∧ R j ∧ z = decide (i = j)) :=
  ev_cmp2 (f := rEqD C.T.K) (fun X ok => by rw [← ok.K]; exact op_eqD ok.room.units) (nobehind b (by decide) (by decide)) ha hb fun x' y' v w H p p2 r1 r2 Q q =>
    ⟨_, _, Dat.dp r1, Dat.dp r2, Dat.shaped (by decide) x', Dat.shaped (by decide) y', by rw [Dat.eqv]; exact q _ ⟨x', y', p, p2, rfl⟩⟩
theorem ev_eqA {a b : Expr} {pos : Pos} {P R : Int → Prop} (ha : EvR C G a (.im P)) (hb : EvR C G b (.im R)) : EvC C G (.Compare a [.Eq] [b] pos) (fun _ => True) := (ev_eqI ha hb).imp fun _ _ => trivial
end
theorem sc_pick : FnScope ["_law_dice_here", "_law_items"] ["_law_dice_here", "_law_items"] (defScope (top 66)) := ⟨rfl, rfl, rfl, by decide +kernel, rfl, by decide +kernel, by decide +kernel⟩
theorem pick_go {α : Type} [Im α] {xs : List α} {z : Int} (h0 : 0 ≤ z) (h1 : z < xs.length) : ∃ x, L2.atI xs z = some x ∧ x ∈ xs := by
  obtain ⟨k, rfl⟩ := Int.eq_ofNat_of_zero_le h0
  have hk : k < xs.length := by omega
  exact ⟨_, atI_nat (List.getElem?_eq_getElem hk), List.getElem_mem hk⟩
theorem ok_pickT (h : Top T) {α : Type} [Im α] : Fn T 2 "_law_pick" (spC (β := List α) true (fun b => [.di, .im b]) (fun b => b ≠ [] ∧ b.length ≤ 1000) (fun b => .im (· ∈ b))) := by
  refine def_ok (at_law_pick h) sc_pick (fun _ _ _ _ _ _ us hl => match us, hl with | [_, _], _ => rfl) (fun b => rfl) fun xs d hd hp => ?_
  obtain ⟨h1, h2⟩ := hp
  have h3 : 0 < xs.length := List.length_pos_iff.mpr h1
  refine run_ret (ev_ix (P := (· = xs)) (S := fun z => 0 ≤ z ∧ z < (xs.length : Int)) (es_im (ev_var (i := 1) (a := xs) rfl)) (ev_pull h (i := 0) rfl (ev_len (P := (· = xs)) (n := (xs.length : Int)) (blt h) (es_im (ev_var (i := 1) (a := xs) rfl)) (fun xs e => by rw [e])) (by omega)) fun ys z e hz => ?_)
  subst e
  exact pick_go hz.1 hz.2
theorem ok_pickR (h : Top T) {α : Type} [Im α] : Fn T 2 "_law_pick" (spC (β := List α) true (fun b => [.di, .ro b]) (fun b => b ≠ [] ∧ b.length ≤ 1000) (fun b => .im (· ∈ b))) := by
  refine def_ok (at_law_pick h) sc_pick (fun _ _ _ _ _ _ us hl => match us, hl with | [_, _], _ => rfl) (fun b => rfl) fun xs d hd hp => ?_
  obtain ⟨h1, h2⟩ := hp
  have h3 : 0 < xs.length := List.length_pos_iff.mpr h1
  refine run_ret (ev_ix (P := (· = xs)) (S := fun z => 0 ≤ z ∧ z < (xs.length : Int)) (es_ro (i := 1) rfl) (ev_pull h (i := 0) rfl (ev_len (P := (· = xs)) (n := (xs.length : Int)) (blt h) (es_ro (i := 1) rfl) (fun xs e => by rw [e])) (by omega)) fun ys z e hz => ?_)
  subst e
  exact pick_go hz.1 hz.2
theorem sc_some : FnScope ["_law_dice_here", "_law_columns_here", "_law_share", "_law_name"] ["_law_dice_here", "_law_columns_here", "_law_share"] (defScope (top 68)) := ⟨rfl, rfl, rfl, by decide +kernel, rfl, by decide +kernel, by decide +kernel⟩
theorem ok_someT (h : Top T) : Fn T 2 "_law_some" (spC (β := List Nm × Int) true (fun b => [.di, .im b.1, .im b.2]) (fun b => 0 < b.2 ∧ b.2 < 1073741824) (fun b => .im (fun ys : List Nm => ys.Sublist b.1))) := by
  refine def_ok (at_law_some h) sc_some (fun _ _ _ _ _ _ us hl => match us, hl with | [_, _, _], _ => rfl) (fun b => rfl) fun b d hd hp => ?_
  obtain ⟨xs, n⟩ := b
  refine run_ret (ev_tuple (blt h) (es_ls (ev_lc (own := [("_law_name", 3)]) (lc_any rfl (ei_tup (ev_var (i := 1) (a := xs) rfl)) (by kernel_rfl) (bnd_name (i := 3)) (by decide) (fun c hc => ?_) fun c hc => (ev_var (i := 3) rfl)))))
  exact (ev_eqA (ev_pull h (i := 0) rfl (ev_var (i := 2) (a := n) rfl) hp) ev_int).t
theorem ok_someR (h : Top T) : Fn T 2 "_law_some" (spC (β := List Nm × Int) true (fun b => [.di, .ro b.1, .im b.2]) (fun b => 0 < b.2 ∧ b.2 < 1073741824) (fun b => .im (fun ys : List Nm => ys.Sublist b.1))) := by
  refine def_ok (at_law_some h) sc_some (fun _ _ _ _ _ _ us hl => match us, hl with | [_, _, _], _ => rfl) (fun b => rfl) fun b d hd hp => ?_
  obtain ⟨xs, n⟩ := b
  refine run_ret (ev_tuple (blt h) (es_ls (ev_lc (own := [("_law_name", 3)]) (lc_any rfl (ei_ro (i := 1) (xs := xs) rfl) (by kernel_rfl) (bnd_name (i := 3)) (by decide) (fun c hc => ?_) fun c hc => (ev_var (i := 3) rfl)))))
  exact (ev_eqA (ev_pull h (i := 0) rfl (ev_var (i := 2) (a := n) rfl) hp) ev_int).t
end Mk
-- MkCo
namespace Mk
open Im (rep)
open PySem PySem.Spec PyProof.Rows L2
variable {T : Tx}
def Wd (at_ k : Nat) (w : Str) : Prop := ∃ h t, w.cps.toList = h :: t ∧ 97 + 2 * at_ ≤ h ∧ h ≤ 98 + 2 * at_ ∧ (∀ c ∈ t, 97 ≤ c ∧ c ≤ 122) ∧ t.length ≤ k
def Below (m : Nat) (c : Nm) : Prop := c.s.length ≤ 3 ∧ ∃ h t, c.s.cps.toList = h :: t ∧ h < m
abbrev abc : Str := "abcdefghijklmnopqrstuvwxyz"
theorem abc_at : ∀ n : Nat, n < 26 → L2.atI abc.cps.toList (n : Int) = some (97 + n) := by decide +kernel
theorem abc_go {z : Int} (h0 : 0 ≤ z) (h1 : z < 26) : ∃ n : Nat, n < 26 ∧ z = n ∧ L2.atI abc.cps.toList z = some (97 + n) := by
  obtain ⟨k, rfl⟩ := Int.eq_ofNat_of_zero_le h0
  exact ⟨k, by omega, rfl, abc_at k (by omega)⟩
theorem len_cps (w : Str) : w.length = w.cps.toList.length := Array.length_toList.symm
theorem Wd.len {a k : Nat} {w : Str} (h : Wd a k w) : w.length ≤ k + 1 := by
  obtain ⟨h0, t, e, _, _, _, hl⟩ := h
  rw [len_cps, e, List.length_cons]
  omega
theorem Wd.nm {a k : Nat} {w : Str} (h : Wd a k w) (hk : k ≤ 2) (ha : a ≤ 4) : nmOk w = true := by
  have h2 := h.len
  obtain ⟨h0, t, e, l1, l2, l3, hl⟩ := h
  unfold nmOk
  rw [Bool.and_eq_true, Bool.and_eq_true, decide_eq_true_eq, decide_eq_true_eq, List.all_eq_true]
  refine ⟨by rw [len_cps, e, List.length_cons]; omega, by omega, fun c hc => ?_⟩
  rw [e] at hc
  rw [Bool.and_eq_true, decide_eq_true_eq, decide_eq_true_eq]
  rcases List.mem_cons.mp hc with rfl | hc
  · omega
  · exact l3 c hc
theorem Wd.snoc {a k n : Nat} {w : Str} (h : Wd a k w) (hn : n < 26) : Wd a (k + 1) (w ++ (⟨#[97 + n]⟩ : Str)) := by
  obtain ⟨h0, t, e, l1, l2, l3, hl⟩ := h
  refine ⟨h0, t ++ [97 + n], ?_, l1, l2, fun c hc => ?_, by rw [List.length_append, List.length_singleton]; omega⟩
  · show (w.cps ++ #[97 + n]).toList = _
    rw [Array.toList_append, e]; rfl
  · rcases List.mem_append.mp hc with z | z
    · exact l3 c z
    · rw [List.mem_singleton.mp z]; omega
theorem Wd.up {a k : Nat} {w : Str} (h : Wd a k w) {c : Nm} (hc : Below (97 + 2 * a) c) (hn : nmOk w = true) : ltN c ⟨w, hn⟩ := by
  obtain ⟨h0, t, e, l1, l2, l3, hl⟩ := h
  obtain ⟨_, h1, t1, e1, l4⟩ := hc
  show c.s.cps.toList < w.cps.toList
  rw [e, e1]
  exact List.Lex.rel (by omega)
theorem Wd.below {a k : Nat} {w : Str} (h : Wd a k w) (hk : k ≤ 2) (hn : nmOk w = true) : Below (97 + 2 * (a + 1)) ⟨w, hn⟩ := by
  have h2 := h.len
  obtain ⟨h0, t, e, l1, l2, l3, hl⟩ := h
  exact ⟨by show w.length ≤ 3; omega, h0, t, e, by omega⟩
structure Drawn (n : Nat) (cs : List Nm) : Prop where
  asc : cs.Pairwise ltN
  len : cs.length = n
  low : ∀ c ∈ cs, Below (97 + 2 * n) c
theorem Drawn.snoc {n k : Nat} {cs : List Nm} {w : Str} (h : Drawn n cs) (hw : Wd n k w) (hk : k ≤ 2) (hn : nmOk w = true) : Drawn (n + 1) (cs ++ [⟨w, hn⟩]) := by
  refine ⟨List.pairwise_append.mpr ⟨h.asc, by simp, fun a ha b hb => ?_⟩, by rw [List.length_append, h.len]; rfl, fun c hc => ?_⟩
  · rw [List.mem_singleton.mp hb]
    exact hw.up (h.low a ha) hn
  · rcases List.mem_append.mp hc with z | z
    · obtain ⟨h1, h0, t, e, l⟩ := h.low c z
      exact ⟨h1, h0, t, e, by omega⟩
    · rw [List.mem_singleton.mp z]
      exact hw.below hk hn
theorem rng_get {n i : Nat} {z : Int} (h : ((List.range n).map fun i : Nat => (i : Int))[i]? = some z) : z = i ∧ i < n := by
  rw [List.getElem?_map] at h
  obtain ⟨j, hj, e⟩ := Option.map_eq_some_iff.mp h
  obtain ⟨h1, h2⟩ := List.getElem?_eq_some_iff.mp hj
  rw [List.length_range] at h1
  rw [List.getElem_range] at h2
  exact ⟨by rw [← e, h2], h1⟩
theorem sc_law_columns : FnScope ["_law_dice_here", "_law_total", "_law_signs", "_law_found", "_law_at", "_law_word", "_law_turn"] ["_law_dice_here", "_law_total"] (defScope (top 67)) := ⟨rfl, rfl, rfl, by decide +kernel, rfl, by decide +kernel, by decide +kernel⟩
theorem ok_law_columns (h : Top T) : Fn T 2 "_law_columns" (spC (β := Nat) true (fun b => [.di, .im (b : Int)]) (fun b => b ≤ 5) (fun b => .im (Drawn b))) := by
  refine def_ok (at_law_columns h) sc_law_columns (fun _ _ _ _ _ _ us hl => match us, hl with | [_, _], _ => rfl) (fun b => rfl) fun n d hd hn => ?_
  have hn : n ≤ 5 := hn
  refine run_par (i := 2) (j := 3) put_im put_ls (ev_str (x := abc)) (ev_lst0 (α := Nm)) (fun G' G'' h1 h2 => ?_) (fun G' ⟨a, _, e⟩ => by rw [e]; rfl)
  obtain ⟨_, rfl, rfl⟩ := h1
  obtain ⟨_, rfl, rfl⟩ := h2
  refine run_for (ei_range (P := (· = (n : Int))) (blt h).range (ev_var (i := 1) (a := (n : Int)) rfl) (fun m e => by omega)) (bnd_name (i := 4)) (I := fun L i G' => ∃ (cs : List Nm) (a b c : Slot), G' = [.di, .im (n : Int), .im abc, .ls cs, a, b, c] ∧ Drawn i cs) (fun L _ => ⟨[], _, _, _, rfl, .nil, rfl, by simp⟩) ?_ ?_ ?_
  · rintro L i G' ⟨cs, a, b, c, rfl, _⟩; rfl
  · rintro L i z G' ⟨m, rfl, rfl⟩ hz ⟨cs, a, b, c, rfl, hD⟩
    obtain ⟨rfl, hi⟩ := rng_get hz
    have hi : i < n := by omega
    refine run_setP (i := 5) (P := Wd i 0) (ev_atS (z := abc) (S := fun z => ∃ x : Int, (0 ≤ x ∧ x < 2) ∧ z = 2 * (i : Int) + x) (T := Wd i 0) ((ev_var (i := 2) rfl)) ((ev_add (ev_mul (P := (· = 2)) (R := (· = (i : Int))) ev_int ((ev_var (i := 4) rfl)) (fun i j e _ => by rw [e]; exact .inl ⟨by decide, by decide⟩)) (ev_pull h (i := 0) rfl (ev_int (i := 2)) (by decide))).imp fun z ⟨x, y, ⟨x1, x2, e1, e2, e3⟩, hy, e⟩ => ⟨y, hy, by rw [e, e3, e1, e2]⟩) (by decide) ?_) fun w hw => ?_
    · rintro z ⟨x, ⟨hx0, hx1⟩, rfl⟩
      obtain ⟨k, hk, ek, hat⟩ := abc_go (z := 2 * (i : Int) + x) (by omega) (by omega)
      exact ⟨_, hat, 97 + k, [], rfl, by omega, by omega, by simp, by simp⟩
    refine run_for (ei_range (P := fun z => 0 ≤ z ∧ z ≤ 2) (blt h).range (ev_ix (P := (· = ([0, 0, 1, 2] : List Int))) (S := fun z => 0 ≤ z ∧ z < 4) (es_ls (ev_lstL (α := Int) (ea_im (ev_int (i := 0)) (ea_im (ev_int (i := 0)) (ea_im (ev_int (i := 1)) (ea_im (ev_int (i := 2)) ea_nil)))) fun ss e => ⟨[0, 0, 1, 2], e, rfl, by decide⟩)) (ev_pull h (i := 0) rfl (ev_int (i := 4)) (by decide)) ?_) (fun m e => by omega)) (bnd_name (i := 6)) (I := fun L k G' => ∃ (w : Str) (c : Slot), G' = [.di, .im (n : Int), .im abc, .ls cs, .im (i : Int), .im w, c] ∧ Wd i k w) (fun L _ => ⟨w, _, rfl, hw⟩) ?_ ?_ ?_
    · rintro xs z rfl ⟨h0, h1⟩
      obtain ⟨k, rfl⟩ := Int.eq_ofNat_of_zero_le h0
      have key : ∀ k : Nat, k < 4 → ∃ x, L2.atI ([0, 0, 1, 2] : List Int) (k : Int) = some x ∧ 0 ≤ x ∧ x ≤ 2 := by decide
      exact key k (by omega)
    · rintro L k G' ⟨w, c, rfl, _⟩; rfl
    · rintro L k z G' ⟨m, ⟨hm0, hm1⟩, rfl⟩ hz ⟨w, c, rfl, hw⟩
      obtain ⟨rfl, hk⟩ := rng_get hz
      have hwl := hw.len
      refine run_setP (i := 5) (P := Wd i (k + 1)) ((ev_addS (P := (· = w)) (R := fun u => ∃ n : Nat, n < 26 ∧ u = (⟨#[97 + n]⟩ : Str)) ((ev_var (i := 5) rfl)) (ev_atS (z := abc) (S := fun z => 0 ≤ z ∧ z < 26) (T := fun u => ∃ n : Nat, n < 26 ∧ u = (⟨#[97 + n]⟩ : Str)) ((ev_var (i := 2) rfl)) (ev_pull h (i := 0) rfl (ev_int (i := 26)) (by decide)) (by decide) ?_) ?_).imp ?_) fun w2 hw2 => run_nil ⟨w2, _, rfl, hw2⟩
      · rintro z ⟨hz0, hz1⟩
        obtain ⟨j, hj, rfl, hat⟩ := abc_go hz0 hz1
        exact ⟨_, hat, j, hj, rfl⟩
      · rintro x y rfl ⟨j, hj, rfl⟩
        show x.length + 1 ≤ 100000
        omega
      · rintro z ⟨x, y, rfl, ⟨j, hj, rfl⟩, rfl⟩
        exact hw.snoc hj
    · rintro L G' ⟨m, ⟨hm0, hm1⟩, rfl⟩ ⟨w, c, rfl, hw⟩
      rw [List.length_map, List.length_range] at hw
      have hn2 : nmOk w = true := hw.nm (by omega) (by omega)
      refine run_append (α := Nm) (i := 3) (P := (· = (⟨w, hn2⟩ : Nm))) ((ev_var (i := 5) (a := w) rfl).as fun H v r => r) rfl (by rw [hD.len]; omega) fun y e => run_nil ⟨_, _, _, _, rfl, ?_⟩
      subst e
      exact hD.snoc hw (by omega) hn2
  · rintro L G' ⟨m, rfl, rfl⟩ ⟨cs, a, b, c, rfl, hD⟩
    rw [List.length_map, List.length_range] at hD
    exact run_ret ((ev_tuple (P := (· = cs)) (blt h) (es_own (i := 3) rfl)).imp fun z e => by rw [e]; exact hD)
end Mk
-- MkRu
namespace Mk
open Im (rep)
open PySem PySem.Spec PyProof.Rows L2
variable {T : Tx}
section
variable {C : Cg} {G : List Slot}
theorem ev_joined (h : Top T) {a b c : Expr} {p pos : Pos} {cs : List Nm} {P R : List Nm → Prop} (ha : EvR C G a (.im (· = cs))) (hb : EvR C G b (.im P)) (hc : EvR C G c (.im R)) (hk : 1 ≤ C.k := by exact Nat.le_of_ble_eq_true rfl)
    (hg : C.sc.names.lookup ("_law_joined" : Str) = some .globalImplicit := by rfl) (hs : ∀ env, starEach [a, b, c] env = (false, eval a env) :: starEach [b, c] env := by intro _; rfl) (hs2 : ∀ env, starEach [b, c] env = (false, eval b env) :: starEach [c] env := by intro _; rfl) (hs3 : ∀ env, starEach [c] env = (false, eval c env) :: starEach [] env := by intro _; rfl)
    (hpl : ∀ env, (backTo pos (starEach [b, c] env)).any (·.1) = false := by intro _; rfl) (hT : C.T = T := by rfl) :
    EvR C G (.Call (.Name "_law_joined" p) [a, b, c] [] pos) (.im fun s : List Nm => ∃ x y, P x ∧ R y ∧ s = joined cs x y) :=
  ep_call (ok_law_joined h) (ea_imP ha (ea_imP hb (ea_imP hc ea_nil hs3) hs2) hs) (fun ss ⟨x, ss1, ex, ⟨y, ss2, py, ⟨z, ss3, pz, e3, e2⟩, e1⟩, e0⟩ => ⟨(cs, y, z), by rw [e0, e1, e2, e3, ex], trivial, .inr rfl, fun H v H2 ⟨s, es, r⟩ => ⟨s, ⟨y, z, py, pz, es⟩, r⟩⟩) hk hg hT (by decide) hs hpl
end
theorem joined_sub (cs a b : List Nm) : (joined cs a b).Sublist cs := List.filter_sublist
theorem sc_right_side : FnScope ["_law_dice_here", "_law_columns_here", "_law_left", "_law_others", "_law_found", "_law_name"] ["_law_dice_here", "_law_columns_here", "_law_left"] (defScope (top 69)) := ⟨rfl, rfl, rfl, by decide +kernel, rfl, by decide +kernel, by decide +kernel⟩
def RightOf (cs ys : List Nm) : Prop := ys ≠ [] ∧ ys.Sublist cs
theorem ok_right_side (h : Top T) : Fn T 3 "_law_right_side" (spC (β := List Nm × List Nm) true (fun b => [.di, .im b.1, .im b.2]) (fun b => b.1 ≠ [] ∧ b.1.length ≤ 1000) (fun b => .im (RightOf b.1))) := by
  refine def_ok (at_law_right_side h) sc_right_side (fun _ _ _ _ _ _ us hl => match us, hl with | [_, _, _], _ => rfl) (fun b => rfl) fun b d hd hp => ?_
  obtain ⟨cs, left⟩ := b
  obtain ⟨h1, h2⟩ := hp
  have h1 : cs ≠ [] := h1
  have h2 : cs.length ≤ 1000 := h2
  refine run_setLcR (i := 3) (own := [("_law_name", 5)]) (P := fun ys => ys.Sublist cs) ((lc_filter (fun c : Nm => !decide (c ∈ left)) (fun c => c) rfl (ei_tup (ev_var (i := 1) (a := cs) rfl)) (by kernel_rfl) (bnd_name (i := 5)) (by decide) (fun c hc => ?_) fun c hc _ => (ev_var (i := 5) rfl)).imp fun ys e => by rw [e, List.map_id']; exact List.filter_sublist) fun xs hxs => ?_
  · exact (ev_niNm (x := c) (xs := left) ((ev_var (i := 5) rfl)) (es_im ((ev_var (i := 2) rfl)))).t
  refine run_ifK (P := fun b => b = false → xs ≠ []) (fun G' => ∃ xs, G' = [.di, .im cs, .im left, .ro xs, .no, .no] ∧ RightOf cs xs) (et_w (ew_orP (x := decide (xs = [])) (ev_eqL (el_ro (i := 3) rfl) (el_ls (ev_lst0 (α := Nm)))).t (fun _ z => by cases z) fun hx => ew_or1 ((ev_eqA (ev_pull h (i := 0) rfl (ev_int (i := 8)) (by decide)) ev_int).t.imp fun b _ _ => of_decide_eq_false hx))) (fun _ => ?_) (fun hx => run_nil ⟨xs, rfl, hx rfl, hxs⟩) ?_
  · refine run_let (i := 3) put_ro (ev_list (P := (· = cs)) (blt h) (es_im (ev_var (i := 1) (a := cs) rfl))) fun G' hG => run_nil ?_
    obtain ⟨_, rfl, rfl⟩ := hG
    exact ⟨_, rfl, h1, List.Sublist.refl _⟩
  · rintro G' ⟨xs, rfl, hne, hsub⟩
    have hxl := hsub.length_le
    refine run_setP (i := 4) (P := fun ys : List Nm => ys.Sublist xs) (ev_callD (ok_someR h) (xs, 2) (ea_var (i := 0) (s := .di) rfl (ea_var (i := 3) (s := .ro xs) rfl (ea_im (ev_int (i := 2)) ea_nil))) rfl ⟨by show (0 : Int) < 2; decide, by show (2 : Int) < 1073741824; decide⟩) fun ys hys => ?_
    refine run_ret (ev_ifExp (ev_neD (ev_var (i := 4) (a := ys) rfl) (ev_tup0 (α := Nm))).t (fun hx => (ev_var (i := 4) (a := ys) rfl).imp fun z e => ?_) (fun hx => (ev_tup1 (ev_callD (ok_pickR h) xs (ea_var (i := 0) (s := .di) rfl (ea_var (i := 3) (s := .ro xs) rfl ea_nil)) rfl ⟨hne, by omega⟩)).imp fun z ⟨x, hx, e⟩ => ?_))
    · subst e
      exact ⟨by simpa using hx, hys.trans hsub⟩
    · subst e
      have hx : x ∈ xs := hx
      exact ⟨by simp, (List.singleton_sublist.mpr hx).trans hsub⟩
section
variable {C : Cg} {G : List Slot}
theorem rok_of {cs l ys : List Nm} (hc : Cols cs) (hl : l.Sublist cs) (hr : RightOf cs ys) : ROk cs (l, ys) := ⟨hc.sub hl, hc.sub hr.2, fun c z => hl.subset z, fun c z => hr.2.subset z, hr.1⟩
end
structure FrPre (cs : List Nm) (n : Nat) : Prop where
  cols : Cols cs
  ne : cs ≠ []
  le : n ≤ 8
theorem sc_free_rules : FnScope ["_law_dice_here", "_law_columns_here", "_law_base", "_law_total", "_law_found", "_law_turn", "_law_left"] ["_law_dice_here", "_law_columns_here", "_law_base", "_law_total"] (defScope (top 71)) := ⟨rfl, rfl, rfl, by decide +kernel, rfl, by decide +kernel, by decide +kernel⟩
theorem ok_free_rules (h : Top T) : Fn T 4 "_law_free_rules" (spC (β := List Nm × List Nm × Nat) true (fun b => [.di, .im b.1, .im b.2.1, .im (b.2.2 : Int)]) (fun b => FrPre b.1 b.2.2) (fun b => .ls fun rs : List Rule => rs.length = b.2.2 ∧ ∀ r ∈ rs, ROk b.1 r)) := by
  refine def_ok (at_law_free_rules h) sc_free_rules (fun _ _ _ _ _ _ us hl => match us, hl with | [_, _, _, _], _ => rfl) (fun b => rfl) fun b d hd hp => ?_
  obtain ⟨cs, base, n⟩ := b
  obtain ⟨h1, h2, h3⟩ := hp
  have h1 : Cols cs := h1
  have h2 : cs ≠ [] := h2
  have h3 : n ≤ 8 := h3
  have h4 := h1.len
  refine run_let (i := 4) put_ls (ev_lst0 (α := Rule)) fun G' hG => ?_
  obtain ⟨_, rfl, rfl⟩ := hG
  refine run_for (ei_range (P := (· = (n : Int))) (blt h).range (ev_var (i := 3) (a := (n : Int)) rfl) (fun m e => by omega)) (bnd_name (i := 5)) (I := fun L i G' => ∃ (rs : List Rule) (a b : Slot), G' = [.di, .im cs, .im base, .im (n : Int), .ls rs, a, b] ∧ rs.length = i ∧ ∀ r ∈ rs, ROk cs r) (fun L _ => ⟨[], _, _, rfl, rfl, by simp⟩) ?_ ?_ ?_
  · rintro L i G' ⟨rs, a, b, rfl, _⟩; rfl
  · rintro L i z G' ⟨m, rfl, rfl⟩ hz ⟨rs, a, b, rfl, hl, hr⟩
    obtain ⟨rfl, hi⟩ := rng_get hz
    refine run_setP (i := 6) (P := fun s : List Nm => s.Sublist cs) ((ev_joined h (R := fun _ => True) (ev_var (i := 1) (a := cs) rfl) (ev_var (i := 2) (a := base) rfl) ((ev_callD (ok_someT h) (cs, 3) (ea_var (i := 0) (s := .di) rfl (ea_var (i := 1) (s := .im cs) rfl (ea_im (ev_int (i := 3)) ea_nil))) rfl ⟨by show (0 : Int) < 3; decide, by show (3 : Int) < 1073741824; decide⟩).imp fun _ _ => trivial)).imp fun s ⟨x, y, _, _, e⟩ => by rw [e]; exact joined_sub _ _ _) fun l hl2 => ?_
    refine run_append (α := Rule) (i := 4) (P := ROk cs) ((ev_pair (ev_var (i := 6) (a := l) rfl) (ev_callD (ok_right_side h) (cs, l) (ea_var (i := 0) (s := .di) rfl (ea_var (i := 1) (s := .im cs) rfl (ea_var (i := 6) (s := .im l) rfl ea_nil))) rfl ⟨h2, by show cs.length ≤ 1000; omega⟩)).imp ?_) rfl (by omega) fun r hr2 => run_nil ⟨_, _, _, rfl, by rw [List.length_append, hl]; rfl, fun q hq => ?_⟩
    · rintro ⟨x, y⟩ ⟨ex, hy⟩
      have ex : x = l := ex
      subst ex
      exact rok_of h1 hl2 hy
    · rcases List.mem_append.mp hq with z | z
      · exact hr q z
      · rw [List.mem_singleton.mp z]; exact hr2
  · rintro L G' ⟨m, rfl, rfl⟩ ⟨rs, a, b, rfl, hl, hr⟩
    rw [List.length_map, List.length_range] at hl
    exact run_retLs (i := 4) rfl rfl ⟨by rw [hl]; rfl, hr⟩
def RsOk (cs : List Nm) (n : Nat) (rs : List Rule) : Prop := rs.length ≤ n ∧ ∀ r ∈ rs, ROk cs r
theorem sc_pair_rules : FnScope ["_law_dice_here", "_law_columns_here", "_law_one", "_law_other", "_law_found", "_law_turn", "_law_left"] ["_law_dice_here", "_law_columns_here"] (defScope (top 72)) := ⟨rfl, rfl, rfl, by decide +kernel, rfl, by decide +kernel, by decide +kernel⟩
theorem ok_pair_rules (h : Top T) : Fn T 5 "_law_pair_rules" (spC (β := List Nm) true (fun b => [.di, .im b]) (fun b => Cols b ∧ b ≠ []) (fun b => .ls (RsOk b 8))) := by
  refine def_ok (at_law_pair_rules h) sc_pair_rules (fun _ _ _ _ _ _ us hl => match us, hl with | [_, _], _ => rfl) (fun b => rfl) fun cs d hd hp => ?_
  obtain ⟨h1, h2⟩ := hp
  have h4 := h1.len
  refine run_par (i := 2) (j := 3) put_im put_im (ev_callD (ok_someT h) (cs, 2) (ea_var (i := 0) (s := .di) rfl (ea_var (i := 1) (s := .im cs) rfl (ea_im (ev_int (i := 2)) ea_nil))) rfl ⟨by show (0 : Int) < 2; decide, by show (2 : Int) < 1073741824; decide⟩) (ev_callD (ok_someT h) (cs, 2) (ea_var (i := 0) (s := .di) rfl (ea_var (i := 1) (s := .im cs) rfl (ea_im (ev_int (i := 2)) ea_nil))) rfl ⟨by show (0 : Int) < 2; decide, by show (2 : Int) < 1073741824; decide⟩) (fun G' G'' h1 h2 => ?_) (fun G' ⟨a, _, e⟩ => by rw [e]; rfl)
  obtain ⟨s, hs, rfl⟩ := h1
  obtain ⟨t, ht, rfl⟩ := h2
  have hs : s.Sublist cs := hs
  have ht : t.Sublist cs := ht
  refine run_ifP (P := fun b => b = false → s ≠ [] ∧ t ≠ []) (et_w (ew_orP (x := decide (s = [])) (ev_eqD (ev_var (i := 2) (a := s) rfl) (ev_tup0 (α := Nm))).t (fun _ z => by cases z) fun hx => ew_orP (x := decide (t = [])) (ev_eqD (ev_var (i := 3) (a := t) rfl) (ev_tup0 (α := Nm))).t (fun _ z => by cases z) fun hy => ew_or1 ((ev_eqD (ev_var (i := 2) (a := s) rfl) (ev_var (i := 3) (a := t) rfl)).t.imp fun b _ _ => ⟨of_decide_eq_false hx, of_decide_eq_false hy⟩))) (fun _ => ?_) (fun hx => run_nil ?_)
  · exact run_ret ((ev_callD (ok_free_rules h) (cs, [], 2) (ea_var (i := 0) (s := .di) rfl (ea_var (i := 1) (s := .im cs) rfl (ea_im (ev_tup0 (α := Nm)) (ea_im (ev_int (i := 2)) ea_nil)))) rfl ⟨h1, h2, by show 2 ≤ 8; decide⟩).impL fun rs ⟨e, hr⟩ => ⟨by have e : rs.length = 2 := e; omega, hr⟩)
  obtain ⟨hsn, htn⟩ := hx rfl
  refine run_let (i := 4) put_ls (ev_lstL (α := Rule) (ea_im (ev_pairE (ev_var (i := 2) (a := s) rfl) (ev_var (i := 3) (a := t) rfl)) (ea_im (ev_pairE (ev_var (i := 3) (a := t) rfl) (ev_var (i := 2) (a := s) rfl)) ea_nil)) (R := (· = [(s, t), (t, s)])) fun ss e => ⟨[(s, t), (t, s)], e, rfl, by simp⟩) fun G' hG => ?_
  obtain ⟨_, rfl, rfl⟩ := hG
  refine run_for (ei_range (P := fun z => 0 ≤ z ∧ z < 3) (blt h).range (ev_pull h (i := 0) rfl (ev_int (i := 3)) (by decide)) (fun m e => by omega)) (bnd_name (i := 5)) (I := fun L i G' => ∃ (rs : List Rule) (a b : Slot), G' = [.di, .im cs, .im s, .im t, .ls rs, a, b] ∧ rs.length = 2 + i ∧ ∀ r ∈ rs, ROk cs r) (fun L _ => ⟨[(s, t), (t, s)], _, _, rfl, rfl, fun r hr => ?_⟩) ?_ ?_ ?_
  · rcases List.mem_cons.mp hr with z | z
    · rw [z]; exact rok_of h1 hs ⟨htn, ht⟩
    · rw [List.mem_singleton.mp z]; exact rok_of h1 ht ⟨hsn, hs⟩
  · rintro L i G' ⟨rs, a, b, rfl, _⟩; rfl
  · rintro L i z G' ⟨m, ⟨hm0, hm1⟩, rfl⟩ hz ⟨rs, a, b, rfl, hl, hr⟩
    obtain ⟨rfl, hi⟩ := rng_get hz
    refine run_setP (i := 6) (P := fun s : List Nm => s.Sublist cs) ((ev_joined h (P := fun _ => True) (R := fun _ => True) (ev_var (i := 1) (a := cs) rfl) ((ev_callD (ok_pickR h (α := List Nm)) [s, t] (ea_var (i := 0) (s := .di) rfl (ea_ls (ev_lstL (α := List Nm) (ea_im (ev_var (i := 2) (a := s) rfl) (ea_im (ev_var (i := 3) (a := t) rfl) ea_nil)) (R := (· = [s, t])) fun ss e => ⟨[s, t], e, rfl, by simp⟩) ea_nil)) rfl ⟨by simp, by simp⟩).imp fun _ _ => trivial) ((ev_callD (ok_someT h) (cs, 4) (ea_var (i := 0) (s := .di) rfl (ea_var (i := 1) (s := .im cs) rfl (ea_im (ev_int (i := 4)) ea_nil))) rfl ⟨by show (0 : Int) < 4; decide, by show (4 : Int) < 1073741824; decide⟩).imp fun _ _ => trivial)).imp fun s ⟨x, y, _, _, e⟩ => by rw [e]; exact joined_sub _ _ _) fun l hl2 => ?_
    refine run_append (α := Rule) (i := 4) (P := ROk cs) ((ev_pair (ev_var (i := 6) (a := l) rfl) (ev_callD (ok_right_side h) (cs, l) (ea_var (i := 0) (s := .di) rfl (ea_var (i := 1) (s := .im cs) rfl (ea_var (i := 6) (s := .im l) rfl ea_nil))) rfl ⟨h2, by show cs.length ≤ 1000; omega⟩)).imp ?_) rfl (by omega) fun r hr2 => run_nil ⟨_, _, _, rfl, by rw [List.length_append, hl]; rfl, fun q hq => ?_⟩
    · rintro ⟨x, y⟩ ⟨ex, hy⟩
      have ex : x = l := ex
      subst ex
      exact rok_of h1 hl2 hy
    · rcases List.mem_append.mp hq with z | z
      · exact hr q z
      · rw [List.mem_singleton.mp z]; exact hr2
  · rintro L G' ⟨m, ⟨hm0, hm1⟩, rfl⟩ ⟨rs, a, b, rfl, hl, hr⟩
    rw [List.length_map, List.length_range] at hl
    exact run_retLs (i := 4) rfl rfl ⟨by omega, hr⟩
end Mk
-- MkPc
namespace Mk
open Im (rep)
open PySem PySem.Spec PyProof.Rows L2
variable {C : Cg} {G : List Slot}
def plainS : Slot → Prop
  | .no => True
  | @Slot.im _ _ _ => True
  | .di => True
  | _ => False
def PlainG (G : List Slot) : Prop := ∀ (i : Nat) (s : Slot), G[i]? = some s → plainS s
theorem plainG_nil : PlainG [] := fun i s e => by simp at e
theorem plainG_cons {s : Slot} (h1 : plainS s) (h2 : PlainG G) : PlainG (s :: G) := fun i s' e => by
  cases i with
  | zero => cases e; exact h1
  | succ i => exact h2 i s' e
section
variable {d : Option Addr} {B H H1 : Hp} {σ : L2.St}
theorem Env.plain (pl : PlainG G) (E : Env d B G σ H) (l : Le d B H1) (tl : TLe H H1) : Env d B G σ H1 := by
  obtain ⟨le, D, ln, own, ow⟩ := E
  refine ⟨l, D, ln, fun _ => none, fun _ _ => rfl, fun a i e => (by cases e), fun i s e => ?_⟩
  have hs := ow.slots i s e
  have hp := pl i s e
  cases s with
  | no => exact hs
  | im x => obtain ⟨v, e, r⟩ := hs; exact ⟨v, e, Im.keep tl r⟩
  | di => exact hs
  | ro xs => exact hp.elim
  | ls xs => exact hp.elim
  | dk kvs => exact hp.elim
  | rk kvs => exact hp.elim
  | dt kvs => exact hp.elim
  | ob a C dx fs P => exact hp.elim
  | fz a u P => exact hp.elim
theorem Env.plain_ro {α : Type} [Im α] {xs : List α} {i : Nat} {a : Addr} {vs : List V} (pl : PlainG G) (E : Env d B G σ H) (hi : i < G.length) (hd : d ≠ some a) (h : H a = some (.lst vs)) (r : Reps H vs xs) : Env d B (G.set i (.ro xs)) (σ.set i (some (.ref a))) H := by
  obtain ⟨le, D, ln, own, ow⟩ := E
  refine ⟨le, D, by rw [List.length_set, List.length_set]; exact ln, fun _ => none, fun _ _ => rfl, fun a i e => (by cases e), fun j s e => ?_⟩
  rcases slot_other e with ⟨rfl, rfl, _⟩ | ⟨hj, e⟩
  · exact ⟨a, vs, by rw [List.getElem?_set_self (by rw [ln]; exact hi)]; rfl, rfl, hd, h, r⟩
  · rw [sig_other hj]
    have hs := ow.slots j s e
    have hp := pl j s e
    cases s with
    | no => exact hs
    | im x => exact hs
    | di => exact hs
    | ro xs => exact hp.elim
    | ls xs => exact hp.elim
    | dk kvs => exact hp.elim
    | rk kvs => exact hp.elim
    | dt kvs => exact hp.elim
    | ob a C dx fs P => exact hp.elim
    | fz a u P => exact hp.elim
end
def sV (xs : List Nm) : List V := xs.map fun n => V.str n.s
structure Tr3 (B H : Hp) (a : Fin 3 → Addr) (x : Fin 3 → List Nm) : Prop where
  fr : ∀ k, B (a k) = none
  ne : ∀ j k, j ≠ k → a j ≠ a k
  at_ : ∀ k, H (a k) = some (.lst (sV (x k)))
structure Pcs (B H : Hp) (p : Addr) (a : Fin 3 → Addr) (x : Fin 3 → List Nm) : Prop extends Tr3 B H a x where
  pf : B p = none
  pn : ∀ k, p ≠ a k
  pat : H p = some (.lst [.ref (a 0), .ref (a 1), .ref (a 2)])
theorem Pcs.go {d : Option Addr} {B H H1 : Hp} {p : Addr} {a : Fin 3 → Addr} {x : Fin 3 → List Nm} (D : DiceAt d B) (h : Pcs B H p a x) (l : Le d H H1) : Pcs B H1 p a x :=
  ⟨⟨h.fr, h.ne, fun k => l.keep (h.at_ k) (D.ne (h.fr k))⟩, h.pf, h.pn, l.keep h.pat (D.ne h.pf)⟩
theorem run_pcs {i : Nat} {x : Str} {q q0 q1 q2 pos pos' : Pos} {rest : List Stmt} {D : GEnds} (hi : i < G.length)
    (k : ∀ B σ H, Env C.d B (G.set i .no) σ H → ∀ p a, Pcs B H p a (fun _ => []) → σ[i]? = some (some (.ref p)) → tSs C rest (ends C.d B D) σ H) (hN : C.N[i]? = some x := by rfl) (hx : Sto C x := by first | exact Or.inl rfl | exact Or.inr ⟨rfl, rfl⟩)
    (hs : ∀ env : PySem.Env, env.scope = C.sc → swapsWith (.List [.List [] q0, .List [] q1, .List [] q2] q) (some (.Name x pos')) pos.line env = pure false := by first | (intro _ _; rfl) | (intro env e; cases env; cases e; rfl)) :
    Run C G (.Assign [.Name x pos'] (.List [.List [] q0, .List [] q1, .List [] q2] q) pos :: rest) D := fun B σ H E => by
  refine tSs_of (t := tSeq (tAsg (tLst (tCons (tLst tNil) (tCons (tLst tNil) (tCons (tLst tNil) tNil)))) (gName i)) (tSs C rest)) (fun X ok => pss_cons (ps_set (by rw [ok.N]; exact ok.nd) (by rw [ok.N]; exact hN) (hx.loc ok) (pe_lst (pa_cons (pe_lst pa_nil) (pa_cons (pe_lst pa_nil) (pa_cons (pe_lst pa_nil) pa_nil)))) (hs _ ok.sc) (hx.fn ok)) (pss_tS ok)) ?_
  refine ⟨Nat.zero_le _, fun a0 h0 => ⟨Nat.zero_le _, fun a1 h1 => ⟨Nat.zero_le _, fun a2 h2 => ⟨by rw [sizeLine_eq]; simp, fun p hp => ?_⟩⟩⟩⟩
  have l0 : Le C.d H (upd H a0 (.lst [])) := Le.new h0
  have l1 : Le C.d H (upd (upd H a0 (.lst [])) a1 (.lst [])) := l0.trans (Le.new h1)
  have l2 : Le C.d H (upd (upd (upd H a0 (.lst [])) a1 (.lst [])) a2 (.lst [])) := l1.trans (Le.new h2)
  have l3 : Le C.d H (upd (upd (upd (upd H a0 (.lst [])) a1 (.lst [])) a2 (.lst [])) p (.lst [.ref a0, .ref a1, .ref a2])) := l2.trans (Le.new hp)
  have n10 : a1 ≠ a0 := fun z => by rw [z, upd_same] at h1; cases h1
  have n21 : a2 ≠ a1 := fun z => by rw [z, upd_same] at h2; cases h2
  have n20 : a2 ≠ a0 := fun z => by rw [z, upd_ne (Ne.symm n10), upd_same] at h2; cases h2
  have np2 : p ≠ a2 := fun z => by rw [z, upd_same] at hp; cases hp
  have np1 : p ≠ a1 := fun z => by rw [z, upd_ne (Ne.symm n21), upd_same] at hp; cases hp
  have np0 : p ≠ a0 := fun z => by rw [z, upd_ne (Ne.symm n20), upd_ne (Ne.symm n10), upd_same] at hp; cases hp
  have E2 := (E.go l3).set_no (i := i) (o := some (.ref p))
  refine k B _ _ E2 p (fun k => if k = 0 then a0 else if k = 1 then a1 else a2) ⟨⟨fun k => ?_, fun j k hjk => ?_, fun k => ?_⟩, E.le.free (l2.free hp), fun k => ?_, upd_same⟩ (List.getElem?_set_self (by rw [E.len]; exact hi))
  · match k with
    | 0 => exact E.le.free h0
    | 1 => exact E.le.free (l0.free h1)
    | 2 => exact E.le.free (l1.free h2)
  · match j, k with
    | 0, 0 => exact absurd rfl hjk
    | 0, 1 => exact Ne.symm n10
    | 0, 2 => exact Ne.symm n20
    | 1, 0 => exact n10
    | 1, 1 => exact absurd rfl hjk
    | 1, 2 => exact Ne.symm n21
    | 2, 0 => exact n20
    | 2, 1 => exact n21
    | 2, 2 => exact absurd rfl hjk
  · match k with
    | 0 => exact (upd_ne (Ne.symm np0)).trans ((upd_ne (Ne.symm n20)).trans ((upd_ne (Ne.symm n10)).trans upd_same))
    | 1 => exact (upd_ne (Ne.symm np1)).trans ((upd_ne (Ne.symm n21)).trans upd_same)
    | 2 => exact (upd_ne (Ne.symm np2)).trans upd_same
  · match k with
    | 0 => exact np0
    | 1 => exact np1
    | 2 => exact np2
def ownP (i : Nat) (p : Addr) (a : Fin 3 → Addr) : Addr → Option Nat := fun b => if b = p ∨ b = a 0 ∨ b = a 1 ∨ b = a 2 then some i else none
theorem ownP_ne {i : Nat} {p b : Addr} {a : Fin 3 → Addr} (h : ownP i p a b = none) : b ≠ p ∧ ∀ k, b ≠ a k := by
  unfold ownP at h
  split at h
  · cases h
  · rename_i hn
    simp only [not_or] at hn
    exact ⟨hn.1, fun k => match k with
      | 0 => hn.2.1
      | 1 => hn.2.2.1
      | 2 => hn.2.2.2⟩
theorem ownP_at {i j : Nat} {p b : Addr} {a : Fin 3 → Addr} (h : ownP i p a b = some j) : b = p ∨ ∃ k, b = a k := by
  unfold ownP at h
  split at h
  · rename_i hn
    rcases hn with z | z | z | z
    · exact .inl z
    · exact .inr ⟨0, z⟩
    · exact .inr ⟨1, z⟩
    · exact .inr ⟨2, z⟩
  · cases h
theorem owns_pcs {d : Option Addr} {B H : Hp} {σ : L2.St} {i : Nat} {p : Addr} {a : Fin 3 → Addr} {x : Fin 3 → List Nm} (pl : PlainG G) (E : Env d B G σ H) (P : Pcs B H p a x) : Owns d B H G σ (ownP i p a) := by
  obtain ⟨le, D, ln, own, ow⟩ := E
  refine ⟨fun b e => ?_, fun b j e => ?_, fun j s e => ?_⟩
  · cases q : ownP i p a b with
    | none => rfl
    | some j =>
      rcases ownP_at q with z | ⟨k, z⟩
      · rw [z, P.pat] at e; cases e
      · rw [z, P.at_ k] at e; cases e
  · rcases ownP_at e with z | ⟨k, z⟩
    · rw [z]; exact ⟨P.pf, fun o ho => by rw [P.pat] at ho; cases ho; exact id⟩
    · rw [z]; exact ⟨P.fr k, fun o ho => by rw [P.at_ k] at ho; cases ho; exact id⟩
  · have hs := ow.slots j s e
    have hp := pl j s e
    cases s with
    | no => exact hs
    | im x => exact hs
    | di => exact hs
    | ro xs => exact hp.elim
    | ls xs => exact hp.elim
    | dk kvs => exact hp.elim
    | rk kvs => exact hp.elim
    | dt kvs => exact hp.elim
    | ob a C dx fs P => exact hp.elim
    | fz a u P => exact hp.elim
theorem Env.forget {d : Option Addr} {B H : Hp} {σ : L2.St} {i : Nat} (E : Env d B G σ H) : Env d B (G.set i .no) σ H := by
  obtain ⟨le, D, ln, own, ow⟩ := E
  refine ⟨le, D, by rw [List.length_set]; exact ln, own, ow.free, ow.cell, fun j s e => ?_⟩
  rcases slot_other e with ⟨rfl, rfl, _⟩ | ⟨hj, e⟩
  · trivial
  · exact ow.slots j s e
theorem at3 (a : Fin 3 → Addr) {z : Int} (h0 : 0 ≤ z) (h1 : z < 3) : ∃ k : Fin 3, L2.atI [V.ref (a 0), .ref (a 1), .ref (a 2)] z = some (.ref (a k)) := by
  obtain ⟨k, rfl⟩ := Int.eq_ofNat_of_zero_le h0
  match k, h1 with
  | 0, _ => exact ⟨0, rfl⟩
  | 1, _ => exact ⟨1, rfl⟩
  | 2, _ => exact ⟨2, rfl⟩
  | n + 3, h => omega
theorem tS_pcs {B : Hp} {σ : L2.St} {H : Hp} {i j : Nat} {x nm : Str} {iter ec : Expr} {pn p1 p2 q1 apos cpos epos fpos : Pos} {rest : List Stmt} {D : GEnds} {cs : List Nm} {p : Addr} {a : Fin 3 → Addr} (pl : PlainG G) (E : Env C.d B G σ H) (P : Pcs B H p a (fun _ => [])) (hσ : σ[i]? = some (some (.ref p))) (hij : j ≠ i)
    (hi : EvI C G (.Name nm pn) iter (· = cs)) (hl : cs.length ≤ 1000) (hj : j < G.length) (hset : G.set j .no = G) (he : ∀ c : Nm, EvR C (G.set j (.im c)) ec (.im fun z : Int => 0 ≤ z ∧ z < 3))
    (k : ∀ σ H x, Env C.d B G σ H → Pcs B H p a x → (∀ k, (x k).Sublist cs) → σ[i]? = some (some (.ref p)) → tSs C rest (ends C.d B D) σ H)
    (hN : C.N[i]? = some x := by rfl) (hv : Vis C.sc x := by first | exact Or.inl rfl | exact Or.inr (Or.inl rfl) | exact Or.inr (Or.inr rfl)) (hd : (x == ("__debug__" : Str)) = false := by decide) (hcd : (x == ("__classdict__" : Str)) = false := by decide)
    (hM : C.N[j]? = some nm := by rfl) (hx : Sto C nm := by first | exact Or.inl rfl | exact Or.inr ⟨rfl, rfl⟩) (hv2 : Vis C.sc nm := by first | exact Or.inl rfl | exact Or.inr (Or.inl rfl) | exact Or.inr (Or.inr rfl)) (hd2 : (nm == ("__debug__" : Str)) = false := by decide) (hcd2 : (nm == ("__classdict__" : Str)) = false := by decide)
    (hf : ∀ env x, foldedSetIterable iter env x = pure x := by intro _ _; rfl) (hpl : PlainIx ec := by exact fun _ _ => rfl)
    (hs : ∀ env, swapsWith (.Call (.Attribute (.Subscript (.Name x p1) ec q1) "append" apos) [.Name nm p2] [] cpos) none epos.line env = pure false := by intro _; rfl)
    (hbase : ∀ env, attributeBase (.Subscript (.Name x p1) ec q1) "append" env (eval (.Subscript (.Name x p1) ec q1) env) = eval (.Subscript (.Name x p1) ec q1) env := by intro _; rfl)
    (hfew : ∀ env, ((backTo cpos (starEach [.Name nm p2] env)).all (fun x => !x.1) && (backToKw cpos (keywordEach [] env)).all (fun x => x.1.isSome)
      && decide (([.Name nm p2] : List Expr).length + ([] : List Keyword).length + (if ([] : List Keyword).isEmpty then 0 else 1) < 30)) = true := by intro _; rfl)
    (hline : (apos.endLine == cpos.line) = true := by rfl) (hst : ∀ env, starEach [.Name nm p2] env = (false, eval (.Name nm p2) env) :: starEach [] env := by intro _; rfl) (hpl2 : ∀ env, (backTo cpos (starEach [] env)).any (·.1) = false := by intro _; rfl) :
    tSs C (.For (.Name nm pn) iter [.Expr (.Call (.Attribute (.Subscript (.Name x p1) ec q1) "append" apos) [.Name nm p2] [] cpos) epos] [] fpos :: rest) (ends C.d B D) σ H := by
  refine tSs_of (t := tSeq (tFor (tI C (.Name nm pn) iter) (gName j) (tSeq (tDrop (tBM C.T.K "list" rAppend (tOp (rIx C.T.K) (tVar i) (tE C ec)) (tCons (tVar j) tNil))) (tSs C []))) (tSs C rest)) (fun X ok => pss_cons (ps_for (never ok) ok.calm (pi_tI ok) (pg_name (by rw [ok.N]; exact ok.nd) (by rw [ok.N]; exact hM) (hx.loc ok) (hx.fn ok)) (pss_cons (ps_expr (by
    rw [← ok.K]
    exact pe_bm F.plainAttrs_list F.slot_list_append F.type_list_append mt_append (pe_ix ix_seq (pe_var (i := i) (by rw [ok.N]; exact hN) (by rw [ok.sc]; exact hv) hd hcd) (pe_tE ok) hpl) (pa_cons (pe_var (i := j) (by rw [ok.N]; exact hM) (by rw [ok.sc]; exact hv2) hd2 hcd2) pa_nil (hst _)) (hbase _) (hfew _) hline (hst _) (hpl2 _)) (hs _)) (pss_tS ok)) (hf _)) (pss_tS ok)) ?_
  have D0 := E.dice
  refine hi B σ H (ownP i p a) E.le D0 E.len (owns_pcs pl E P) _ fun J H1 xs cells l e w hcells => ?_
  subst e
  have P1 := P.go D0 l
  refine for_it (w.2 (fun H' => TLe H1 H' ∧ ∀ b ∈ cells, H' b = H1 b) fun H' k => k) (fun t σ' H' => ∃ x, Env C.d B G σ' H' ∧ Pcs B H' p a x ∧ (∀ k, (x k).Sublist (xs.take t)) ∧ σ'[i]? = some (some (.ref p)) ∧ TLe H1 H' ∧ ∀ b ∈ cells, H' b = H1 b)
    ⟨_, E.go l, P1, fun k => List.nil_sublist _, hσ, TLe.refl _, fun b _ => rfl⟩ (fun t σ' H' _ ⟨_, _, _, _, _, h⟩ => h) ?_ ?_
  · rintro t v σ' H' H'' hlt ⟨x, E1, P2, hsub, hσ', tl, hc⟩ ⟨sm, c, hx', r⟩
    have l2 : Le C.d H' H'' := Le.of_same sm
    have E2 := (E1.go l2).set_im (i := j) hj r
    have hσ2 : (σ'.set j (some v))[i]? = some (some (.ref p)) := by rw [List.getElem?_set_ne hij]; exact hσ'
    have ev : v = .str c.s := r
    refine ⟨_, hσ2, he c B _ H'' E2 _ fun z0 H2 ⟨l3, z, ⟨hz0, hz1⟩, rz⟩ => ?_⟩
    obtain ⟨kk, hat⟩ := at3 a hz0 hz1
    have P3 := (P2.go D0 l2).go D0 l3
    have E3 := (E2.go l3).forget (i := j)
    rw [List.set_set, hset] at E3
    refine .inl ⟨p, _, z, _, rfl, rz, .inl (.inl P3.pat), hat, ?_⟩
    have hlen : (x kk).length ≤ 1000 := by
      have h1 := (hsub kk).length_le
      rw [List.length_take] at h1
      omega
    refine ⟨.inl ⟨rfl, _, .inl (.inl (P3.at_ kk))⟩, v, by rw [List.getElem?_set_self (by rw [E1.len]; exact hj)], ?_⟩
    refine ⟨a kk, sV (x kk), v, rfl, rfl, P3.at_ kk, by unfold sV; rw [List.length_map, sizeLine_eq]; omega, ?_⟩
    have tl4 : TLe H2 (upd H2 (a kk) (.lst (sV (x kk) ++ [v]))) := TLe.upd fun o ho => by rw [P3.at_ kk] at ho; cases ho; exact id
    have hsv : sV (x kk ++ [c]) = sV (x kk) ++ [v] := by unfold sV; rw [List.map_append, ev]; rfl
    have htk : xs.take (t + 1) = xs.take t ++ [c] := by rw [List.take_add_one, hx']; rfl
    refine tSs_of (fun X ok => pss_nil) ⟨fun k' => if k' = kk then x kk ++ [c] else x k', E3.plain pl (E3.le.mut (P3.fr kk)) tl4, ⟨⟨P3.fr, P3.ne, fun k' => ?_⟩, P3.pf, P3.pn, (upd_ne (P3.pn kk)).trans P3.pat⟩, fun k' => ?_, hσ2, ((tl.trans l2.tle).trans l3.tle).trans tl4, fun b hb => ?_⟩
    · by_cases hk : k' = kk
      · subst hk
        rw [upd_same, if_pos rfl, hsv]
      · rw [upd_ne (P3.ne k' kk hk), if_neg hk]
        exact P3.at_ k'
    · by_cases hk : k' = kk
      · subst hk
        show (if k' = k' then _ else _ : List Nm).Sublist _
        rw [if_pos rfl, htk]
        exact (hsub k').append (List.Sublist.refl _)
      · show (if k' = kk then _ else _ : List Nm).Sublist _
        rw [if_neg hk, htk]
        exact (hsub k').trans (List.sublist_append_left _ _)
    · obtain ⟨g1, g2, o, g3⟩ := hcells b hb
      have hne := (ownP_ne g1).2 kk
      rw [upd_ne hne]
      have h4 : H' b = some o := by rw [hc b hb]; exact g3
      rw [g3]
      exact l3.keep (l2.keep h4 g2) g2
  · rintro σ' H' ⟨x, E1, P2, hsub, hσ', _⟩
    rw [List.take_length] at hsub
    exact k σ' H' x E1 P2 hsub hσ'
theorem plainG_set {i : Nat} {s : Slot} (pl : PlainG G) (h : plainS s) : PlainG (G.set i s) := fun j s' e => by
  rcases slot_other e with ⟨_, rfl, _⟩ | ⟨_, e⟩
  · exact h
  · exact pl j s' e
theorem plainG_wipe (pl : PlainG G) : ∀ vs : List Nat, PlainG (wipeG G vs)
  | [] => pl
  | v :: vs => plainG_set (plainG_wipe pl vs) trivial
def PartOf (cs s : List Nm) : Prop := s ≠ [] ∧ s.Sublist cs
theorem tS_pcl {B : Hp} {σ : L2.St} {H : Hp} {i ia ib ic iat ipc : Nat} {x na nb nc nat npc : Str} {elt : Expr} {pa pb pc pt ppat ppc tp ep cp lpos pos xp : Pos} {kt k2 : Nat} {scope : Scope} {own : List (Str × Nat)} {rest : List Stmt} {D : GEnds} {cs : List Nm} {p : Addr} {a : Fin 3 → Addr} {xs : Fin 3 → List Nm} (bl : Blt C.T)
    (pl : PlainG G) (E : Env C.d B G σ H) (P : Pcs B H p a xs) (hσ : σ[i]? = some (some (.ref p))) (hxs : ∀ k, (xs k).Sublist cs) (hl : G.length = C.N.length) (ok : blkC C.N C.sc scope own = true) (hw : iat ∈ own.map (·.2) ∧ ipc ∈ own.map (·.2)) (hap : iat ≠ ipc)
    (he : ∀ (t : Nat) (s : List Nm), t < 3 → s.Sublist cs → EvR (C.blk scope) (((wipeG G (own.map (·.2))).set iat (.im (t : Int))).set ipc (.ro s)) elt (.im (PartOf cs)))
    (k : ∀ s0 s1 s2, PartOf cs s0 → PartOf cs s1 → PartOf cs s2 → Run C (((G.set ia (.im s0)).set ib (.im s1)).set ic (.im s2)) rest D)
    (hN : C.N[i]? = some x := by rfl) (hv : Vis C.sc x := by first | exact Or.inl rfl | exact Or.inr (Or.inl rfl) | exact Or.inr (Or.inr rfl)) (hd : (x == ("__debug__" : Str)) = false := by decide) (hcd : (x == ("__classdict__" : Str)) = false := by decide)
    (hA : C.N[ia]? = some na := by rfl) (hB : C.N[ib]? = some nb := by rfl) (hC : C.N[ic]? = some nc := by rfl) (hxa : Sto C na := by first | exact Or.inl rfl | exact Or.inr ⟨rfl, rfl⟩) (hxb : Sto C nb := by first | exact Or.inl rfl | exact Or.inr ⟨rfl, rfl⟩) (hxc : Sto C nc := by first | exact Or.inl rfl | exact Or.inr ⟨rfl, rfl⟩)
    (hT : (C.blk scope).N[iat]? = some nat := by rfl) (hP : (C.blk scope).N[ipc]? = some npc := by rfl) (hxt : Sto (C.blk scope) nat := by first | exact Or.inl rfl | exact Or.inr ⟨rfl, rfl⟩) (hxp : Sto (C.blk scope) npc := by first | exact Or.inl rfl | exact Or.inr ⟨rfl, rfl⟩)
    (hg : C.sc.names.lookup ("enumerate" : Str) = some .globalImplicit := by rfl)
    (hs : ∀ env, swapsWithSole [.Tuple [.Name na pa, .Name nb pb, .Name nc pc] kt pt] (.ListComp elt [⟨.Tuple [.Name nat ppat, .Name npc ppc] k2 tp, .Call (.Name "enumerate" ep) [.Name x xp] [] cp, [], 0⟩] scope lpos) pos.line env = pure false := by intro _; rfl)
    (hw2 : ∀ env, swappedStores [.Tuple [.Name na pa, .Name nb pb, .Name nc pc] kt pt] (.ListComp elt [⟨.Tuple [.Name nat ppat, .Name npc ppc] k2 tp, .Call (.Name "enumerate" ep) [.Name x xp] [] cp, [], 0⟩] scope lpos) env = pure none := by intro _; rfl)
    (hf : ∀ env x', foldedSetIterable (.Call (.Name "enumerate" ep) [.Name x xp] [] cp) env x' = pure x' := by intro _ _; rfl) :
    tSs C (.Assign [.Tuple [.Name na pa, .Name nb pb, .Name nc pc] kt pt] (.ListComp elt [⟨.Tuple [.Name nat ppat, .Name npc ppc] k2 tp, .Call (.Name "enumerate" ep) [.Name x xp] [] cp, [], 0⟩] scope lpos) pos :: rest) (ends C.d B D) σ H := by
  refine tSs_of (t := tSeq (tAsg (tLc (iEnum C.T.K (tCons (tVar i) tNil)) (gTup C.T.K 2 (gCons (gName iat) (gCons (gName ipc) gNil))) tYes (tE (C.blk scope) elt) (own.map (·.2))) (gLst C.T.K 3 (gCons (gName ia) (gCons (gName ib) (gCons (gName ic) gNil))))) (tSs C rest)) (fun X okX => pss_cons (ps_asg (pe_lc okX.calm (by rw [okX.N]; exact okX.nd)
      (by rw [← okX.K]; exact pi_enum (gl_of okX hg) (by rw [okX.mg]; exact bl.enumerate) (pa_cons (pe_var (i := i) (by rw [okX.N]; exact hN) (by rw [okX.sc]; exact hv) hd hcd) pa_nil rfl) rfl) (by rw [okX.N, okX.sc]; exact blkOk_by ok)
      (fun s H Ca cl fp => by
        have okB := okX.blk (s := s) (H := H) (scope := scope) (Ca := Ca) (cl := cl) (fp := fp)
        rw [← okX.K]
        exact pg_tup okB.calm (pgs_cons (pg_name (by rw [okB.N]; exact okB.nd) (by rw [okB.N]; exact hT) (hxt.loc okB) (hxt.fn okB)) (pgs_cons (pg_name (by rw [okB.N]; exact okB.nd) (by rw [okB.N]; exact hP) (hxp.loc okB) (hxp.fn okB)) pgs_nil)))
      (fun s H Ca cl fp => pts_nil) (fun s H Ca cl fp => pe_tE okX.blk) (hf _))
    (by rw [← okX.K]; exact pg_lst okX.calm (pgs_cons (pg_name (by rw [okX.N]; exact okX.nd) (by rw [okX.N]; exact hA) (hxa.loc okX) (hxa.fn okX)) (pgs_cons (pg_name (by rw [okX.N]; exact okX.nd) (by rw [okX.N]; exact hB) (hxb.loc okX) (hxb.fn okX)) (pgs_cons (pg_name (by rw [okX.N]; exact okX.nd) (by rw [okX.N]; exact hC) (hxc.loc okX) (hxc.fn okX)) pgs_nil)))) (hs _) (hw2 _)) (pss_tS okX)) ?_
  have D0 := E.dice
  refine ⟨_, hσ, p, _, rfl, .inl (.inl P.pat), fun Da hD => ?_⟩
  have lD : Le C.d H (upd H Da (.lst [])) := Le.new hD
  have D1 : C.d ≠ some Da := fun z => by
    obtain ⟨o, h1, _⟩ := (D0.le E.le) Da z
    rw [hD] at h1
    cases h1
  refine lc_it (walk_enum (K := C.T.K) (a := p) (xs := [.ref (a 0), .ref (a 1), .ref (a 2)])) (fun t H' => Le C.d H H' ∧ ∃ acc ys, H' Da = some (.lst acc) ∧ acc.length = t ∧ Reps H' acc ys ∧ ∀ y ∈ ys, PartOf cs y) ⟨lD, [], [], upd_same, rfl, trivial, by simp⟩ (fun t H' _ h => .inl (.inl (P.go D0 h.1).pat)) ?_ ?_
  · rintro t v H' H'' hlt ⟨l, acc, ys, hA, hal, hr, hy⟩ ⟨Tu, xv, yv, rfl, hT', rfl, e1, e2⟩
    have hlt : t < 3 := hlt
    obtain ⟨kk, ek⟩ : ∃ kk : Fin 3, yv = .ref (a kk) := by
      match t, hlt, e2 with
      | 0, _, e2 => cases e2; exact ⟨0, rfl⟩
      | 1, _, e2 => cases e2; exact ⟨1, rfl⟩
      | 2, _, e2 => cases e2; exact ⟨2, rfl⟩
    cases e1
    subst ek
    have l2 : Le C.d H (upd H' Tu (.tup [.int (t : Int), .ref (a kk)])) := l.trans (Le.new hT')
    refine ⟨Tu, _, rfl, .inl (.inl upd_same), rfl, _, _, rfl, _, _, rfl, rfl, ?_⟩
    have E1 := (E.go l2).wipe (own.map (·.2))
    have hl1 : (wipeG G (own.map (·.2))).length = G.length := wipeG_length _
    have hit : iat < G.length := by rw [hl]; exact (List.getElem?_eq_some_iff.mp hT).1
    have hip : ipc < G.length := by rw [hl]; exact (List.getElem?_eq_some_iff.mp hP).1
    have E2 := E1.set_im (i := iat) (x := (t : Int)) (by rw [hl1]; exact hit) (rfl : rep _ (.int (t : Int)) (t : Int))
    have P2 := P.go D0 l2
    have E3 := Env.plain_ro (xs := xs kk) (i := ipc) (plainG_set (s := .im (t : Int)) (plainG_wipe pl _) trivial) E2 (by rw [List.length_set, hl1]; exact hip) (D0.ne (P.fr kk)) (P2.at_ kk) (reps_nm.mpr rfl)
    refine ⟨by rw [wipe_set hw.2, wipe_set hw.1, wipe_wipe], ?_⟩
    unfold tYes
    show ite _ _ _
    rw [if_pos rfl]
    refine he t (xs kk) hlt (hxs kk) B _ _ E3 _ fun y H4 ⟨l4, s, ps, rs⟩ => ?_
    have l3 : Le C.d H' H4 := (Le.new hT').trans l4
    have hA4 : H4 Da = some (.lst acc) := l3.keep hA D1
    have tl : TLe H4 (upd H4 Da (.lst (acc ++ [y]))) := TLe.upd fun o ho => by rw [hA4] at ho; cases ho; exact id
    refine ⟨acc, hA4, by rw [hal, sizeLine_eq]; omega, (l.trans l3).mut hD, acc ++ [y], ys ++ [s], upd_same, by rw [List.length_append, hal]; rfl, ((hr.keep l3.tle).keep tl).app (.one (Im.keep tl rs)), fun z hz => ?_⟩
    rcases List.mem_append.mp hz with q | q
    · exact hy z q
    · rw [List.mem_singleton.mp q]; exact ps
  · rintro H' ⟨l, acc, ys, hA', hal, hr, hy⟩
    have hal : acc.length = 3 := hal
    refine ⟨Da, acc, rfl, .inl (.inl hA'), hal, ?_⟩
    match acc, ys, hal, hr with
    | [v0, v1, v2], [s0, s1, s2], _, ⟨r0, r1, r2, _⟩ =>
      refine ⟨_, _, rfl, _, _, rfl, _, _, rfl, rfl, ?_⟩
      have ha : ia < G.length := by rw [hl]; exact (List.getElem?_eq_some_iff.mp hA).1
      have hb : ib < G.length := by rw [hl]; exact (List.getElem?_eq_some_iff.mp hB).1
      have hc : ic < G.length := by rw [hl]; exact (List.getElem?_eq_some_iff.mp hC).1
      exact k s0 s1 s2 (hy s0 (by simp)) (hy s1 (by simp)) (hy s2 (by simp)) B _ H' ((((E.go l).set_im ha r0).set_im (by rw [List.length_set]; exact hb) r1).set_im (by rw [List.length_set, List.length_set]; exact hc) r2)
    | [_, _, _], [], _, h => exact h.elim
    | [_, _, _], [_], _, h => exact h.2.elim
    | [_, _, _], [_, _], _, h => exact h.2.2.elim
    | [_, _, _], _ :: _ :: _ :: _ :: _, _, h => exact h.2.2.2.elim
theorem run_par3 {i j l : Nat} {x y z : Str} {e f g : Expr} {px py pz pt pt2 pos : Pos} {kt k2 : Nat} {α : Type} [Im α] {s0 s1 s2 : α} {rest : List Stmt} {D : GEnds} (h0 : EvR C G e (.im (· = s0))) (h1 : EvR C G f (.im (· = s1))) (h2 : EvR C G g (.im (· = s2))) (k : Run C (((G.set i (.im s0)).set j (.im s1)).set l (.im s2)) rest D)
    (hi : i < G.length := by exact Nat.le_of_ble_eq_true rfl) (hj : j < G.length := by exact Nat.le_of_ble_eq_true rfl) (hl : l < G.length := by exact Nat.le_of_ble_eq_true rfl) (hij : i ≠ j := by decide) (hil : i ≠ l := by decide) (hjl : j ≠ l := by decide)
    (hN : C.N[i]? = some x := by rfl) (hM : C.N[j]? = some y := by rfl) (hO : C.N[l]? = some z := by rfl) (hx : C.sc.names.lookup x = some .local := by rfl) (hy : C.sc.names.lookup y = some .local := by rfl) (hz : C.sc.names.lookup z = some .local := by rfl)
    (hs1 : ∀ env, starEach [e, f, g] env = (false, eval e env) :: starEach [f, g] env := by intro _; rfl) (hs2 : ∀ env, starEach [f, g] env = (false, eval f env) :: starEach [g] env := by intro _; rfl) (hs3 : ∀ env, starEach [g] env = (false, eval g env) :: starEach [] env := by intro _; rfl)
    (hw : ∀ env : PySem.Env, env.scope = C.sc → swappedStores [.Tuple [.Name x px, .Name y py, .Name z pz] kt pt] (.Tuple [e, f, g] k2 pt2) env = pure (some [x, y, z]) := by (intro env e; cases env; cases e; rfl))
    (hs : ∀ env, swapsWithSole [.Tuple [.Name x px, .Name y py, .Name z pz] kt pt] (.Tuple [e, f, g] k2 pt2) pos.line env = pure false := by intro _; rfl) :
    Run C G (.Assign [.Tuple [.Name x px, .Name y py, .Name z pz] kt pt] (.Tuple [e, f, g] k2 pt2) pos :: rest) D := fun B σ H E => by
  refine tSs_of (t := tSeq (tPar3 i j l (tCons (tE C e) (tCons (tE C f) (tCons (tE C g) tNil)))) (tSs C rest)) (fun X ok => pss_cons (ps_par3 ok.calm (by rw [ok.N]; exact ok.nd) (by rw [ok.N]; exact hN) (by rw [ok.N]; exact hM) (by rw [ok.N]; exact hO) hij hil hjl (by rw [ok.sc]; exact hx) (by rw [ok.sc]; exact hy) (by rw [ok.sc]; exact hz) (pa_cons (pe_tE ok) (pa_cons (pe_tE ok) (pa_cons (pe_tE ok) pa_nil (hs3 _)) (hs2 _)) (hs1 _)) (hw _ ok.sc) (hs _)) (pss_tS ok)) ?_
  refine h0 B σ H E _ fun v0 H0 ⟨l0, _, e0, r0⟩ => h1 B σ H0 (E.go l0) _ fun v1 H1 ⟨l1, _, e1, r1⟩ => h2 B σ H1 ((E.go l0).go l1) _ fun v2 H2 ⟨l2, _, e2, r2⟩ => ⟨v0, v1, v2, rfl, ?_⟩
  subst e0 e1 e2
  exact k B _ H2 ((((((E.go l0).go l1).go l2).set_im hi (Im.keep (l1.trans l2).tle r0)).set_im (by rw [List.length_set]; exact hj) (Im.keep l2.tle r1)).set_im (by rw [List.length_set, List.length_set]; exact hl) r2)
end Mk
-- MkSr
namespace Mk
open Im (rep)
open PySem PySem.Spec PyProof.Rows L2
variable {T : Tx}
theorem rok_part {cs s t : List Nm} (hc : Cols cs) (h1 : s.Sublist cs) (h2 : PartOf cs t) : ROk cs (s, t) := rok_of hc h1 h2
theorem sc_small_rules : FnScope ["_law_dice_here", "_law_columns_here", "_law_pieces", "_law_name", "_law_a", "_law_b", "_law_c", "_law_ab", "_law_ac", "_law_bc", "_law_way", "_law_at", "_law_piece"] ["_law_dice_here", "_law_columns_here"] (defScope (top 73)) := ⟨rfl, rfl, rfl, by decide +kernel, rfl, by decide +kernel, by decide +kernel⟩
theorem ok_small_rules (h : Top T) : Fn T 2 "_law_small_rules" (spC (β := List Nm) true (fun b => [.di, .im b]) (fun b => Cols b ∧ 2 < b.length) (fun b => .ls (RsOk b 8))) := by
  refine def_ok (at_law_small_rules h) sc_small_rules (fun _ _ _ _ _ _ us hl => match us, hl with | [_, _], _ => rfl) (fun b => rfl) fun cs d hd hp => ?_
  obtain ⟨h1, h2⟩ := hp
  have h4 := h1.len
  have pl : PlainG ([.di, .im cs, .no, .no, .no, .no, .no, .no, .no, .no, .no, .no, .no] : List Slot) := by
    repeat (first | exact plainG_nil | refine plainG_cons trivial ?_)
  refine run_pcs (i := 2) (Nat.le_of_ble_eq_true rfl) fun B σ H E p a P hσ => ?_
  refine tS_pcs pl E P hσ (i := 2) (j := 3) (by decide) (ei_tup ((ev_var (i := 1) rfl))) (by omega) (Nat.le_of_ble_eq_true rfl) rfl (fun c => ev_pull h (i := 0) rfl (ev_int (i := 3)) (by decide)) fun σ H x E P hxs hσ => ?_
  refine tS_pcl (i := 2) (ia := 4) (ib := 5) (ic := 6) (iat := 11) (ipc := 12) (own := [("_law_at", 11), ("_law_piece", 12)]) (blt h) pl E P hσ hxs rfl (by kernel_rfl) (by decide) (by decide) (fun t s ht hs => ?_) fun s0 s1 s2 p0 p1 p2 => ?_
  · refine ev_ifExp (ev_neL (el_ro (i := 12) (xs := s) rfl) (el_ls (ev_lst0 (α := Nm)))).t (fun hx => (ev_tuple (P := (· = s)) (blt h) (es_ro (i := 12) rfl)).imp fun z e => ?_) (fun hx => (ev_tup1 (P := (· ∈ cs)) (ev_ix (P := (· = cs)) (S := (· = (t : Int))) (es_im ((ev_var (i := 1) rfl))) (ev_var (i := 11) (a := (t : Int)) rfl) fun ys n e1 e2 => ?_)).imp fun z ⟨c, hc, e⟩ => ?_)
    · subst e
      exact ⟨by simpa using hx, hs⟩
    · subst e1 e2
      have hlt : t < ys.length := by omega
      exact ⟨_, atI_nat (List.getElem?_eq_getElem hlt), List.getElem_mem hlt⟩
    · subst e
      exact ⟨by simp, List.singleton_sublist.mpr hc⟩
  refine run_par3 (i := 7) (j := 8) (l := 9) (s0 := joined cs s0 s1) (s1 := joined cs s0 s2) (s2 := joined cs s1 s2) (ev_call (ok_law_joined h) (cs, s0, s1) (ea_var (i := 1) (s := .im cs) rfl (ea_var (i := 4) (s := .im s0) rfl (ea_var (i := 5) (s := .im s1) rfl ea_nil))) rfl trivial)
    (ev_call (ok_law_joined h) (cs, s0, s2) (ea_var (i := 1) (s := .im cs) rfl (ea_var (i := 4) (s := .im s0) rfl (ea_var (i := 6) (s := .im s2) rfl ea_nil))) rfl trivial)
    (ev_call (ok_law_joined h) (cs, s1, s2) (ea_var (i := 1) (s := .im cs) rfl (ea_var (i := 5) (s := .im s1) rfl (ea_var (i := 6) (s := .im s2) rfl ea_nil))) rfl trivial) ?_
  refine run_setP (i := 10) (P := fun _ : Int => True) (ev_any1 (ev_pull h (i := 0) rfl (ev_int (i := 4)) (by decide))) fun w _ => ?_
  have two : ∀ {r q : Rule}, ROk cs r → ROk cs q → RsOk cs 8 [r, q] := fun a b => ⟨by simp, fun r hr => by
    rcases List.mem_cons.mp hr with e | hr
    · rw [e]; exact a
    · rw [List.mem_singleton.mp hr]; exact b⟩
  refine run_ifP (P := fun _ => True) (ev_eqA (ev_var (i := 10) (a := w) rfl) ev_int).t (fun _ => ?_) (fun _ => run_nil ?_)
  · refine run_ret (ev_lstL (α := Rule) (ea_im (ev_pairE (ev_var (i := 4) (a := s0) rfl) (ev_var (i := 6) (a := s2) rfl)) (ea_im (ev_pairE (ev_var (i := 5) (a := s1) rfl) (ev_var (i := 6) (a := s2) rfl)) ea_nil)) fun ss e => ⟨[(s0, s2), (s1, s2)], e, two (rok_part h1 p0.2 p2) (rok_part h1 p1.2 p2), by simp⟩)
  refine run_ifP (P := fun _ => True) (ev_eqA (ev_var (i := 10) (a := w) rfl) ev_int).t (fun _ => ?_) (fun _ => run_nil ?_)
  · refine run_ret (ev_lstL (α := Rule) (ea_im (ev_pairE (ev_var (i := 4) (a := s0) rfl) (ev_var (i := 5) (a := s1) rfl)) (ea_im (ev_pairE (ev_var (i := 5) (a := s1) rfl) (ev_var (i := 6) (a := s2) rfl)) ea_nil)) fun ss e => ⟨[(s0, s1), (s1, s2)], e, two (rok_part h1 p0.2 p1) (rok_part h1 p1.2 p2), by simp⟩)
  refine run_ret (ev_ifExp (x := decide (w = 2)) (ev_eqD (ev_var (i := 10) (a := w) rfl) ev_int).t (fun _ => ?_) (fun _ => ?_))
  · exact ev_lstL (α := Rule) (ea_im (ev_pairE (ev_var (i := 7) (a := joined cs s0 s1) rfl) (ev_var (i := 6) (a := s2) rfl)) (ea_im (ev_pairE (ev_var (i := 6) (a := s2) rfl) (ev_var (i := 5) (a := s1) rfl)) ea_nil)) fun ss e => ⟨[(joined cs s0 s1, s2), (s2, s1)], e, two (rok_part h1 (joined_sub _ _ _) p2) (rok_part h1 p2.2 p1), by simp⟩
  · refine ev_lstL (α := Rule) (ea_im (ev_pairE (ev_var (i := 7) (a := joined cs s0 s1) rfl) (ev_var (i := 6) (a := s2) rfl)) (ea_im (ev_pairE (ev_var (i := 8) (a := joined cs s0 s2) rfl) (ev_var (i := 5) (a := s1) rfl)) (ea_im (ev_pairE (ev_var (i := 9) (a := joined cs s1 s2) rfl) (ev_var (i := 4) (a := s0) rfl)) ea_nil))) fun ss e => ⟨[(joined cs s0 s1, s2), (joined cs s0 s2, s1), (joined cs s1 s2, s0)], e, ⟨by simp, fun r hr => ?_⟩, by simp⟩
    rcases List.mem_cons.mp hr with e | hr
    · rw [e]; exact rok_part h1 (joined_sub _ _ _) p2
    · rcases List.mem_cons.mp hr with e | hr
      · rw [e]; exact rok_part h1 (joined_sub _ _ _) p1
      · rw [List.mem_singleton.mp hr]; exact rok_part h1 (joined_sub _ _ _) p0
end Mk
-- MkLr
namespace Mk
open Im (rep)
open PySem PySem.Spec PyProof.Rows L2
variable {T : Tx}
section
variable {C : Cg} {G : List Slot}
theorem Env.roB {d : Option Addr} {B H : Hp} {σ : L2.St} {α : Type} [Im α] {xs : List α} {i : Nat} (E : Env d B G σ H) (e : G[i]? = some (.ls xs)) : Env d B (G.set i (.ro xs)) σ H := by
  obtain ⟨p, vs, h1, h0, h2, h3, h4, h5⟩ := E.ls e
  obtain ⟨le, D, ln, own, h⟩ := E
  have hp := h5 own h
  let own' : Addr → Option Nat := fun a => if a = p then none else own a
  have o1 : ∀ {a}, own a = none → own' a = none := fun {a} z => by show (if a = p then none else own a) = none; split <;> first | rfl | exact z
  have o2 : ∀ {a j}, j ≠ i → own a = some j → own' a = some j := fun {a j} hj z => by
    show (if a = p then none else own a) = some j
    rw [if_neg (fun q => by rw [q, hp] at z; exact hj (Option.some.inj z).symm)]
    exact z
  refine ⟨le, D, by rw [List.length_set]; exact ln, own', fun a z => o1 (h.free a z), fun a j z => ?_, fun j s z => ?_⟩
  · have z' : (if a = p then none else own a) = some j := z
    by_cases q : a = p
    · rw [if_pos q] at z'; cases z'
    · rw [if_neg q] at z'; exact h.cell a j z'
  · rcases slot_other z with ⟨rfl, rfl, _⟩ | ⟨hj, z⟩
    · exact ⟨p, vs, join_some.mpr h1, if_pos rfl, h2, h3, h4⟩
    · have hs := h.slots j s z
      cases s with
      | no => exact hs
      | im x => exact hs
      | ro ys => obtain ⟨a, ws, g1, g2, g3⟩ := hs; exact ⟨a, ws, g1, o1 g2, g3⟩
      | ls ys => obtain ⟨a, ws, g1, g2, g3, g4⟩ := hs; exact ⟨a, ws, g1, g2, o2 hj g3, g4⟩
      | dk ys => obtain ⟨a, ws, g1, g2, g3, g4⟩ := hs; exact ⟨a, ws, g1, g2, o2 hj g3, g4⟩
      | rk ys => obtain ⟨a, ws, g1, g2, g3⟩ := hs; exact ⟨a, ws, g1, o1 g2, g3⟩
      | dt ys => obtain ⟨a, ws, g1, g2, g3, g4⟩ := hs; exact ⟨a, ws, g1, g2, o2 hj g3, g4⟩
      | di => exact hs
      | ob a c dx fs P => obtain ⟨g1, g2, g3, g4⟩ := hs; exact ⟨g1, g2, o2 hj g3, g4⟩
      | fz a u P => obtain ⟨g1, g2, g3⟩ := hs; exact ⟨g1, o1 g2, g3⟩
theorem Run.ro {α : Type} [Im α] {xs : List α} {i : Nat} {sts : List Stmt} {D : GEnds} (e : G[i]? = some (.ls xs)) (h : Run C (G.set i (.ro xs)) sts D) : Run C G sts D := fun B σ H E => h B σ H (E.roB e)
theorem ew_andP {a b : Expr} {rest : List Expr} {pos : Pos} {P Q : Bool → Prop} (h1 : EvT C G a Q) (hx : P false) (h2 : EvW C G (.BoolOp .And (b :: rest) pos) P) : EvW C G (.BoolOp .And (a :: b :: rest) pos) P := fun B σ H E Qq q => by
  refine tW_of (t := tAnd (tT C a) (tW C (.BoolOp .And (b :: rest) pos))) (fun X ok => pw_and (pt_tT ok) (pw_tW ok)) ?_
  refine h1 B σ H E _ fun z H1 l p => ?_
  cases z with
  | true => exact iteT (h2 B σ H1 (E.go l) _ fun u H2 l2 p2 => q u H2 (l.trans l2) p2)
  | false => exact iteF (q false H1 l hx)
theorem ev_free (h : Top T) {i j : Nat} {x y : Str} {e f : Expr} {p q r pos : Pos} {cs : List Nm} {P : List Nm → Prop} {R : Int → Prop} (hG : G[i]? = some .di) (hG2 : G[j]? = some (.im cs)) (he : EvR C G e (.im P)) (hf : EvR C G f (.im R)) (hR : ∀ z, R z → 0 ≤ z ∧ z ≤ 8) (hc : Cols cs) (hne : cs ≠ []) (hk : 4 ≤ C.k := by exact Nat.le_of_ble_eq_true rfl)
    (hN : C.N[i]? = some x := by rfl) (hv : Vis C.sc x := by first | exact Or.inl rfl | exact Or.inr (Or.inl rfl) | exact Or.inr (Or.inr rfl)) (hd : (x == ("__debug__" : Str)) = false := by decide) (hcd : (x == ("__classdict__" : Str)) = false := by decide)
    (hM : C.N[j]? = some y := by rfl) (hv2 : Vis C.sc y := by first | exact Or.inl rfl | exact Or.inr (Or.inl rfl) | exact Or.inr (Or.inr rfl)) (hd2 : (y == ("__debug__" : Str)) = false := by decide) (hcd2 : (y == ("__classdict__" : Str)) = false := by decide)
    (hg : C.sc.names.lookup ("_law_free_rules" : Str) = some .globalImplicit := by rfl) (hs : ∀ env, starEach [e, f] env = (false, eval e env) :: starEach [f] env := by intro _; rfl) (hs2 : ∀ env, starEach [f] env = (false, eval f env) :: starEach [] env := by intro _; rfl) (hpl : ∀ env, (backTo pos (starEach [.Name y r, e, f] env)).any (·.1) = false := by intro _; rfl) (hT : C.T = T := by rfl) :
    EvR C G (.Call (.Name "_law_free_rules" p) [.Name x q, .Name y r, e, f] [] pos) (.ls (RsOk cs 8)) :=
  ep_call (ok_free_rules h) (ea_v (s := .di) hG nofun nofun (ea_v (s := .im cs) hG2 nofun nofun (ea_imP he (ea_imP hf ea_nil hs2) hs) hM hv2 hd2 hcd2) hN hv hd hcd) (fun ss ⟨s1, ⟨s2, ⟨x1, s3, px, ⟨z, s4, pz, e4, e3⟩, e2⟩, e1⟩, e0⟩ => by
    obtain ⟨h0, h8⟩ := hR z pz
    obtain ⟨n, rfl⟩ := Int.eq_ofNat_of_zero_le h0
    refine ⟨(cs, x1, n), by rw [e0, e1, e2, e3, e4]; rfl, ⟨hc, hne, by show n ≤ 8; omega⟩, .inl rfl, fun H v H2 ⟨p, vs, xs, a1, a2, a3, a4, a5, a6⟩ => ⟨p, vs, xs, a1, a2, a3, a4, ?_, a6⟩⟩
    have a5 : xs.length = n := a5
    omega) hk hg hT (by decide) (fun _ => rfl) hpl
end
theorem RsOk.app {cs : List Nm} {m n k : Nat} {rs qs : List Rule} (h1 : RsOk cs m rs) (h2 : RsOk cs n qs) (h : m + n ≤ k) : RsOk cs k (rs ++ qs) := ⟨by rw [List.length_append]; have := h1.1; have := h2.1; omega, fun r hr => (List.mem_append.mp hr).elim (h1.2 r) (h2.2 r)⟩
theorem RsOk.le {cs : List Nm} {m k : Nat} {rs : List Rule} (h1 : RsOk cs m rs) (h : m ≤ k) : RsOk cs k rs := ⟨Nat.le_trans h1.1 h, h1.2⟩
theorem sc_law_rules : FnScope ["_law_dice_here", "_law_columns_here", "_law_way", "_law_left", "_law_found", "_law_base", "_law_right"] ["_law_dice_here", "_law_columns_here"] (defScope (top 74)) := ⟨rfl, rfl, rfl, by decide +kernel, rfl, by decide +kernel, by decide +kernel⟩
theorem ok_law_rules (h : Top T) : Fn T 6 "_law_rules" (spC (β := List Nm) true (fun b => [.di, .im b]) (fun b => Cols b ∧ b ≠ []) (fun b => .ls (RsOk b 9))) := by
  refine def_ok (at_law_rules h) sc_law_rules (fun _ _ _ _ _ _ us hl => match us, hl with | [_, _], _ => rfl) (fun b => rfl) fun cs d hd hp => ?_
  obtain ⟨h1, h2⟩ := hp
  have h1 : Cols cs := h1
  have h2 : cs ≠ [] := h2
  have h4 := h1.len
  have hcl : cs ≠ [] ∧ cs.length ≤ 1000 := ⟨h2, by omega⟩
  refine run_setP (i := 2) (ev_pull h (i := 0) rfl (ev_int (i := 8)) (by decide)) fun w _ => ?_
  refine run_if (b := false) ((ev_eqD (ev_var (i := 1) (a := cs) rfl) (ev_tup0 (α := Nm))).t.to (decide_eq_false h2)) (fun z => by cases z) fun _ => run_nil ?_
  refine run_ifP (P := fun _ => True) (ev_eqA (ev_var (i := 2) (a := w) rfl) ev_int).t (fun _ => ?_) (fun _ => run_nil ?_)
  · exact run_ret ((ev_free h (i := 0) (j := 1) rfl rfl (ev_tup0 (α := Nm)) (ev_pull h (i := 0) rfl (ev_int (i := 3)) (by decide)) (fun z hz => ⟨hz.1, by omega⟩) h1 h2).impL fun rs hr => hr.le (by decide))
  refine run_ifP (P := fun _ => True) (ev_eqA (ev_var (i := 2) (a := w) rfl) ev_int).t (fun _ => ?_) (fun _ => run_nil ?_)
  · exact run_ret ((ev_free h (i := 0) (j := 1) rfl rfl (ev_tup0 (α := Nm)) (ev_add (ev_int (i := 2)) (ev_pull h (i := 0) rfl (ev_int (i := 3)) (by decide))) (fun z ⟨i, j, ei, hj, e⟩ => by subst ei e; omega) h1 h2).impL fun rs hr => hr.le (by decide))
  refine run_ifP (P := fun _ => True) (ev_eqA (ev_var (i := 2) (a := w) rfl) ev_int).t (fun _ => ?_) (fun _ => run_nil ?_)
  · exact run_ret ((ev_free h (i := 0) (j := 1) rfl rfl (ev_tup1 (ev_callD (ok_pickT h) cs (ea_var (i := 0) (s := .di) rfl (ea_var (i := 1) (s := .im cs) rfl ea_nil)) rfl hcl)) (ev_add (ev_int (i := 1)) (ev_pull h (i := 0) rfl (ev_int (i := 3)) (by decide))) (fun z ⟨i, j, ei, hj, e⟩ => by subst ei e; omega) h1 h2).impL fun rs hr => hr.le (by decide))
  refine run_ifP (P := fun _ => True) (ev_eqA (ev_var (i := 2) (a := w) rfl) ev_int).t (fun _ => ?_) (fun _ => run_nil ?_)
  · refine run_setP (i := 3) (P := fun ys : List Nm => ys.Sublist cs) (ev_callD (ok_someT h) (cs, 2) (ea_var (i := 0) (s := .di) rfl (ea_var (i := 1) (s := .im cs) rfl (ea_im (ev_int (i := 2)) ea_nil))) rfl ⟨by show (0 : Int) < 2; decide, by show (2 : Int) < 1073741824; decide⟩) fun l hl => ?_
    refine run_let (i := 4) put_ro (ev_free h (i := 0) (j := 1) rfl rfl (ev_var (i := 3) (a := l) rfl) (ev_int (i := 1)) (fun z e => by omega) h1 h2) fun G' hG => ?_
    obtain ⟨rs, hr, rfl⟩ := hG
    refine run_ret ((ev_catL (P := (· = rs)) (R := RsOk cs 1) (el_ro (i := 4) rfl) (el_ls ((ev_lst1 (P := ROk cs) ((ev_pair (ev_var (i := 3) (a := l) rfl) (ev_callD (ok_right_side h) (cs, l) (ea_var (i := 0) (s := .di) rfl (ea_var (i := 1) (s := .im cs) rfl (ea_var (i := 3) (s := .im l) rfl ea_nil))) rfl hcl)).imp ?_)).impL ?_)) ?_).impL ?_)
    · rintro ⟨x, y⟩ ⟨ex, hy⟩
      have ex : x = l := ex
      subst ex
      exact rok_of h1 hl hy
    · rintro zs ⟨r, hr, rfl⟩
      exact ⟨by simp, fun q hq => by rw [List.mem_singleton.mp hq]; exact hr⟩
    · rintro xs ys rfl hy
      have := hr.1
      have := hy.1
      omega
    · rintro zs ⟨xs, ys, rfl, hy, rfl⟩
      exact hr.app hy (by decide)
  refine run_ifP (P := fun _ => True) (ev_eqA (ev_var (i := 2) (a := w) rfl) ev_int).t (fun _ => ?_) (fun _ => run_nil ?_)
  · refine run_let (i := 4) put_ro ((ev_lst1 (P := ROk cs) ((ev_pair (P := (· = ([] : List Nm))) (ev_tup0 (α := Nm)) (ev_callD (ok_right_side h) (cs, []) (ea_var (i := 0) (s := .di) rfl (ea_var (i := 1) (s := .im cs) rfl (ea_im (ev_tup0 (α := Nm)) ea_nil))) rfl hcl)).imp ?_)).impL (P' := RsOk cs 1) ?_) fun G' hG => ?_
    · rintro ⟨x, y⟩ ⟨ex, hy⟩
      have ex : x = [] := ex
      subst ex
      exact rok_of h1 (List.nil_sublist _) hy
    · rintro zs ⟨r, hr, rfl⟩
      exact ⟨by simp, fun q hq => by rw [List.mem_singleton.mp hq]; exact hr⟩
    obtain ⟨rs, hr, rfl⟩ := hG
    refine run_ret ((ev_catL (P := (· = rs)) (R := RsOk cs 8) (el_ro (i := 4) rfl) (el_ls (ev_free h (i := 0) (j := 1) rfl rfl (ev_tup0 (α := Nm)) (ev_pull h (i := 0) rfl (ev_int (i := 3)) (by decide)) (fun z hz => ⟨hz.1, by omega⟩) h1 h2)) ?_).impL ?_)
    · rintro xs ys rfl hy
      have := hr.1
      have := hy.1
      omega
    · rintro zs ⟨xs, ys, rfl, hy, rfl⟩
      exact hr.app hy (by decide)
  refine run_ifP (P := fun b => b = true → 2 < cs.length) (et_w (ew_andP (P := fun b => b = true → 2 < cs.length) (ev_eqA (ev_var (i := 2) (a := w) rfl) ev_int).t (fun z => by cases z) (ew_and1 ((ev_gtE (ev_len (P := (· = cs)) (n := (cs.length : Int)) (blt h) (es_im (ev_var (i := 1) (a := cs) rfl)) (fun xs e => by rw [e])) ev_int).t.imp fun b e z => ?_)))) (fun hx => ?_) (fun _ => run_nil ?_)
  · rw [z] at e
    have := of_decide_eq_true e.symm
    omega
  · exact run_ret ((ev_callD (ok_small_rules h) cs (ea_var (i := 0) (s := .di) rfl (ea_var (i := 1) (s := .im cs) rfl ea_nil)) rfl ⟨h1, hx rfl⟩).impL fun rs hr => hr.le (by decide))
  refine run_let (i := 4) put_ls (ev_callD (ok_pair_rules h) cs (ea_var (i := 0) (s := .di) rfl (ea_var (i := 1) (s := .im cs) rfl ea_nil)) rfl ⟨h1, h2⟩) fun G' hG => ?_
  obtain ⟨rs, hr, rfl⟩ := hG
  have hr : RsOk cs 8 rs := hr
  refine run_ifK (P := fun _ => True) (fun G' => ∃ rs a b c, G' = [.di, .im cs, .im w, a, .ls rs, b, c] ∧ RsOk cs 9 rs) (ev_eqA (ev_var (i := 2) (a := w) rfl) ev_int).t (fun _ => ?_) (fun _ => run_nil ⟨rs, _, _, _, rfl, hr.le (by decide)⟩) ?_
  · refine run_setP (i := 5) (ev_tup1 (ev_callD (ok_pickT h) cs (ea_var (i := 0) (s := .di) rfl (ea_var (i := 1) (s := .im cs) rfl ea_nil)) rfl hcl)) fun bs _ => Run.ro (i := 4) (xs := rs) rfl ?_
    refine run_setLcL (i := 4) (own := [("_law_left", 3), ("_law_right", 6)]) (P := (· = rs.map fun r => (joined cs bs r.1, r.2))) (lc_map (fun r : Rule => (joined cs bs r.1, r.2)) rfl (ei_ro (i := 4) (xs := rs) rfl) (by kernel_rfl) (bnd_pair (i := 3) (j := 6)) (by decide) fun r hr => ?_) fun qs e => run_nil ⟨_, _, _, _, rfl, ?_⟩
    · exact ev_pairE (ev_call (ok_law_joined h) (cs, bs, r.1) (ea_var (i := 1) (s := .im cs) rfl (ea_var (i := 5) (s := .im bs) rfl (ea_var (i := 3) (s := .im r.1) rfl ea_nil))) rfl trivial) (ev_var (i := 6) (a := r.2) rfl)
    · subst e
      refine ⟨by rw [List.length_map]; have := hr.1; omega, fun q hq => ?_⟩
      obtain ⟨r, hr2, rfl⟩ := List.mem_map.mp hq
      have ho := hr.2 r hr2
      exact ⟨h1.sub (joined_sub _ _ _), ho.hr, fun c hc => (joined_sub cs bs r.1).subset hc, ho.rs, ho.ne⟩
  · rintro G' ⟨qs, a, b, c, rfl, hq⟩
    exact run_retLs (i := 4) rfl rfl hq
end Mk
-- MkSb
namespace Mk
open Im (rep)
open PySem PySem.Spec PyProof.Rows L2
variable {T : Tx}
def subStep (L : List (List Nm)) (c : Nm) : List (List Nm) := L ++ L.map fun s => s ++ [c]
def subAll (cs : List Nm) : List (List Nm) := cs.foldl subStep [[]]
def subLen (cs : List Nm) (n : Nat) : List (List Nm) := (srt (subAll cs)).filter fun s => decide ((s.length : Int) = (n : Int))
def subsL (cs : List Nm) : List (List Nm) := (List.range (cs.length + 1)).flatMap (subLen cs)
theorem sub_len : ∀ (cs : List Nm) (L : List (List Nm)), (cs.foldl subStep L).length = L.length * 2 ^ cs.length
  | [], L => by simp
  | c :: cs, L => by
    rw [List.foldl_cons, sub_len cs, List.length_cons]
    unfold subStep
    rw [List.length_append, List.length_map, Nat.pow_succ]
    rw [← Nat.two_mul, Nat.mul_comm 2, Nat.mul_assoc, Nat.mul_comm 2]
theorem sub_head : ∀ (cs : List Nm) (r : List (List Nm)), ∃ q, cs.foldl subStep ([] :: r) = [] :: q
  | [], r => ⟨r, rfl⟩
  | c :: cs, r => sub_head cs _
theorem pow5 {n : Nat} (h : n ≤ 5) : 2 ^ n ≤ 32 := Nat.pow_le_pow_right (n := 2) (by decide) h
theorem subAll_len {cs : List Nm} (h : cs.length ≤ 5) : (subAll cs).length ≤ 32 := by
  unfold subAll
  rw [sub_len]
  have := pow5 h
  simpa using this
theorem subAll_fine (cs : List Nm) : SortFine ((subAll cs).map Dat.data) := by
  obtain ⟨q, e⟩ := sub_head cs []
  unfold subAll
  rw [e]
  exact fine_sets0 q
theorem subLen_len {cs : List Nm} (h : cs.length ≤ 5) (n : Nat) : (subLen cs n).length ≤ 32 := by
  unfold subLen
  refine Nat.le_trans (List.length_filter_le _ _) ?_
  rw [(srt_perm _).length_eq]
  exact subAll_len h
theorem sub_flat {cs : List Nm} (h : cs.length ≤ 5) : ∀ n, ((List.range n).flatMap (subLen cs)).length ≤ n * 32
  | 0 => by simp
  | n + 1 => by
    rw [List.range_succ, List.flatMap_append, List.length_append]
    have h1 := sub_flat h n
    have h2 := subLen_len h n
    have e : ([n].flatMap (subLen cs)).length = (subLen cs n).length := by simp
    rw [e, Nat.succ_mul]
    omega
theorem sc_subsets : FnScope ["_law_columns_here", "_law_pieces", "_law_found", "_law_name", "_law_total", "_law_some_here"] ["_law_columns_here"] (defScope (top 75)) := ⟨rfl, rfl, rfl, by decide +kernel, rfl, by decide +kernel, by decide +kernel⟩
theorem ok_subsets (h : Top T) : Fn T 1 "_law_subsets" (spC (β := List Nm) false (fun b => [.im b]) (fun b => b.length ≤ 5) (fun b => .ls (· = subsL b))) := by
  refine def_ok (at_law_subsets h) sc_subsets (fun _ _ _ _ _ _ us hl => match us, hl with | [_], _ => rfl) (fun b => rfl) fun cs d hd hp => ?_
  have hp : cs.length ≤ 5 := hp
  refine run_par (i := 1) (j := 2) put_ro put_ls (ev_lst1 (ev_tup0 (α := Nm))) (ev_lst0 (α := List Nm)) (fun G' G'' h1 h2 => ?_) (fun G' ⟨a, _, e⟩ => by rw [e]; rfl)
  obtain ⟨_, ⟨_, rfl, rfl⟩, rfl⟩ := h1
  obtain ⟨_, rfl, rfl⟩ := h2
  refine run_for (ei_tup (ev_var (i := 0) (a := cs) rfl)) (bnd_name (i := 3)) (I := fun L i G' => ∃ a b c, G' = [.im cs, .ro ((L.take i).foldl subStep [[]]), .ls ([] : List (List Nm)), a, b, c]) (fun L e => ⟨_, _, _, by rw [List.take_zero]; rfl⟩) ?_ ?_ ?_
  · rintro L i G' ⟨a, b, c, rfl⟩; rfl
  · rintro L i c G' rfl hc ⟨a, b, z, rfl⟩
    have hl : ((L.take i).foldl subStep [[]]).length ≤ 32 := by
      rw [sub_len, List.length_take]
      have := pow5 (n := min i L.length) (by omega)
      simpa using this
    refine run_let (i := 1) put_ro ((ev_catL (P := (· = (L.take i).foldl subStep [[]])) (R := (· = ((L.take i).foldl subStep [[]]).map fun s => s ++ [c])) (el_ro (i := 1) rfl) (el_ls (ev_lc (own := [("_law_some_here", 5)]) (lc_map (fun s : List Nm => s ++ [c]) rfl (ei_ro (i := 1) rfl) (by kernel_rfl) (bnd_name (i := 5)) (by decide) fun s hs => ?_))) ?_).impL (P' := (· = (L.take (i + 1)).foldl subStep [[]])) ?_) fun G' hG => run_nil ?_
    · refine (ev_catT (P := (· = s)) (R := (· = [c])) ((ev_var (i := 5) rfl)) ((ev_tup1 (P := (· = c)) ((ev_var (i := 3) rfl))).imp fun z ⟨x, e1, e2⟩ => by rw [e2, e1]) ?_).imp fun z ⟨x, y, e1, e2, e3⟩ => by rw [e3, e1, e2]
      rintro xs ys rfl rfl
      have hx : ∀ (cs : List Nm) (L : List (List Nm)) (m : Nat), (∀ s ∈ L, s.length ≤ m) → ∀ s ∈ cs.foldl subStep L, s.length ≤ m + cs.length := by
        intro cs
        induction cs with
        | nil => intro L m h s hs; exact h s hs
        | cons c cs ih =>
          intro L m h s hs
          have := ih (subStep L c) (m + 1) (fun t ht => by
            rcases List.mem_append.mp ht with z | z
            · exact Nat.le_succ_of_le (h t z)
            · obtain ⟨u, hu, rfl⟩ := List.mem_map.mp z
              rw [List.length_append]
              exact Nat.succ_le_succ (h u hu)) s hs
          rw [List.length_cons]
          omega
      have := hx (L.take i) [[]] 0 (by simp) xs hs
      rw [List.length_take] at this
      simp only [List.length_singleton]
      omega
    · rintro xs ys rfl rfl
      rw [List.length_map]
      omega
    · rintro z ⟨x, y, rfl, rfl, rfl⟩
      rw [foldl_take _ _ hc]
      rfl
    · obtain ⟨_, rfl, rfl⟩ := hG
      exact ⟨_, _, _, rfl⟩
  rintro L G' rfl ⟨a, b, c, rfl⟩
  rw [List.take_length]
  have hl := subAll_len hp
  refine run_for (ei_range (P := (· = ((L.length + 1 : Nat) : Int))) (blt h).range ((ev_addE (ev_len (P := (· = L)) (n := (L.length : Int)) (blt h) (es_im (ev_var (i := 0) (a := L) rfl)) (fun xs e => by rw [e])) ev_int).to rfl) (fun m e => by omega)) (bnd_name (i := 4)) (I := fun _ i G' => ∃ a b c, G' = [.im L, .ro (subAll L), .ls ((List.range i).flatMap (subLen L)), a, b, c]) (fun _ _ => ⟨_, _, _, rfl⟩) ?_ ?_ ?_
  · rintro _ i G' ⟨a, b, c, rfl⟩; rfl
  · rintro _ i z G' ⟨m, rfl, rfl⟩ hz ⟨a, b, c, rfl⟩
    obtain ⟨rfl, hi⟩ := rng_get hz
    have hi : i < L.length + 1 := by omega
    have hf := sub_flat hp i
    refine run_extend (i := 2) (P := (· = subLen L i)) (el_ls ((ev_lc (own := [("_law_some_here", 5)]) (lc_filter (fun s : List Nm => decide ((s.length : Int) = (i : Int))) (fun s : List Nm => s) rfl (ei_new ((ev_sorted (P := (· = subAll L)) (blt h) (el_ro (i := 1) rfl) (fun xs _ => allAlike_of alike_set xs) (fun xs e => by rw [e]; exact subAll_fine L)).impL (P' := (· = srt (subAll L))) fun z ⟨_, e1, e2⟩ => by rw [e2, e1])) (by kernel_rfl) (bnd_name (i := 5)) (by decide) (fun s hs => ?_) fun s hs _ => (ev_var (i := 5) rfl))).impL fun z e => e.trans (List.map_id _))) rfl (fun ys e => by rw [e]; have := subLen_len hp i; omega) fun ys e => run_nil ⟨a, .im (i : Int), c, ?_⟩
    · exact (ev_eqD (ev_len (P := (· = s)) (n := (s.length : Int)) (blt h) (es_im (ev_var (i := 5) (a := s) rfl)) (fun xs e => by rw [e])) (ev_var (i := 4) (a := (i : Int)) rfl)).t
    · subst e
      rw [List.range_succ, List.flatMap_append]
      simp
  · rintro _ G' ⟨m, rfl, rfl⟩ ⟨a, b, c, rfl⟩
    rw [List.length_map, List.length_range]
    exact run_retLs (i := 2) rfl rfl rfl
end Mk
-- MkQa
namespace Mk
open Im (rep)
open PySem PySem.Spec PyProof.Rows L2
abbrev lexN (a b : List Nm) : Prop := List.Lex ltN a b
theorem row_names : ∀ xs ys : List Nm, W.rowLt (xs.map Dat.data) (ys.map Dat.data) = true ↔ lexN xs ys
  | [], [] => by
    have e : W.rowLt [] [] = false := PyProof.Rows.lex_irrefl _
    rw [List.map_nil, e]
    exact ⟨(fun z => by cases z), (fun z => by cases z)⟩
  | [], y :: ys => by
    have e : W.rowLt [] (PyData.str y.s :: ys.map Dat.data) = true := by
      unfold W.rowLt
      rw [W.toks_all_cons]
      simp only [W.keyToksAll]
      rw [PyProof.Rows.lex_diff (O := PyProof.Rows.itemOrd) (by simp)]
      rfl
    exact ⟨fun _ => .nil, fun _ => e⟩
  | x :: xs, [] => by
    have e : W.rowLt (PyData.str x.s :: xs.map Dat.data) [] = false := by
      unfold W.rowLt
      rw [W.toks_all_cons]
      simp only [W.keyToksAll]
      rw [PyProof.Rows.lex_diff (O := PyProof.Rows.itemOrd) (by simp)]
      rfl
    exact ⟨(fun z => by rw [show W.rowLt ((x :: xs).map Dat.data) (([] : List Nm).map Dat.data) = false from e] at z; cases z), (fun z => by cases z)⟩
  | x :: xs, y :: ys => by
    have e : W.rowLt (PyData.str x.s :: xs.map Dat.data) (PyData.str y.s :: ys.map Dat.data) = if PyData.eqv (.str x.s) (.str y.s) = true then W.rowLt (xs.map Dat.data) (ys.map Dat.data) else decide (x.s.cps.toList < y.s.cps.toList) := by
      unfold W.rowLt
      rw [W.dataLt_cons (by simp [W.alike]), W.dataLt_str]
    have hq : PyData.eqv (.str x.s) (.str y.s) = true ↔ x = y := Dat.inj (α := Nm)
    rw [List.map_cons, List.map_cons]
    show W.rowLt (PyData.str x.s :: xs.map Dat.data) (PyData.str y.s :: ys.map Dat.data) = true ↔ _
    rw [e]
    by_cases h : x = y
    · rw [if_pos (hq.mpr h), row_names xs ys]
      subst h
      constructor
      · exact fun z => .cons z
      · intro z
        cases z with
        | cons z => exact z
        | rel z => exact absurd z (ltN_irrefl x)
    · rw [if_neg (fun z => h (hq.mp z)), decide_eq_true_iff]
      constructor
      · exact fun z => .rel z
      · intro z
        cases z with
        | cons z => exact absurd rfl h
        | rel z => exact z
theorem le_names (a b : List Nm) : W.dataLe false Dat.data a b = true ↔ ¬ lexN b a := by
  rw [W.dataLe_eq]
  show (!W.dataLt (Dat.data b) (Dat.data a)) = true ↔ _
  rw [Bool.not_eq_true']
  have h : W.dataLt (Dat.data b) (Dat.data a) = W.rowLt (b.map Dat.data) (a.map Dat.data) := W.dataLt_tuple _ _
  rw [h, ← row_names b a, Bool.eq_false_iff]
theorem lex_asymm : ∀ {a b : List Nm}, lexN a b → ¬ lexN b a
  | _, _, .nil, h => by cases h
  | _, _, .cons h1, h => by
    cases h with
    | cons h2 => exact lex_asymm h1 h2
    | rel h2 => exact ltN_irrefl _ h2
  | _, _, .rel h1, h => by
    cases h with
    | cons h2 => exact ltN_irrefl _ h1
    | rel h2 => exact ltN_asymm h1 h2
theorem lex_tri : ∀ {a b : List Nm}, ¬ lexN a b → ¬ lexN b a → a = b
  | [], [], _, _ => rfl
  | [], _ :: _, h, _ => absurd .nil h
  | _ :: _, [], _, h => absurd .nil h
  | x :: a, y :: b, h1, h2 => by
    have e : x = y := ltN_tri (fun z => h1 (.rel z)) (fun z => h2 (.rel z))
    subst e
    rw [lex_tri (a := a) (b := b) (fun z => h1 (.cons z)) (fun z => h2 (.cons z))]
theorem lex_app : ∀ {s t : List Nm}, lexN s t → s.length = t.length → ∀ u v : List Nm, lexN (s ++ u) (t ++ v)
  | _, _, .nil, h, _, _ => by simp at h
  | _, _, .cons h1, h, u, v => .cons (lex_app h1 (by simpa using h) u v)
  | _, _, .rel h1, h, u, v => .rel h1
theorem lex_snoc {c c' : Nm} (h : ltN c c') : ∀ s : List Nm, lexN (s ++ [c]) (s ++ [c'])
  | [] => .rel h
  | _ :: s => .cons (lex_snoc h s)
theorem srt_sorted (L : List (List Nm)) : (srt L).Pairwise fun a b => ¬ lexN b a :=
  (List.pairwise_mergeSort (W.sortLe_total _ _ _).trans (fun a b => by
    have := (W.sortLe_total (PyProof.Rows.listOrd PyProof.Rows.itemOrd) false fun b : List Nm => W.keyToks (Dat.data b)).total a b
    rw [Bool.or_eq_true]
    exact this) L).imp fun {a b} h => (le_names a b).mp h
theorem sorted_unique {L M : List (List Nm)} (p : L.Perm M) (h1 : L.Pairwise fun a b => ¬ lexN b a) (h2 : M.Pairwise fun a b => ¬ lexN b a) : L = M := p.eq_of_pairwise (fun a b _ _ l1 l2 => lex_tri l2 l1) h1 h2
theorem layer_lex {cs : List Nm} (h : cs.Pairwise ltN) : ∀ n, (layer cs n).Pairwise lexN
  | 0 => by show ([[]] : List (List Nm)).Pairwise _; simp
  | n + 1 => by
    show (nextL cs (layer cs n)).Pairwise _
    unfold nextL
    rw [List.pairwise_flatMap]
    refine ⟨fun s hs => ?_, ?_⟩
    · rw [List.pairwise_map]
      exact (h.filter _).imp fun {a b} l => lex_snoc l s
    · refine (layer_lex h n).imp_of_mem fun {a b} ha hb l x hx y hy => ?_
      obtain ⟨c, _, rfl⟩ := List.mem_map.mp hx
      obtain ⟨c', _, rfl⟩ := List.mem_map.mp hy
      exact lex_app l ((mem_layer.mp ha).1.trans (mem_layer.mp hb).1.symm) _ _
theorem lexN_irrefl (a : List Nm) : ¬ lexN a a := fun h => lex_asymm h h
theorem lex_nodup {L : List (List Nm)} (h : L.Pairwise lexN) : L.Nodup := h.imp fun {a b} l (e : a = b) => lexN_irrefl a (by rw [← e] at l; exact l)
theorem layer_nodup {cs : List Nm} (h : cs.Pairwise ltN) (n : Nat) : (layer cs n).Nodup := lex_nodup (layer_lex h n)
theorem range_pair {R : Nat → Nat → Prop} (h : ∀ a b, a < b → R a b) (n : Nat) : (List.range n).Pairwise R := (List.pairwise_lt_range (n := n)).imp fun {a b} l => h a b l
theorem sets_up {cs : List Nm} : (setsOf cs).Pairwise fun a b => a.length ≤ b.length := by
  unfold setsOf
  rw [List.pairwise_flatMap]
  refine ⟨fun n _ => List.pairwise_of_forall_mem_list fun a ha b hb => ?_, range_pair (fun m n l x hx y hy => ?_) 6⟩
  · rw [(mem_layer.mp ha).1, (mem_layer.mp hb).1]
    exact Nat.le_refl _
  · rw [(mem_layer.mp hx).1, (mem_layer.mp hy).1]
    omega
theorem sets_nodup {cs : List Nm} (h : cs.Pairwise ltN) : (setsOf cs).Nodup := by
  unfold setsOf
  show List.Pairwise _ _
  rw [List.pairwise_flatMap]
  refine ⟨fun n _ => layer_nodup h n, range_pair (fun m n l x hx y hy e => ?_) 6⟩
  have h1 := (mem_layer.mp hx).1
  have h2 := (mem_layer.mp hy).1
  rw [e] at h1
  omega
theorem mem_subs : ∀ {cs : List Nm} {L : List (List Nm)} {t : List Nm}, t ∈ cs.foldl subStep L ↔ ∃ s ∈ L, ∃ u, u.Sublist cs ∧ t = s ++ u
  | [], L, t => by
    constructor
    · exact fun h => ⟨t, h, [], List.Sublist.refl _, by simp⟩
    · rintro ⟨s, hs, u, hu, rfl⟩
      rw [List.sublist_nil.mp hu, List.append_nil]
      exact hs
  | c :: cs, L, t => by
    rw [List.foldl_cons, mem_subs]
    constructor
    · rintro ⟨s, hs, u, hu, rfl⟩
      rcases List.mem_append.mp hs with z | z
      · exact ⟨s, z, u, hu.cons c, rfl⟩
      · obtain ⟨s', hs', rfl⟩ := List.mem_map.mp z
        exact ⟨s', hs', c :: u, hu.cons₂ c, by rw [List.append_assoc]; rfl⟩
    · rintro ⟨s, hs, u, hu, rfl⟩
      rcases List.sublist_cons_iff.mp hu with z | ⟨r, rfl, z⟩
      · exact ⟨s, List.mem_append.mpr (.inl hs), u, z, rfl⟩
      · exact ⟨s ++ [c], List.mem_append.mpr (.inr (List.mem_map.mpr ⟨s, hs, rfl⟩)), r, z, by rw [List.append_assoc]; rfl⟩
theorem subs_nodup : ∀ {cs : List Nm} {L : List (List Nm)}, cs.Nodup → L.Nodup → (∀ s ∈ L, ∀ c ∈ cs, c ∉ s) → (cs.foldl subStep L).Nodup
  | [], L, _, h, _ => h
  | c :: cs, L, hc, hL, hd => by
    obtain ⟨h1, h2⟩ := List.nodup_cons.mp hc
    show (cs.foldl subStep (subStep L c)).Nodup
    refine subs_nodup (cs := cs) h2 ?_ fun s hs c' hc' hm => ?_
    · unfold subStep
      rw [List.nodup_append]
      refine ⟨hL, List.Pairwise.map _ (fun a b hab e => hab (List.append_cancel_right e)) hL, fun a ha b hb e => ?_⟩
      obtain ⟨s', hs', rfl⟩ := List.mem_map.mp hb
      exact hd a ha c List.mem_cons_self (by rw [e]; simp)
    · rcases List.mem_append.mp hs with z | z
      · exact hd s z c' (List.mem_cons_of_mem _ hc') hm
      · obtain ⟨s', hs', rfl⟩ := List.mem_map.mp z
        rcases List.mem_append.mp hm with q | q
        · exact hd s' hs' c' (List.mem_cons_of_mem _ hc') q
        · rw [List.mem_singleton.mp q] at hc'
          exact h1 hc'
theorem asc_sublist {cs t : List Nm} (h : cs.Pairwise ltN) : t.Sublist cs ↔ t.Pairwise ltN ∧ ∀ c ∈ t, c ∈ cs := by
  constructor
  · exact fun s => ⟨asc_sub h s, fun c hc => s.subset hc⟩
  · rintro ⟨h1, h2⟩
    rw [asc_filter h h1 h2]
    exact List.filter_sublist
theorem subLen_eq {cs : List Nm} (h : cs.Pairwise ltN) (n : Nat) : subLen cs n = layer cs n := by
  have hn : (subAll cs).Nodup := subs_nodup (asc_nodup h) (by simp) (by simp)
  refine sorted_unique ((List.perm_ext_iff_of_nodup ?_ (layer_nodup h n)).mpr fun t => ?_) ((srt_sorted _).filter _) ((layer_lex h n).imp fun {a b} l => lex_asymm l)
  · exact List.Pairwise.filter _ ((srt_perm (subAll cs)).nodup_iff.mpr hn)
  · unfold subLen
    rw [List.mem_filter, (srt_perm _).mem_iff, mem_layer, decide_eq_true_iff]
    unfold subAll
    rw [mem_subs]
    constructor
    · rintro ⟨⟨s, hs, u, hu, rfl⟩, e⟩
      rw [List.mem_singleton.mp hs, List.nil_append] at e ⊢
      exact ⟨by omega, (asc_sublist h).mp hu⟩
    · rintro ⟨e, hq⟩
      exact ⟨⟨[], by simp, t, (asc_sublist h).mpr hq, rfl⟩, by omega⟩
theorem subsL_eq {cs : List Nm} (h : C5 cs) : subsL cs = setsOf cs := by
  have e : subLen cs = layer cs := funext fun n => subLen_eq h.asc n
  unfold subsL
  rw [e]
  exact setsOf_cut h (by have := h.len; omega) (layer_nil h.asc (Nat.lt_succ_self _))
theorem sets_few {cs : List Nm} (h : C5 cs) : (setsOf cs).length ≤ 192 := by
  rw [← subsL_eq h]
  have := sub_flat h.len (cs.length + 1)
  have := h.len
  unfold subsL
  omega
end Mk
-- MkQb
namespace Mk
open Im (rep)
open PySem PySem.Spec PyProof.Rows L2
def Over (cs : List Nm) (rs : List Rule) : Prop := ∀ r ∈ rs, (∀ c ∈ r.1, c ∈ cs) ∧ ∀ c ∈ r.2, c ∈ cs
theorem RulOk.over {C : Addr} {x : Rul C} (h : RulOk x) : Over x.cols x.rules := fun r hr => ⟨(h.rules r hr).ls, (h.rules r hr).rs⟩
section
variable {cs xs ys s t a b : List Nm} {rs : List Rule} {c : Nm}
theorem clo_closed (h : Over cs rs) : closedB rs (Cl cs rs xs) = true := closedB_iff.mpr fun r hr h1 c hc => mem_Cl.mpr ⟨(h r hr).2 c hc, InCl.step hr (fun x hx => (mem_Cl.mp (h1 x hx)).2) hc⟩
theorem clo_base (h : c ∈ xs) (hc : c ∈ cs) : c ∈ Cl cs rs xs := mem_Cl.mpr ⟨hc, InCl.base h⟩
theorem clo_least (h1 : ∀ c ∈ xs, c ∈ s) (h2 : closedB rs s = true) (hc : c ∈ Cl cs rs xs) : c ∈ s := (mem_Cl.mp hc).2 (· ∈ s) h1 (closedB_iff.mp h2)
theorem clo_asc (h : cs.Pairwise ltN) : (Cl cs rs xs).Pairwise ltN := asc_sub h Cl_sub
theorem clo_eq (h : cs.Pairwise ltN) (ho : Over cs rs) (hs : s.Sublist cs) : closedB rs s = true ↔ Cl cs rs s = s := by
  constructor
  · intro hc
    exact asc_ext (clo_asc h) (asc_sub h hs) fun c => ⟨fun z => clo_least (fun _ z => z) hc z, fun z => clo_base z (hs.subset z)⟩
  · intro e
    rw [← e]
    exact clo_closed ho
theorem mem_closedL (h : C5 cs) : t ∈ closedL cs rs ↔ t.Sublist cs ∧ closedB rs t = true := by
  unfold closedL
  rw [List.mem_filter, mem_setsOf h, asc_sublist h.asc]
theorem mem_common : c ∈ common a b ↔ c ∈ a ∧ c ∈ b := by
  unfold common
  rw [List.mem_filter, decide_eq_true_iff]
theorem common_sub : (common a b).Sublist a := List.filter_sublist
theorem common_eq : common a b = a ↔ ∀ c ∈ a, c ∈ b := by
  unfold common
  rw [List.filter_eq_self]
  simp only [decide_eq_true_iff]
theorem mem_joined : c ∈ joined cs a b ↔ c ∈ cs ∧ (c ∈ a ∨ c ∈ b) := by
  unfold joined
  rw [List.mem_filter, Bool.or_eq_true, decide_eq_true_iff, decide_eq_true_iff]
theorem closed_common (h1 : closedB rs a = true) (h2 : closedB rs b = true) : closedB rs (common a b) = true := closedB_iff.mpr fun r hr hl c hc =>
  mem_common.mpr ⟨closedB_iff.mp h1 r hr (fun x hx => (mem_common.mp (hl x hx)).1) c hc, closedB_iff.mp h2 r hr (fun x hx => (mem_common.mp (hl x hx)).2) c hc⟩
theorem closed_all (h : Over cs rs) : closedB rs cs = true := closedB_iff.mpr fun r hr _ => (h r hr).2
theorem clo_in (h : C5 cs) (ho : Over cs rs) : Cl cs rs xs ∈ closedL cs rs := (mem_closedL h).mpr ⟨Cl_sub, clo_closed ho⟩
theorem closedL_up : (closedL cs rs).Pairwise fun a b => a.length ≤ b.length := sets_up.filter _
def aboveL (cs : List Nm) (rs : List Rule) (one : List Nm) : List (List Nm) := (closedL cs rs).filter fun o => decide (common one o = one)
theorem mem_above (h : C5 cs) : t ∈ aboveL cs rs s ↔ t.Sublist cs ∧ closedB rs t = true ∧ ∀ c ∈ s, c ∈ t := by
  unfold aboveL
  rw [List.mem_filter, mem_closedL h, decide_eq_true_iff, common_eq, and_assoc]
theorem sub_len_eq {a b : List Nm} (ha : a.Pairwise ltN) (hb : b.Pairwise ltN) (h : ∀ c ∈ a, c ∈ b) (hl : b.length ≤ a.length) : a = b := by
  have e := asc_filter hb ha h
  have hs : a.Sublist b := by rw [e]; exact List.filter_sublist
  exact hs.eq_of_length_le hl
theorem above_head (h : C5 cs) (ho : Over cs rs) (hs : s.Sublist cs) : ∃ tl, aboveL cs rs s = Cl cs rs s :: tl := by
  have hin : Cl cs rs s ∈ aboveL cs rs s := (mem_above h).mpr ⟨Cl_sub, clo_closed ho, fun c hc => clo_base hc (hs.subset hc)⟩
  have hup : (aboveL cs rs s).Pairwise fun a b => a.length ≤ b.length := closedL_up.filter _
  have hall : ∀ t ∈ aboveL cs rs s, t.Sublist cs ∧ closedB rs t = true ∧ ∀ c ∈ s, c ∈ t := fun t ht => (mem_above h).mp ht
  cases e : aboveL cs rs s with
  | nil => rw [e] at hin; simp at hin
  | cons t tl =>
    rw [e] at hin hup hall
    obtain ⟨g1, g2, g3⟩ := hall t List.mem_cons_self
    have hl : t.length ≤ (Cl cs rs s).length := by
      rcases List.mem_cons.mp hin with z | z
      · rw [z]; exact Nat.le_refl _
      · exact (List.pairwise_cons.mp hup).1 _ z
    have := sub_len_eq (clo_asc h.asc) (asc_sub h.asc g1) (fun c hc => clo_least g3 g2 hc) hl
    exact ⟨tl, by rw [this]⟩
theorem above_least (h : C5 cs) (ht : t ∈ aboveL cs rs s) : common (Cl cs rs s) t = Cl cs rs s := by
  obtain ⟨_, g2, g3⟩ := (mem_above h).mp ht
  exact common_eq.mpr fun c hc => clo_least g3 g2 hc
theorem closed_last (h : C5 cs) (ho : Over cs rs) : (closedL cs rs).getLast? = some cs := by
  have hin : cs ∈ closedL cs rs := (mem_closedL h).mpr ⟨List.Sublist.refl _, closed_all ho⟩
  cases e : (closedL cs rs).getLast? with
  | none => rw [List.getLast?_eq_none_iff.mp e] at hin; simp at hin
  | some l =>
    obtain ⟨L, eL⟩ := List.getLast?_eq_some_iff.mp e
    have hl : l ∈ closedL cs rs := by rw [eL]; simp
    have hs := ((mem_closedL h).mp hl).1
    have hup := closedL_up (cs := cs) (rs := rs)
    rw [eL] at hin hup
    have hle : cs.length ≤ l.length := by
      rcases List.mem_append.mp hin with z | z
      · exact (List.pairwise_append.mp hup).2.2 _ z l (by simp)
      · rw [List.mem_singleton.mp z]; exact Nat.le_refl _
    rw [hs.eq_of_length_le hle]
theorem within_common : within a b = decide (common a b = a) := by
  rw [Bool.eq_iff_iff, within_iff, decide_eq_true_iff, common_eq]
theorem clo_mono (h : ∀ c ∈ xs, c ∈ cs → InCl rs ys c) (hx : ∀ c ∈ xs, c ∈ cs) : ∀ c ∈ Cl cs rs xs, c ∈ Cl cs rs ys := fun c hc => by
  obtain ⟨h1, h2⟩ := mem_Cl.mp hc
  exact mem_Cl.mpr ⟨h1, fun S g1 g2 => h2 S (fun x hx' => h x hx' (hx x hx') S g1 g2) g2⟩
theorem clo_wide (hs : ∀ c ∈ a, c ∈ cs) : common (Cl cs rs a) (Cl cs rs (joined cs a b)) = Cl cs rs a := common_eq.mpr (clo_mono (fun c hc hcs => InCl.base (mem_joined.mpr ⟨hcs, .inl hc⟩)) hs)
theorem clo_twice (h : cs.Pairwise ltN) (ho : Over cs rs) : Cl cs rs (Cl cs rs a) = Cl cs rs a := (clo_eq h ho Cl_sub).mp (clo_closed ho)
theorem clo_more (hs : ∀ c ∈ a, c ∈ cs) (hb : ∀ c ∈ b, c ∈ cs) : within (joined cs (Cl cs rs a) b) (Cl cs rs (joined cs a b)) = true := within_iff.mpr fun c hc => by
  obtain ⟨h1, h2 | h2⟩ := mem_joined.mp hc
  · exact common_eq.mp (clo_wide (b := b) hs) c h2
  · exact clo_base (mem_joined.mpr ⟨h1, .inr h2⟩) h1
theorem joined_ne (h : b ≠ []) (hb : ∀ c ∈ b, c ∈ cs) : joined cs a b ≠ [] := by
  obtain ⟨c, hc⟩ := List.exists_mem_of_ne_nil _ h
  exact List.ne_nil_of_mem (mem_joined.mpr ⟨hb c hc, .inr hc⟩)
end
end Mk
-- MkGen
namespace MkG
open PySem PySem.Spec PyProof.Rows L2 GenW
section
variable {M : Model} {A : Around} {R : GenEnd} {Y : Protocol} {n : Nat} {s₀ : Shared} {c : Code} {fs : List Frame} {s : Shared} {env : Env}
  {K : Flow → Sem PySem.Fin} {J : Value → Sem PySem.Fin} {gd : Bool → Bool} {lv : List Value → List Value}
theorem seg_if {test : Expr} {body orelse : List Stmt} {pos : Pos}
    (h : wpAny M (A.over c fs) (isTrue test env (eval test env)) (fun b s1 =>
      if b = true then Seg M A R Y n s₀ c ((execs body env).wrap K J gd lv) fs s1 else Seg M A R Y n s₀ c ((execs orelse env).wrap K J gd lv) fs s1)
      (fun x s1 => Seg M A R Y n s₀ c (J x) fs s1) s) : Seg M A R Y n s₀ c ((exec (.If test body orelse pos) env).wrap K J gd lv) fs s := by
  refine seg_at ?_
  show Seg M A R Y n s₀ c ((isTrue test env (eval test env) >>= fun b => if b = true then execs body env else execs orelse env).wrap K J gd lv) fs s
  rw [Sem.bind_eq_wrap', Sem.wrap_wrap]
  refine seg_wrap (wpAny_mono h (fun b s1 q => ?_) fun _ _ q => q)
  cases b with
  | true => rw [if_pos rfl] at q; exact q
  | false => rw [if_neg Bool.false_ne_true] at q; exact q
abbrev backK (env : Env) (K : Flow → Sem PySem.Fin) (J : Value → Sem PySem.Fin) (gd : Bool → Bool) (lv : List Value → List Value) : Result → Sem PySem.Fin :=
  fun r => ((match r with | .ok f => (.pure f : Sem Flow) | .error e => .raise e).onRaise (cameBack env)).wrap K J gd lv
theorem seg_for {target iter : Expr} {body orelse : List Stmt} {pos : Pos} (hs : ∀ x, foldedSetIterable iter env x = pure x)
    (h : wpAny M (A.over c fs) (eval iter env) (fun x s1 => wpAny M (A.over c fs) (pyIter x) (fun it s2 =>
      ∀ p l, Seg M A R Y n s₀ (.forLoop target it body orelse env) (M.den (.forLoop target it body orelse env)) (.ret (backK env K J gd lv) none (gd false) l c p [] :: fs) s2)
      (fun x s1 => Seg M A R Y n s₀ c (J x) fs s1) s1) (fun x s1 => Seg M A R Y n s₀ c (J x) fs s1) s) :
    Seg M A R Y n s₀ c ((exec (.For target iter body orelse pos) env).wrap K J gd lv) fs s := by
  rw [exec_For]
  rw [Sem.bind_eq_wrap', Sem.wrap_wrap]
  refine seg_wrap (wpAny_standAt ?_)
  rw [Sem.bind_eq_wrap', Sem.wrap_wrap]
  refine seg_wrap (wpAny_mono h (fun x s1 h1 => ?_) fun _ _ q => q)
  rw [hs x, Sem.bind_eq_wrap', Sem.wrap_wrap]
  refine seg_wrap (wpAny_pure ?_)
  rw [Sem.bind_eq_wrap', Sem.wrap_wrap]
  refine seg_wrap (wpAny_standAt ?_)
  rw [Sem.bind_eq_wrap', Sem.wrap_wrap]
  refine seg_wrap (wpAny_holding (wpAny_mono h1 (fun it s2 h2 => ?_) fun _ _ q => q))
  exact seg_call fun p => h2 p _
end
section
variable {prog : Program} {w : World} {A : Around} {R : GenEnd} {Y : Protocol} {n : Nat} {s₀ : Shared} {fs : List Frame} {s : Shared} {env : Env}
abbrev notedJ (env : Env) : Value → Sem PySem.Fin := fun e => (do noteFrame e env; theTreesLotGoes e : Sem Unit).wrap (fun _ => .raise e) .raise id id
theorem seg_forLoop {target : Expr} {it : Value} {body orelse : List Stmt} {c : Code} (hc : c = .forLoop target it body orelse env)
    (h : wpAny (model prog w) (A.over c fs) (pyNext it) (fun r s1 => match r with
      | none => Seg (model prog w) A R Y n s₀ (.block orelse env) ((model prog w).den (.block orelse env)) fs s1
      | some v => wpAny (model prog w) (A.over c fs) (letOwnedTupleGo target it v) (fun _ s2 => wpAny (model prog w) (A.over c fs) (assign target env v) (fun _ s3 =>
          Seg (model prog w) A R Y n s₀ c ((execs body env).wrap (fun f => match f with
            | .next | .cont => .pure (.again (.forLoop target it body orelse env))
            | .brk => .pure (.done .next)
            | .ret v => .pure (.done (.ret v))) (notedJ env) id id) fs s3)
          (fun x s3 => Seg (model prog w) A R Y n s₀ c (notedJ env x) fs s3) s2) (fun x s2 => Seg (model prog w) A R Y n s₀ c (notedJ env x) fs s2) s1)
      (fun x s1 => Seg (model prog w) A R Y n s₀ c (notedJ env x) fs s1) s) :
    Seg (model prog w) A R Y n s₀ c ((model prog w).den (.forLoop target it body orelse env)) fs s := by
  subst hc
  show Seg _ A R Y n s₀ _ ((forTurn target it body orelse env).onRaise (fun x => do noteFrame x env; theTreesLotGoes x)) fs s
  have hJ : ∀ e : Value, ((do noteFrame e env; theTreesLotGoes e : Sem Unit).bind fun _ => (.raise e : Sem PySem.Fin)) = notedJ env e := fun e => by
    rw [Sem.bind_eq_wrap]
  unfold forTurn
  rw [Sem.onRaise_eq_wrap, Sem.bind_eq_wrap', Sem.wrap_wrap]
  refine seg_wrap (wpAny_standAt ?_)
  rw [Sem.bind_eq_wrap', Sem.wrap_wrap]
  refine seg_wrap (wpAny_onRaise (wpAny_mono h (fun r s1 h1 => ?_) fun x s1 hx => wpAny_standAt ?_))
  · cases r with
    | none => exact seg_again (c' := .block orelse env) rfl h1
    | some v =>
      dsimp only at h1 ⊢
      rw [Sem.bind_eq_wrap', Sem.wrap_wrap]
      refine seg_wrap (wpAny_mono h1 (fun _ s2 h2 => ?_) fun x s2 hx => ?_)
      · rw [Sem.bind_eq_wrap', Sem.wrap_wrap]
        refine seg_wrap (wpAny_mono h2 (fun _ s3 h3 => ?_) fun x s3 hx => ?_)
        · rw [Sem.bind_eq_wrap', Sem.wrap_wrap]
          have e1 := Sem.wrap_congr (execs body env) (K := fun a => Sem.wrap Sem.pure (fun e => ((do noteFrame e env; theTreesLotGoes e : Sem Unit).bind fun _ => (.raise e : Sem PySem.Fin))) id id (match a with
            | Flow.next => again (Code.forLoop target it body orelse env)
            | Flow.cont => again (Code.forLoop target it body orelse env)
            | Flow.brk => pure (Fin.done Flow.next)
            | Flow.ret v => pure (Fin.done (Flow.ret v)))) (K' := fun f => match f with
            | .next | .cont => .pure (.again (.forLoop target it body orelse env))
            | .brk => .pure (.done .next)
            | .ret v => .pure (.done (.ret v))) (H := fun e => Sem.wrap Sem.pure (fun e => ((do noteFrame e env; theTreesLotGoes e : Sem Unit).bind fun _ => (.raise e : Sem PySem.Fin))) id id (Sem.raise e)) (H' := notedJ env) id id (fun f => by cases f <;> rfl) (fun e => hJ e)
          rw [← e1] at h3
          exact h3
        · rw [← hJ x] at hx
          exact hx
      · rw [← hJ x] at hx
        exact hx
  · rw [← hJ x] at hx
    exact hx
theorem seg_block {orelse : List Stmt} {c : Code} (hc : c = .block orelse env)
    (h : Seg (model prog w) A R Y n s₀ c ((execs orelse env).wrap (fun f => .pure (.done f)) (notedJ env) id id) fs s) :
    Seg (model prog w) A R Y n s₀ c ((model prog w).den (.block orelse env)) fs s := by
  subst hc
  show Seg _ A R Y n s₀ _ ((execs orelse env).onRaise (fun x => do noteFrame x env; theTreesLotGoes x) >>= fun f => pure (Fin.done f)) fs s
  rw [Sem.onRaise_eq_wrap, Sem.bind_eq_wrap', Sem.wrap_wrap]
  have e1 := Sem.wrap_congr (execs orelse env) (K := fun a => Sem.wrap (fun f => pure (Fin.done f)) Sem.raise id id (Sem.pure a)) (K' := fun f => .pure (.done f))
    (H := fun e => Sem.wrap (fun f => (pure (Fin.done f) : Sem PySem.Fin)) Sem.raise id id (((do noteFrame e env; theTreesLotGoes e : Sem Unit).bind fun _ => (.raise e : Sem Flow)))) (H' := notedJ env) id id (fun f => by cases f <;> rfl) (fun e => by
      rw [Sem.bind_eq_wrap, Sem.wrap_wrap]
      rfl)
  rw [← e1] at h
  exact h
end
section
variable {X : Cx}
def tGIf (c : TT) (t u : TGn) : TGn := fun D ys σ H => c σ H fun b H1 => if b = true then t D ys σ H1 else u D ys σ H1
theorem gs_if {test : Expr} {body orelse : List Stmt} {pos : Pos} {tc : TT} {t u : TGn} (hc : PT X test tc) (h1 : GSs X body t) (h2 : GSs X orelse u) : GS X (.If test body orelse pos) (tGIf tc t u) := by
  refine ⟨fun A S ip R n ys s₀ c fs K J gd lv s σ H D g hn k hI ht => ?_⟩
  obtain ⟨acc, cc, r, I⟩ := hI
  refine seg_if ?_
  rw [g.over]
  refine wpAny_mono (hc.run _ s σ H _ I ht) (fun b s1 q => ?_) fun x s1 hx => k.exc n s₀ x s1 hx
  obtain ⟨H1, I1, q⟩ := q
  cases b with
  | true =>
    rw [if_pos rfl] at q ⊢
    exact h1.run A S ip R n ys s₀ c fs K J gd lv s1 σ H1 D g hn k ⟨acc, cc, r, I1⟩ q
  | false =>
    rw [if_neg Bool.false_ne_true] at q ⊢
    exact h2.run A S ip R n ys s₀ c fs K J gd lv s1 σ H1 D g hn k ⟨acc, cc, r, I1⟩ q
def tGFor (wi : TI) (g : TG) (tb : TGn) : TGn := fun D ys σ H => wi σ H fun T H1 => ∃ W : Nat → Nat → List V → L2.St → Hp → Prop, (∃ m, W 0 m ys σ H1) ∧ ∀ i m ys σ H, W i m ys σ H →
  (T.stop i H ∧ D.nx ys σ H) ∨ (T.go i H ∧ ∃ N : List V → L2.St → Hp → Prop, (∀ ys' σ' H', N ys' σ' H' → ∃ m', m' < m ∧ W (i + 1) m' ys' σ' H') ∧ ∀ x H', T.yld i H x H' → g x σ H' fun σ2 H2 => tb { D with nx := N, ct := N, bk := D.nx } ys σ2 H2)
theorem GI.ext {S : Addr} {ip pl : List (Addr × Obj)} {ys : List V} {σ : L2.St} {H : Hp} {s : Shared} {fp : List Addr} (h : GI X S ip ys σ H s) (hf : ∀ acc c, ∀ b ∈ fp, FpOk X ((S, lstObj acc c) :: ip) H b)
    (ho : ∀ b ∈ fp, ∃ o, s.heap.get? b = some o ∧ ∀ v, o.data ≠ .cell v) : GI X S (ip ++ pinsAt fp s.heap) ys σ H s := by
  obtain ⟨acc, c, r, I⟩ := h
  exact ⟨acc, c, r, I.pinned (hf acc c) ho⟩
theorem GI.strip {S : Addr} {ip pl : List (Addr × Obj)} {ys : List V} {σ : L2.St} {H : Hp} {s : Shared} (h : GI X S (ip ++ pl) ys σ H s) : GI X S ip ys σ H s := by
  obtain ⟨acc, c, r, I⟩ := h
  exact ⟨acc, c, r, Inv.unpinned (pl := pl) I⟩
theorem GI.pinAt {S : Addr} {ip : List (Addr × Obj)} {ys : List V} {σ : L2.St} {H : Hp} {s : Shared} {p : Addr × Obj} (h : GI X S ip ys σ H s) (hp : p ∈ ip) : s.heap.get? p.1 = some p.2 ∧ H p.1 = none := by
  obtain ⟨acc, c, r, I⟩ := h
  obtain ⟨a, b, _⟩ := I.pin p (List.mem_append_right _ (List.mem_cons_of_mem _ hp))
  exact ⟨a, b⟩
theorem fpOk_acc {S : Addr} {ip : List (Addr × Obj)} {H : Hp} {b : Addr} {acc acc' : Array Value} {c c' : Nat} (h : FpOk X ((S, lstObj acc c) :: ip) H b) : FpOk X ((S, lstObj acc' c') :: ip) H b := by
  obtain ⟨h1, h2, h3, h4, h5, h6⟩ := h
  refine ⟨h1, h2, h3, h4, h5, fun p hp => ?_⟩
  rcases List.mem_append.mp hp with q | q
  · exact h6 p (List.mem_append_left _ q)
  · rcases List.mem_cons.mp q with q | q
    · rw [q]
      exact h6 (S, lstObj acc c) (List.mem_append_right _ List.mem_cons_self)
    · exact h6 p (List.mem_append_right _ (List.mem_cons_of_mem _ q))
theorem gs_for {tg iter : Expr} {body : List Stmt} {pos : Pos} {wi : TI} {g0 : TG} {tb : TGn} (hp : PassesOwn (model X.prog X.w) X.A X.env X.xe) (hc : X.calm = true) (hi : PI X tg iter wi) (hg : PG X tg g0) (hb : GSs X body tb)
    (hs : ∀ x, foldedSetIterable iter X.env x = pure x := by intro _; rfl) : GS X (.For tg iter body [] pos) (tGFor wi g0 tb) := by
  refine ⟨fun A S ip R n ys s₀ c fs K J gd lv s σ H D g hn k hI ht => ?_⟩
  have hI0 := hI
  obtain ⟨acc, cc, r, I⟩ := hI
  refine seg_for hs ?_
  rw [g.over]
  refine wpAny_mono (hi.run _ s σ H _ I ht) (fun v s1 h1 => wpAny_mono h1 (fun itv s2 h2 p l => ?_) fun x s2 hx => k.exc n s₀ x s2 hx) fun x s1 hx => k.exc n s₀ x s1 hx
  obtain ⟨it, fp, tn, T0, H2, e, I2, T, st2, f2, W, ⟨m0, w0⟩, turn⟩ := h2
  subst e
  have stat : ∀ {H' : Hp}, (∀ b ∈ fp, H' b = none) → ∀ (a' : Array Value) (c' : Nat), ∀ b ∈ fp, FpOk X ((S, lstObj a' c') :: ip) H' b := fun h0 a' c' b hb => fpOk_acc ⟨h0 b hb, (f2 b hb).2⟩
  have gl := fun (c' : Code) (hw : c'.weight = 0) (hu : c'.cUnits = 0) => gc_loop (k := backK X.env K J gd lv) (c' := c') (l := l) (kp := []) (p := p) g hw hu
  have ee : ∀ (c' : Code) (hw : c'.weight = 0) (hu : c'.cUnits = 0) (n : Nat) (s₀ : Shared) (x : Value) (s' : Shared), X.xe x s' → Seg (model X.prog X.w) A R (GY X S) n s₀ c' (notedJ X.env x)
      (.ret (backK X.env K J gd lv) none (gd false) l c p [] :: fs) s' := fun c' hw hu n s₀ x s' hx => by
    refine seg_wrap ?_
    rw [(gl c' hw hu).over]
    refine wpAny_bind (wpAny_mono (hp x s' hx) (fun _ s'' hcb => wpAny_theTreesLotGoes ?_) fun y s'' hcb => ?_)
    · exact seg_leaf (.error x) (seg_cameBack g k hcb)
    · exact seg_leaf (.error y) (seg_cameBack g k hcb)
  have loop : ∀ (m i n : Nat) (ys : List V) (s₀ s : Shared) (σ : L2.St) (H : Hp), n + ys.length = sizeLine → W i m ys σ H → GI X S ip ys σ H s → tn i s.heap → (∀ b ∈ fp, H b = none) →
      Seg (model X.prog X.w) A R (GY X S) n s₀ (.forLoop tg (.ref it) body [] X.env) ((model X.prog X.w).den (.forLoop tg (.ref it) body [] X.env)) (.ret (backK X.env K J gd lv) none (gd false) l c p [] :: fs) s := by
    intro m
    induction m using Nat.strongRecOn with
    | ind m ih =>
      intro i n ys s₀ s σ H hn w hI st fr
      have hI1 := hI
      obtain ⟨acc, cc, r, I⟩ := hI
      have ov := (gl (.forLoop tg (.ref it) body [] X.env) rfl rfl).over
      refine seg_forLoop rfl ?_
      rw [ov]
      rcases turn i m ys σ H w with ⟨stop, qn⟩ | ⟨go, N, hN, step⟩
      · refine wpAny_mono (T.done X rfl rfl rfl hc i _ s σ H X.xe I (stat fr _ _) st stop) (fun r s1 q => ?_) fun x s1 hx => ee _ rfl rfl n s₀ x s1 hx
        obtain ⟨hr, I1⟩ := q
        subst hr
        refine seg_block rfl (seg_execs_nil ?_)
        exact seg_leaf (.ok .next) (k.ok n ys s₀ s1 .next hn ⟨σ, H, ⟨acc, cc, r, I1⟩, qn⟩)
      · refine wpAny_mono (T.item X rfl rfl rfl hc i _ s σ H X.xe I (stat fr _ _) st go) (fun r s1 q => ?_) fun x s1 hx => ee _ rfl rfl n s₀ x s1 hx
        obtain ⟨u, hr, h4⟩ := q
        subst hr
        refine wpAny_mono h4 (fun _ s5 q5 => ?_) fun x s1 hx => ee _ rfl rfl n s₀ x s1 hx
        obtain ⟨x, H5, I5, r5, y5, st5, fr5⟩ := q5
        have I5' := I5.pinned (stat fr5 _ _) (T.obj _ _ st5)
        refine wpAny_mono (hg.run _ s5 σ H5 x u _ I5' r5 (step x H5 y5)) (fun _ s6 q6 => ?_) fun x s1 hx => ee _ rfl rfl n s₀ x s1 hx
        obtain ⟨σ6, H6, I6, q6⟩ := q6
        have gp : GC X S (ip ++ pinsAt fp s5.heap) A (.forLoop tg (.ref it) body [] X.env) (.ret (backK X.env K J gd lv) none (gd false) l c p [] :: fs) id := by
          have g2 := gl (.forLoop tg (.ref it) body [] X.env) rfl rfl
          refine ⟨g2.pn, fun q hq => ?_, g2.apart, g2.over, g2.split, g2.guard, g2.gd⟩
          rcases List.mem_append.mp hq with hq | hq
          · exact g2.ip q hq
          · obtain ⟨hb, _⟩ := of_pinsAt hq
            intro e
            exact (stat fr5 acc cc q.1 hb).2.2.2.2.2 (S, lstObj acc cc) (List.mem_append_right _ List.mem_cons_self) e.symm
        refine hb.run A S (ip ++ pinsAt fp s5.heap) R n ys s₀ _ _ _ _ id id s6 σ6 H6 { D with nx := N, ct := N, bk := D.nx } gp hn ⟨fun n' ys' s₀' s7 f hn' hs7 => ?_, fun n' s₀' x s7 hx => ee _ rfl rfl n' s₀' x s7 hx⟩ ⟨acc, cc, r, I6⟩ q6
        have again : ∀ {σ7 : L2.St} {H7 : Hp}, GI X S (ip ++ pinsAt fp s5.heap) ys' σ7 H7 s7 → N ys' σ7 H7 →
            Seg (model X.prog X.w) A R (GY X S) n' s₀' (.forLoop tg (.ref it) body [] X.env) (.pure (.again (.forLoop tg (.ref it) body [] X.env))) (.ret (backK X.env K J gd lv) none (gd false) l c p [] :: fs) s7 := fun {σ7 H7} I7 n7 => by
          obtain ⟨m', hm, w7⟩ := hN ys' σ7 H7 n7
          refine seg_again rfl (ih m' hm (i + 1) n' ys' s₀' s7 σ7 H7 hn' w7 (GI.strip I7) (T.keep _ _ _ st5 fun b hb o e => (GI.pinAt I7 (List.mem_append_right _ (mem_pinsAt hb e))).1) fun b hb => ?_)
          obtain ⟨o, e, d⟩ := T.obj _ _ st5 b hb
          exact (GI.pinAt I7 (List.mem_append_right _ (mem_pinsAt hb e))).2
        cases f with
        | next => obtain ⟨σ7, H7, I7, n7⟩ := hs7; exact again I7 n7
        | cont => obtain ⟨σ7, H7, I7, n7⟩ := hs7; exact again I7 n7
        | brk => obtain ⟨σ7, H7, I7, q7⟩ := hs7; exact seg_leaf (.ok .next) (k.ok n' ys' s₀' s7 .next hn' ⟨σ7, H7, GI.strip I7, q7⟩)
        | ret v => obtain ⟨x7, σ7, H7, I7, r7, q7⟩ := hs7; exact seg_leaf (.ok (.ret v)) (k.ok n' ys' s₀' s7 (.ret v) hn' ⟨x7, σ7, H7, GI.strip I7, r7, q7⟩)
  exact loop m0 0 n ys s₀ s2 σ H2 hn w0 ⟨acc, cc, r, I2⟩ st2 fun b hb => (f2 b hb).1
end
end MkG
-- MkGs
namespace Mk
open Im (rep)
open PySem PySem.Spec PyProof.Rows L2
variable {T : Tx}
section
variable {X : Cx}
theorem pi_nox {tg iter : Expr} {wi : TI} (h : PI X.nox tg iter wi) : PI X tg iter wi := ⟨fun pins s σ H R I hw =>
  wpAny_mono (h.run pins s σ H R (I.wish _) hw) (fun v s1 q => wpAny_mono q (fun itv s2 ⟨it, fp, tn, J, H', e, I', T, st, f, r⟩ => ⟨it, fp, tn, J, H', e, I'.unwish, T, st, f, r⟩) fun _ _ z => False.elim z) fun _ _ z => False.elim z⟩
theorem ps_nox {st : Stmt} {t : TS} (h : PS X.nox st t) : PS X st t := ⟨fun pins s σ H D I hw =>
  wpAny_mono (h.run pins s σ H D (I.wish _) hw) (fun _ _ q => q.unwish) fun _ _ z => False.elim z⟩
end
def spCs (T : Tx) : SpG := fun vs H Q E => ∃ x : RulT T, RulPre x ∧ ArgsOk none H vs [.im x] ∧ ∀ ws H', Le none H H' → Reps H' ws (closedL x.cols x.rules) → Q ws H'
theorem sc_closed_sets : GScope ["rules", "some"] ["rules"] (defScope (top 47)) := ⟨rfl, rfl, rfl, by decide +kernel, rfl, by decide +kernel, by decide +kernel⟩
theorem gen_closed_sets (h : Top T) : ∃ f fd, GFn T.P T.w T.K T.mg T.base 5 f fd ["rules"] (spCs T) ∧ T.mg "closed_sets" = some (.ref f) ∧ PySem.W.keepIn T.K (.ref f) = true ∧ Binds T.K fd ["rules"] [] := by
  obtain ⟨f, fd, F, hm⟩ := at_closed_sets h
  have hB := FunD.bindsN F (ps := ["rules"]) (fun _ _ _ _ _ _ us hl => match us, hl with | [_], _ => rfl)
  have kp := F.kp
  obtain ⟨oc, od, dV, kV, doc, pm, an, cdv, ct, osl, rfl, lk, hcd, _, _⟩ := F.ex
  refine ⟨f, _, gfn_of (k := 4) lk hcd sc_closed_sets (fun vs H Q E ⟨x, _, ha, _⟩ => by rw [(args_env ha).1]; rfl) (fun A outer s H vs Q E pn hr ⟨x, ⟨hx, hc⟩, ha, hq⟩ => ?_), hm, kp, hB⟩
  let C : Cg := ⟨T, ["rules", "some"], defScope (top 47), 4, none, fun _ => true⟩
  have ok : Cok C (gcxOf T.P T.w T.K T.mg T.base ["rules", "some"] "closed_sets" (defScope (top 47)) f cdv A outer s H E pn).nox := ⟨rfl, rfl, rfl, rfl, rfl, rfl, sc_closed_sets.nd, rfl, rfl, hr, rfl, fun _ _ => rfl⟩
  have E0 : Env none H [.im x, .no] (start ["rules", "some"] vs) H := env_start DiceAt.no ha (N := ["rules", "some"]) (Nat.le_of_ble_eq_true rfl)
  refine ⟨_, gss_cons (gs_ps (t := tSt C _) (ps_nox (ps_tS ok))) (gss_cons (MkG.gs_for (wi := tI C _ _) (g0 := gName 1) owns_gcx rfl (pi_nox (pi_tI ok)) (pg_name sc_closed_sets.nd rfl (.inl rfl) (.inr rfl))
    (gss_cons (MkG.gs_if (tc := tT C _) (PT.nox (pt_tT ok)) (gss_cons (gs_yield (te := tE C _) (PE.nox (pe_tE ok)) rfl rfl) gss_nil) gss_nil) gss_nil)) gss_nil), ?_⟩
  refine tS_of (t := tDrop (tE C _)) (fun X ok => ps_expr (pe_tE ok) rfl) ?_
  refine (?_ : EvR C [.im x, .no] _ Ret.non) H _ H E0 _ fun v H1 hv => ?_
  · exact ev_call (ok_require_rules h) x (ea_var (i := 0) rfl ea_nil) rfl trivial
  obtain ⟨le, Di, ln, own, ow⟩ := E0.go hv.1
  refine (?_ : EvI C [.im x, .no] _ _ (· = setsOf x.cols)) H _ H1 own le Di ln ow _ fun J H2 xs cs l p w hcs => ?_
  · exact ei_new (ev_call (ok_sets_of h) x.cols (ea_im (ev_columns (x := x) h ((ev_var (i := 0) rfl))) ea_nil) rfl hc)
  subst p
  have hsl := setsOf_len hc
  have kp : ∀ H', Le none H2 H' → TLe H2 H' ∧ ∀ a ∈ cs, H' a = H2 a := fun H' k => ⟨k.tle, fun a ha => by
    obtain ⟨h1, h2, o, h3⟩ := hcs a ha
    rw [h3]
    exact k.keep h3 h2⟩
  have wk := w.2 (fun H' => Le none H2 H') kp
  refine ⟨fun i m ys σ H' => m = (setsOf x.cols).length - i ∧ i ≤ (setsOf x.cols).length ∧ (∃ a, Env none H [.im x, a] σ H') ∧ Le none H2 H' ∧ Reps H' ys (((setsOf x.cols).take i).filter (closedB x.rules)), ⟨_, rfl, Nat.zero_le _, ⟨_, (Env.mk le Di ln ⟨own, ow⟩).go l⟩, Le.refl _ _, by rw [List.take_zero]; exact trivial⟩, ?_⟩
  rintro i m ys σ H' ⟨rfl, hi, ⟨a, E'⟩, k, r⟩
  by_cases hlt : i < (setsOf x.cols).length
  · refine .inr ⟨wk.goes i H' hlt k, fun ys σ H' => i + 1 ≤ (setsOf x.cols).length ∧ (∃ a, Env none H [.im x, a] σ H') ∧ Le none H2 H' ∧ Reps H' ys (((setsOf x.cols).take (i + 1)).filter (closedB x.rules)), fun ys' σ' H'' q => ⟨_, ?_, rfl, q⟩, fun v H'' y => ?_⟩
    · omega
    obtain ⟨sm, t, ht, rt⟩ := wk.yields i H' v H'' hlt k y
    have k2 : Le none H' H'' := Le.of_same sm
    have E2 := (E'.go k2).set_im (i := 1) (Nat.le_of_ble_eq_true rfl) rt
    refine (?_ : EvT C [.im x, .im t] _ (· = closedB x.rules t)) H _ H'' E2 _ fun b H3 k3 hb => ?_
    · exact et_val (ev_call (ok_is_closed_in h) (x, t) (ea_var (i := 0) rfl (ea_var (i := 1) (s := .im t) rfl ea_nil)) rfl trivial)
    subst hb
    have k4 := (k.trans k2).trans k3
    have r3 := r.keep (k2.trans k3).tle
    cases hcb : closedB x.rules t with
    | true =>
      have hle := List.length_filter_le (closedB x.rules) ((setsOf x.cols).take i)
      rw [List.length_take] at hle
      rw [if_pos rfl]
      refine ⟨by rw [r.len, sizeLine_eq]; omega, ?_⟩
      refine (?_ : EvR C [.im x, .im t] _ (.im (· = t))) H _ H3 (E2.go k3) _ fun u H4 ⟨k5, t', et, ru⟩ => ?_
      · exact (ev_var (i := 1) rfl)
      subst et
      refine ⟨by omega, ⟨_, (E2.go k3).go k5⟩, k4.trans k5, ?_⟩
      rw [filter_take _ ht, hcb]
      exact (r3.keep k5.tle).app ⟨ru, trivial⟩
    | false =>
      rw [if_neg Bool.false_ne_true]
      refine ⟨by omega, ⟨_, E2.go k3⟩, k4, ?_⟩
      rw [filter_take _ ht, hcb]
      show Reps _ _ (_ ++ [])
      rw [List.append_nil]
      exact r3
  · have e : i = (setsOf x.cols).length := by omega
    subst e
    refine .inl ⟨wk.stops H' k, ?_⟩
    rw [List.take_length] at r
    exact hq ys H' E'.le r
section
variable {C : Cg} {G : List Slot}
theorem ev_closedList {e : Expr} {lp cp pos cpos : Pos} {x : RulT T} (h : Top T) (he : EvR C G e (.im (· = x))) (hx : RulPre x) (hk : 9 ≤ C.k := by exact Nat.le_of_ble_eq_true rfl) (hg : C.sc.names.lookup ("list" : Str) = some .globalImplicit := by rfl) (hg2 : C.sc.names.lookup ("closed_sets" : Str) = some .globalImplicit := by rfl)
    (hs : ∀ env, starEach [e] env = (false, eval e env) :: starEach [] env := by intro _; rfl) (hs2 : ∀ env, starEach [.Call (.Name "closed_sets" cp) [e] [] cpos] env = (false, eval (.Call (.Name "closed_sets" cp) [e] [] cpos) env) :: starEach [] env := by intro _; rfl)
    (hpl : ∀ env, (backTo cpos (starEach [] env)).any (·.1) = false := by intro _; rfl) (hT : C.T = T := by rfl) :
    EvR C G (.Call (.Name "list" lp) [.Call (.Name "closed_sets" cp) [e] [] cpos] [] pos) (.ls (· = closedL x.cols x.rules)) := fun B σ H E Q q => by
  subst hT
  obtain ⟨f, fd, F, hm, kp, hB⟩ := gen_closed_sets h
  refine tE_of (t := tListG (tCallG (spCs C.T) [] (fun _ _ _ => False) (tCons (tE C e) tNil))) (fun X ok => ?_) ?_
  · refine pe_listG (k := 5) (pgen_call (by rw [ok.prog, ok.w, ok.K, ok.mg, ok.base]; exact F) (ok.room.mono (by omega)) (gl_of ok hg2) (by rw [ok.mg]; exact hm) (by rw [ok.K]; exact kp) (by rw [ok.K]; exact hB) .nil (pa_cons (pe_tE ok) pa_nil (hs _)) (by decide) (hs _) (hpl _)) ?_ (fun _ _ _ z => z.elim) (ok.room.mono (by omega)) (gl_of ok hg) (by rw [ok.mg]; exact (blt h).list) PyProof.Rows.boot_list (by decide) (by decide) (hs2 _)
    intro pins σ H s e s' I hc
    obtain ⟨a, B, H', cls, d, z1, fl, z2, ub, z3, z4, z5, z6⟩ := hc
    first | exact False.elim z6 | exact False.elim z4 | exact False.elim z3 | exact False.elim z2 | exact False.elim z5
  · refine he B σ H E _ fun v H1 ⟨l, _, ex, r⟩ => ?_
    subst ex
    refine ⟨_, hx, ⟨⟨v, rfl, r⟩, trivial⟩, fun ws H2 l2 rs p hp => ?_⟩
    have l3 := l.trans l2.of_none
    refine q _ _ ⟨l3.trans (Le.new hp), p, ws, _, rfl, l3.free hp, upd_same, rs.keep (Le.new (d := none) hp).tle, rfl⟩
end
end Mk
-- MkLs
namespace Mk
open Im (rep)
open PySem PySem.Spec PyProof.Rows L2
variable {T : Tx}
theorem filter_none {α : Type} {p : α → Bool} {L : List α} (h : ∀ x ∈ L, p x = false) : L.filter p = [] := List.filter_eq_nil_iff.mpr fun x hx => by rw [h x hx]; exact Bool.false_ne_true
section
variable {C : Cg} {G : List Slot}
theorem ev_common (h : Top T) {a b : Expr} {p pos : Pos} {s t : List Nm} (ha : EvR C G a (.im (· = s))) (hb : EvR C G b (.im (· = t))) (hk : 1 ≤ C.k := by exact Nat.le_of_ble_eq_true rfl)
    (hg : C.sc.names.lookup ("_law_common" : Str) = some .globalImplicit := by rfl) (hs : ∀ env, starEach [a, b] env = (false, eval a env) :: starEach [b] env := by intro _; rfl) (hs2 : ∀ env, starEach [b] env = (false, eval b env) :: starEach [] env := by intro _; rfl)
    (hpl : ∀ env, (backTo pos (starEach [b] env)).any (·.1) = false := by intro _; rfl) (hT : C.T = T := by rfl) : EvR C G (.Call (.Name "_law_common" p) [a, b] [] pos) (.im (· = common s t)) :=
  ev_call (ok_law_common h) (s, t) (ea_im ha (ea_im hb ea_nil hs2) hs) rfl trivial rfl hk hg hT (by decide) hs hpl
theorem ev_isClosed (h : Top T) {a b : Expr} {p pos : Pos} {x : RulT T} {t : List Nm} (ha : EvR C G a (.im (· = x))) (hb : EvR C G b (.im (· = t))) (ht : Cols t) (hsub : ∀ c ∈ t, c ∈ x.cols) (hk : 5 ≤ C.k := by exact Nat.le_of_ble_eq_true rfl)
    (hg : C.sc.names.lookup ("is_closed" : Str) = some .globalImplicit := by rfl) (hs : ∀ env, starEach [a, b] env = (false, eval a env) :: starEach [b] env := by intro _; rfl) (hs2 : ∀ env, starEach [b] env = (false, eval b env) :: starEach [] env := by intro _; rfl)
    (hpl : ∀ env, (backTo pos (starEach [b] env)).any (·.1) = false := by intro _; rfl) (hT : C.T = T := by rfl) : EvR C G (.Call (.Name "is_closed" p) [a, b] [] pos) (.im (· = closedB x.rules t)) :=
  ev_call (ok_is_closed h) (x, t) (ea_im ha (ea_im hb ea_nil hs2) hs) rfl ⟨ht, hsub⟩ rfl hk hg hT (by decide) hs hpl
theorem ev_closure (h : Top T) {a b : Expr} {p pos : Pos} {x : RulT T} {t : List Nm} (ha : EvR C G a (.im (· = x))) (hb : EvR C G b (.im (· = t))) (hx : RulOk x) (hsub : ∀ c ∈ t, c ∈ x.cols) (hk : 5 ≤ C.k := by exact Nat.le_of_ble_eq_true rfl)
    (hg : C.sc.names.lookup ("closure_of" : Str) = some .globalImplicit := by rfl) (hs : ∀ env, starEach [a, b] env = (false, eval a env) :: starEach [b] env := by intro _; rfl) (hs2 : ∀ env, starEach [b] env = (false, eval b env) :: starEach [] env := by intro _; rfl)
    (hpl : ∀ env, (backTo pos (starEach [b] env)).any (·.1) = false := by intro _; rfl) (hT : C.T = T := by rfl) : EvR C G (.Call (.Name "closure_of" p) [a, b] [] pos) (.im (· = Cl x.cols x.rules t)) :=
  ev_call (ok_closure_of h) (x, t) (ea_im ha (ea_im hb ea_nil hs2) hs) rfl ⟨hx, hsub⟩ rfl hk hg hT (by decide) hs hpl
theorem ev_follows (h : Top T) {a b : Expr} {p pos : Pos} {x : RulT T} {r : Rule} (ha : EvR C G a (.im (· = x))) (hb : EvR C G b (.im (· = r))) (hx : RulOk x) (hr : ROk x.cols r) (hk : 7 ≤ C.k := by exact Nat.le_of_ble_eq_true rfl)
    (hg : C.sc.names.lookup ("follows" : Str) = some .globalImplicit := by rfl) (hs : ∀ env, starEach [a, b] env = (false, eval a env) :: starEach [b] env := by intro _; rfl) (hs2 : ∀ env, starEach [b] env = (false, eval b env) :: starEach [] env := by intro _; rfl)
    (hpl : ∀ env, (backTo pos (starEach [b] env)).any (·.1) = false := by intro _; rfl) (hT : C.T = T := by rfl) : EvR C G (.Call (.Name "follows" p) [a, b] [] pos) (.im (· = within r.2 (Cl x.cols x.rules r.1))) :=
  ev_call (ok_follows h) (x, r) (ea_im ha (ea_im hb ea_nil hs2) hs) rfl ⟨hx, hr⟩ rfl hk hg hT (by decide) hs hpl
theorem ev_someC (h : Top T) {i : Nat} {x : Str} {e f : Expr} {p q pos : Pos} {cs : List Nm} {n : Int} (hG : G[i]? = some .di) (he : EvR C G e (.im (· = cs))) (hf : EvR C G f (.im (· = n))) (hn : 0 < n ∧ n < 1073741824) (hk : 2 ≤ C.k := by exact Nat.le_of_ble_eq_true rfl) (hN : C.N[i]? = some x := by rfl)
    (hv : Vis C.sc x := by first | exact Or.inl rfl | exact Or.inr (Or.inl rfl) | exact Or.inr (Or.inr rfl)) (hd : (x == ("__debug__" : Str)) = false := by decide) (hcd : (x == ("__classdict__" : Str)) = false := by decide)
    (hg : C.sc.names.lookup ("_law_some" : Str) = some .globalImplicit := by rfl) (hs : ∀ env, starEach [e, f] env = (false, eval e env) :: starEach [f] env := by intro _; rfl) (hs2 : ∀ env, starEach [f] env = (false, eval f env) :: starEach [] env := by intro _; rfl) (hpl : ∀ env, (backTo pos (starEach [e, f] env)).any (·.1) = false := by intro _; rfl) (hT : C.T = T := by rfl) :
    EvR C G (.Call (.Name "_law_some" p) [.Name x q, e, f] [] pos) (.im fun ys : List Nm => ys.Sublist cs) :=
  ev_callD (ok_someT h) (cs, n) (ea_var (s := .di) hG (ea_im he (ea_im hf ea_nil hs2) hs) (hN := hN) (hv := hv) (hd := hd) (hcd := hcd)) rfl hn hk hg hT (by decide) (fun _ => rfl) hpl
end
theorem RulPre.over {C : Addr} {x : Rul C} (h : RulPre x) : Over x.cols x.rules := h.1.over
theorem sc_sets_right : FnScope ["_law_some_here", "_law_closed", "_law_one", "_law_above", "_law_other"] ["_law_some_here"] (defScope (top 78)) := ⟨rfl, rfl, rfl, by decide +kernel, rfl, by decide +kernel, by decide +kernel⟩
theorem ok_sets_right (h : Top T) : Fn T 10 "_law_sets_right" (spC (β := RulT T) false (fun b => [.im b]) RulPre (fun _ => .im (· = true))) := by
  refine def_ok (at_law_sets_right h) sc_sets_right (fun _ _ _ _ _ _ us hl => match us, hl with | [_], _ => rfl) (fun b => rfl) fun x d hd hp => ?_
  have ho := hp.over
  obtain ⟨hx, hc⟩ := hp
  have hcc := hc.cols
  refine run_let (i := 1) put_ro (ev_closedList h (x := x) ((ev_var (i := 0) rfl)) ⟨hx, hc⟩) fun G' hG => ?_
  obtain ⟨_, rfl, rfl⟩ := hG
  refine run_for (ei_ro (i := 1) (xs := closedL x.cols x.rules) rfl) (bnd_name (i := 2)) (I := fun L i G' => ∃ a, G' = [.im x, .ro (closedL x.cols x.rules), a, .no, .no]) (fun L e => ⟨_, rfl⟩) ?_ ?_ ?_
  · rintro L i G' ⟨a, rfl⟩; rfl
  · rintro L i s G' rfl hs ⟨a, rfl⟩
    obtain ⟨s1, s2⟩ := (mem_closedL hc).mp (List.mem_of_getElem? hs)
    refine run_if (b := false) ((ev_neL (el_ls (ev_lc (own := [("_law_other", 4)]) (lc_filter (fun o : List Nm => !closedB x.rules (common s o)) (fun o : List Nm => o) rfl (ei_ro (i := 1) rfl) (by kernel_rfl) (bnd_name (i := 4)) (by decide) (fun o ho => ?_) fun o ho _ => (ev_var (i := 4) rfl)))) (el_ls (ev_lst0 (α := List Nm)))).t.to ?_) (fun z => by cases z) fun _ => run_nil (run_nil ⟨_, rfl⟩)
    · exact et_not (et_val (ev_isClosed h (x := x) ((ev_var (i := 0) rfl)) (ev_common h (ev_var (i := 2) (a := s) rfl) (ev_var (i := 4) (a := o) rfl)) (hcc.sub (common_sub.trans s1)) fun c hc => (common_sub.trans s1).subset hc))
    · rw [filter_none fun o ho => by rw [closed_common s2 ((mem_closedL hc).mp ho).2]; rfl]
      rfl
  · rintro L G' rfl ⟨a, rfl⟩
    refine run_for (ei_new (ev_call (ok_subsets h) x.cols (ea_im (ev_columns (x := x) h ((ev_var (i := 0) rfl))) ea_nil) rfl hc.len)) (bnd_name (i := 2)) (I := fun L i G' => ∃ a b, G' = [.im x, .ro (closedL x.cols x.rules), a, b, .no]) (fun L e => ⟨_, _, rfl⟩) ?_ ?_ ?_
    · rintro L i G' ⟨a, b, rfl⟩; rfl
    · rintro L i s G' rfl hs ⟨a, b, rfl⟩
      have hss : s.Sublist x.cols := (asc_sublist hc.asc).mpr ((mem_setsOf hc).mp (by rw [← subsL_eq hc]; exact List.mem_of_getElem? hs))
      obtain ⟨tl, htl⟩ := above_head hc ho hss
      refine run_let (i := 3) put_ro ((ev_lc (own := [("_law_other", 4)]) (lc_filter (fun o : List Nm => decide (common s o = s)) (fun o : List Nm => o) rfl (ei_ro (i := 1) rfl) (by kernel_rfl) (bnd_name (i := 4)) (by decide) (fun o ho => ?_) fun o ho _ => (ev_var (i := 4) rfl))).impL (P' := (· = aboveL x.cols x.rules s)) fun ys e => e.trans (List.map_id' _)) fun G' hG => ?_
      · exact (ev_eqD (ev_common h (ev_var (i := 2) (a := s) rfl) (ev_var (i := 4) (a := o) rfl)) (ev_var (i := 2) (a := s) rfl)).t
      obtain ⟨_, rfl, rfl⟩ := hG
      have hat : ∀ ys n, ys = aboveL x.cols x.rules s → n = (0 : Int) → ∃ z, L2.atI ys n = some z ∧ z = Cl x.cols x.rules s := by
        rintro ys n rfl rfl
        exact ⟨_, atI_nat (j := 0) (by rw [htl]; rfl), rfl⟩
      refine run_if (b := false) ((ev_neD (ev_closure h (x := x) ((ev_var (i := 0) rfl)) (ev_var (i := 2) (a := s) rfl) hx (fun c hc => hss.subset hc)) (ev_ix (P := (· = aboveL x.cols x.rules s)) (S := (· = (0 : Int))) (R := (· = Cl x.cols x.rules s)) (es_ro (i := 3) rfl) ev_int hat)).t.to (by rw [decide_eq_true rfl]; rfl)) (fun z => by cases z) fun _ => run_nil ?_
      refine run_if (b := false) ((ev_neL (el_ls (ev_lc (own := [("_law_other", 4)]) (lc_filter (fun o : List Nm => !decide (common (Cl x.cols x.rules s) o = Cl x.cols x.rules s)) (fun o : List Nm => o) rfl (ei_ro (i := 3) rfl) (by kernel_rfl) (bnd_name (i := 4)) (by decide) (fun o ho => ?_) fun o ho _ => (ev_var (i := 4) rfl)))) (el_ls (ev_lst0 (α := List Nm)))).t.to ?_) (fun z => by cases z) fun _ => run_nil (run_nil ⟨_, _, rfl⟩)
      · exact (ev_neD (ev_common h (ev_ix (P := (· = aboveL x.cols x.rules s)) (S := (· = (0 : Int))) (R := (· = Cl x.cols x.rules s)) (es_ro (i := 3) rfl) ev_int hat) (ev_var (i := 4) (a := o) rfl)) (ev_ix (P := (· = aboveL x.cols x.rules s)) (S := (· = (0 : Int))) (R := (· = Cl x.cols x.rules s)) (es_ro (i := 3) rfl) ev_int hat)).t
      · rw [filter_none fun o ho => by rw [decide_eq_true (above_least hc ho)]; rfl]
        rfl
    · rintro L G' rfl ⟨a, b, rfl⟩
      refine run_ret ((ev_eqD (ev_ix (P := (· = closedL x.cols x.rules)) (S := (· = (-1 : Int))) (R := (· = x.cols)) (es_ro (i := 1) rfl) (ev_neg ev_int) ?_) (ev_columns (x := x) h ((ev_var (i := 0) rfl)))).v.to (decide_eq_true rfl))
      rintro ys n rfl rfl
      exact ⟨_, atI_last (closed_last hc ho), rfl⟩
theorem sc_follow_right : FnScope ["_law_dice_here", "_law_some_here", "_law_turn", "_law_one", "_law_other", "_law_more", "_law_far", "_law_due", "_law_wide"] ["_law_dice_here", "_law_some_here"] (defScope (top 79)) := ⟨rfl, rfl, rfl, by decide +kernel, rfl, by decide +kernel, by decide +kernel⟩
theorem ok_follow_right (h : Top T) : Fn T 8 "_law_follow_right" (spC (β := RulT T) true (fun b => [.di, .im b]) RulPre (fun _ => .im (· = true))) := by
  refine def_ok (at_law_follow_right h) sc_follow_right (fun _ _ _ _ _ _ us hl => match us, hl with | [_, _], _ => rfl) (fun b => rfl) fun x d hd hp => ?_
  have ho := hp.over
  obtain ⟨hx, hc⟩ := hp
  have hcc := hc.cols
  refine run_for (ei_range (P := (· = (6 : Int))) (blt h).range ev_int (fun m e => by omega)) (bnd_name (i := 2)) (I := fun _ i G' => ∃ a b c e f g k, G' = [.di, .im x, a, b, c, e, f, g, k]) (fun _ _ => ⟨_, _, _, _, _, _, _, rfl⟩) ?_ ?_ ?_
  · rintro _ i G' ⟨a, b, c, e, f, g, k, rfl⟩; rfl
  · rintro _ i z G' _ hz ⟨a, b, c, e, f, g, k, rfl⟩
    refine run_par (i := 3) (j := 4) put_im put_im (ev_someC h (i := 0) rfl (ev_columns (x := x) h ((ev_var (i := 1) rfl))) ev_int (by decide)) (ev_someC h (i := 0) rfl (ev_columns (x := x) h ((ev_var (i := 1) rfl))) ev_int (by decide)) (fun G' G'' h1 h2 => ?_) (fun G' ⟨a, _, e⟩ => by rw [e]; rfl)
    obtain ⟨one, h1, rfl⟩ := h1
    obtain ⟨oth, h2, rfl⟩ := h2
    have h1 : one.Sublist x.cols := h1
    have h2 : oth.Sublist x.cols := h2
    have s1 : ∀ c ∈ one, c ∈ x.cols := fun c hc => h1.subset hc
    have s2 : ∀ c ∈ oth, c ∈ x.cols := fun c hc => h2.subset hc
    refine run_setP (i := 5) (ev_someC h (i := 0) rfl (ev_columns (x := x) h ((ev_var (i := 1) rfl))) ev_int (by decide)) fun more h3 => ?_
    have s3 : ∀ c ∈ more, c ∈ x.cols := fun c hc => h3.subset hc
    have sf : ∀ c ∈ Cl x.cols x.rules one, c ∈ x.cols := fun c hc => Cl_sub.subset hc
    have sw : ∀ c ∈ joined x.cols one more, c ∈ x.cols := fun c hc => (joined_sub _ _ _).subset hc
    refine run_set (i := 6) (a := Cl x.cols x.rules one) (ev_closure h (x := x) ((ev_var (i := 1) rfl)) (ev_var (i := 3) (a := one) rfl) hx s1) ?_
    refine run_set (i := 7) (a := decide (common oth (Cl x.cols x.rules one) = oth)) (ev_eqD (ev_common h (ev_var (i := 4) (a := oth) rfl) (ev_var (i := 6) (a := Cl x.cols x.rules one) rfl)) (ev_var (i := 4) (a := oth) rfl)).v ?_
    refine run_if (b := false) (EvT.to (et_w (ew_and (y := false) (ev_neD (ev_var (i := 4) (a := oth) rfl) (ev_tup0 (α := Nm))).t fun hne => ew_and1 ((ev_neD (ev_follows h (x := x) (r := (one, oth)) ((ev_var (i := 1) rfl)) (ev_pairE (ev_var (i := 3) (a := one) rfl) (ev_var (i := 4) (a := oth) rfl)) hx (rok_of hcc h1 ⟨by simpa using hne, h2⟩)) (ev_var (i := 7) rfl)).t.to ?_))) (Bool.and_false _)) (fun z => by cases z) fun _ => run_nil ?_
    · rw [decide_eq_true (show within oth (Cl x.cols x.rules one) = _ from within_common)]; rfl
    refine run_set (i := 8) (a := joined x.cols one more) (ev_call (ok_law_joined h) (x.cols, one, more) (ea_im (ev_columns (x := x) h ((ev_var (i := 1) rfl))) (ea_var (i := 3) (s := .im one) rfl (ea_var (i := 5) (s := .im more) rfl ea_nil))) rfl trivial) ?_
    refine run_if (b := false) (EvT.to (et_w (ew_or (x := false) (y := false) ((ev_neD (ev_common h (ev_var (i := 6) (a := Cl x.cols x.rules one) rfl) (ev_closure h (x := x) ((ev_var (i := 1) rfl)) (ev_var (i := 8) (a := joined x.cols one more) rfl) hx sw)) (ev_var (i := 6) rfl)).t.to (by rw [decide_eq_true (clo_wide s1)]; rfl)) fun _ => ew_or1 ((ev_neD (ev_closure h (x := x) ((ev_var (i := 1) rfl)) (ev_var (i := 6) (a := Cl x.cols x.rules one) rfl) hx sf) (ev_var (i := 6) rfl)).t.to (by rw [decide_eq_true (clo_twice hc.asc ho)]; rfl)))) rfl) (fun z => by cases z) fun _ => run_nil ?_
    refine run_if (b := false) (EvT.to (et_w (ew_and (y := false) (ev_neD (ev_var (i := 5) (a := more) rfl) (ev_tup0 (α := Nm))).t fun hne => EvW.to' (ew_and (y := false) (ev_neD (ev_var (i := 6) (a := Cl x.cols x.rules one) rfl) (ev_tup0 (α := Nm))).t fun _ => ew_and1 ((et_not (et_val (ev_follows h (x := x) (r := (joined x.cols one more, joined x.cols (Cl x.cols x.rules one) more)) ((ev_var (i := 1) rfl)) (ev_pairE (ev_var (i := 8) rfl) (ev_call (ok_law_joined h) (x.cols, Cl x.cols x.rules one, more) (ea_im (ev_columns (x := x) h ((ev_var (i := 1) rfl))) (ea_var (i := 6) (s := .im (Cl x.cols x.rules one)) rfl (ea_var (i := 5) (s := .im more) rfl ea_nil))) rfl trivial)) hx (rok_of hcc (joined_sub _ _ _) ⟨joined_ne (by simpa using hne) s3, joined_sub _ _ _⟩)))).to ?_)) (Bool.and_false _))) (Bool.and_false _)) (fun z => by cases z) fun _ => run_nil (run_nil ⟨_, _, _, _, _, _, _, rfl⟩)
    show (!within (joined x.cols (Cl x.cols x.rules one) more) (Cl x.cols x.rules (joined x.cols one more))) = false
    rw [clo_more s1 s3]
    rfl
  · rintro _ G' _ ⟨a, b, c, e, f, g, k, rfl⟩
    exact run_ret ev_bl
end Mk
-- MkLt
namespace Mk
open Im (rep)
open PySem PySem.Spec PyProof.Rows L2
variable {T : Tx}
section
variable {rs : List Rule}
theorem trig_mono : ∀ (L F : List (List Nm)), ∀ o ∈ F, o ∈ L.foldl (trigStep rs) F
  | [], _, o, h => h
  | s :: L, F, o, h => by
    rw [List.foldl_cons]
    refine trig_mono L _ o ?_
    unfold trigStep
    split
    · exact List.mem_append.mpr (.inl h)
    · exact h
theorem within_refl (s : List Nm) : within s s = true := within_iff.mpr fun c hc => hc
theorem trig_some : ∀ (L F : List (List Nm)), ∀ s ∈ L, closedB rs s = false → ∃ o ∈ L.foldl (trigStep rs) F, within o s = true
  | t :: L, F, s, hs, hc => by
    rw [List.foldl_cons]
    rcases List.mem_cons.mp hs with e | hs
    · subst e
      cases q : (!closedB rs s && !(F.any fun o => within o s)) with
      | true =>
        rw [trig_yes q]
        exact ⟨s, trig_mono L _ s (by simp), within_refl s⟩
      | false =>
        rw [trig_no q]
        rw [hc] at q
        have q : (F.any fun o => within o s) = true := by simpa using q
        obtain ⟨o, ho, hw⟩ := List.any_eq_true.mp q
        exact ⟨o, trig_mono L F o ho, hw⟩
    · exact trig_some L _ s hs hc
theorem trig_pw : ∀ (L F : List (List Nm)), (F.Pairwise fun a b => within a b = false) → (L.foldl (trigStep rs) F).Pairwise fun a b => within a b = false
  | [], _, h => h
  | s :: L, F, h => by
    rw [List.foldl_cons]
    refine trig_pw L _ ?_
    cases q : (!closedB rs s && !(F.any fun o => within o s)) with
    | false => rw [trig_no q]; exact h
    | true =>
      rw [trig_yes q, List.pairwise_append]
      refine ⟨h, by simp, fun a ha b hb => ?_⟩
      rw [List.mem_singleton.mp hb]
      rw [Bool.and_eq_true, Bool.not_eq_true', Bool.not_eq_true'] at q
      rw [Bool.eq_false_iff]
      intro z
      have := List.any_eq_false.mp q.2 a ha
      exact this z
theorem trig_sl : ∀ (L F : List (List Nm)), (L.foldl (trigStep rs) F).Sublist (F ++ L)
  | [], F => by rw [List.append_nil]; exact List.Sublist.refl _
  | s :: L, F => by
    rw [List.foldl_cons]
    refine (trig_sl L _).trans ?_
    unfold trigStep
    split
    · rw [List.append_assoc]; exact List.Sublist.refl _
    · exact List.Sublist.append (List.Sublist.refl F) (List.sublist_cons_self s L)
end
theorem pw_two {α : Type} {R S : α → α → Prop} : ∀ {L : List α}, L.Pairwise R → (∀ a ∈ L, S a a) → (∀ a ∈ L, ∀ b ∈ L, R a b → S a b ∧ S b a) → ∀ a ∈ L, ∀ b ∈ L, S a b
  | [], _, _, _, a, ha, _, _ => by simp at ha
  | x :: L, h, h1, h2, a, ha, b, hb => by
    obtain ⟨g1, g2⟩ := List.pairwise_cons.mp h
    rcases List.mem_cons.mp ha with rfl | ha' <;> rcases List.mem_cons.mp hb with rfl | hb'
    · exact h1 _ ha
    · exact (h2 _ ha _ hb (g1 b hb')).1
    · exact (h2 _ hb _ ha (g1 a ha')).2
    · exact pw_two g2 (fun a ha => h1 a (List.mem_cons_of_mem _ ha)) (fun a ha b hb => h2 a (List.mem_cons_of_mem _ ha) b (List.mem_cons_of_mem _ hb)) a ha' b hb'
theorem filter_single {α : Type} {p : α → Bool} {a : α} : ∀ {L : List α}, L.Nodup → a ∈ L → (∀ x ∈ L, p x = true ↔ x = a) → L.filter p = [a]
  | [], _, h, _ => by simp at h
  | x :: L, hn, h, hp => by
    obtain ⟨h1, h2⟩ := List.nodup_cons.mp hn
    by_cases e : x = a
    · subst e
      rw [List.filter_cons, if_pos ((hp x List.mem_cons_self).mpr rfl)]
      rw [filter_none_of]
      intro y hy
      rw [Bool.eq_false_iff]
      intro z
      have := (hp y (List.mem_cons_of_mem _ hy)).mp z
      rw [this] at hy
      exact h1 hy
    · rw [List.filter_cons, if_neg (fun z => e ((hp x List.mem_cons_self).mp z))]
      exact filter_single h2 ((List.mem_cons.mp h).resolve_left (fun z => e z.symm)) fun y hy => hp y (List.mem_cons_of_mem _ hy)
where filter_none_of {α : Type} {p : α → Bool} {L : List α} (h : ∀ x ∈ L, p x = false) : L.filter p = [] := List.filter_eq_nil_iff.mpr fun x hx => by rw [h x hx]; exact Bool.false_ne_true
section
variable {cs s : List Nm} {rs : List Rule}
theorem trig_sets (h : C5 cs) {t : List Nm} (ht : t ∈ trigL cs rs) : t.Sublist cs := by
  have := (trig_sl (rs := rs) (setsOf cs) []).subset ht
  rw [List.nil_append] at this
  exact (asc_sublist h.asc).mpr ((mem_setsOf h).mp this)
theorem trig_nodup (h : C5 cs) : (trigL cs rs).Nodup := by
  have := trig_sl (rs := rs) (setsOf cs) []
  rw [List.nil_append] at this
  exact (sets_nodup h.asc).sublist this
theorem trig_anti (h : C5 cs) : ∀ a ∈ trigL cs rs, ∀ b ∈ trigL cs rs, within a b = true → a = b := by
  have h1 : (trigL cs rs).Pairwise fun a b => within a b = false := trig_pw (setsOf cs) [] .nil
  have h2 : (trigL cs rs).Pairwise fun a b => a.length ≤ b.length := by
    have := trig_sl (rs := rs) (setsOf cs) []
    rw [List.nil_append] at this
    exact sets_up.sublist this
  refine pw_two (S := fun a b => within a b = true → a = b) (h1.and h2) (fun a _ _ => rfl) fun a ha b hb ⟨r1, r2⟩ => ⟨fun z => (by rw [r1] at z; cases z), fun z => ?_⟩
  exact sub_len_eq (asc_sub h.asc (trig_sets h hb)) (asc_sub h.asc (trig_sets h ha)) (within_iff.mp z) r2
def trigIn (cs : List Nm) (rs : List Rule) (s : List Nm) : List (List Nm) := (srt (trigL cs rs)).filter fun o => decide (common o s = o)
theorem trig_none (h : C5 cs) (hs : s.Sublist cs) (e : trigIn cs rs s = []) : closedB rs s = true := by
  cases q : closedB rs s with
  | true => rfl
  | false =>
    obtain ⟨o, ho, hw⟩ := trig_some (setsOf cs) [] s ((mem_setsOf h).mpr ((asc_sublist h.asc).mp hs)) q
    have hin : o ∈ trigIn cs rs s := List.mem_filter.mpr ⟨(srt_perm _).mem_iff.mpr ho, by rw [← within_common]; exact hw⟩
    rw [e] at hin
    simp at hin
theorem trig_one (h : C5 cs) (hs : s ∈ srt (trigL cs rs)) : trigIn cs rs s = [s] := by
  have hs' : s ∈ trigL cs rs := (srt_perm _).mem_iff.mp hs
  refine filter_single ((srt_perm _).nodup_iff.mpr (trig_nodup h)) hs fun o ho => ?_
  rw [← within_common]
  exact ⟨fun z => trig_anti h o ((srt_perm _).mem_iff.mp ho) s hs' z, fun e => by rw [e]; exact within_refl s⟩
end
theorem sc_triggers_right : FnScope ["_law_some_here", "_law_one", "_law_within", "_law_other"] ["_law_some_here"] (defScope (top 82)) := ⟨rfl, rfl, rfl, by decide +kernel, rfl, by decide +kernel, by decide +kernel⟩
theorem ok_triggers_right (h : Top T) : Fn T 7 "_law_triggers_right" (spC (β := RulT T) false (fun b => [.im b]) RulPre (fun _ => .im (· = true))) := by
  refine def_ok (at_law_triggers_right h) sc_triggers_right (fun _ _ _ _ _ _ us hl => match us, hl with | [_], _ => rfl) (fun b => rfl) fun x d hd hp => ?_
  have ho := hp.over
  obtain ⟨hx, hc⟩ := hp
  have hp : RulPre x := ⟨hx, hc⟩
  have hcc := hc.cols
  refine run_for (ei_new (ev_call (ok_subsets h) x.cols (ea_im (ev_columns (x := x) h ((ev_var (i := 0) rfl))) ea_nil) rfl hc.len)) (bnd_name (i := 1)) (I := fun L i G' => ∃ a b, G' = [.im x, a, b, .no]) (fun L e => ⟨_, _, rfl⟩) ?_ ?_ ?_
  · rintro L i G' ⟨a, b, rfl⟩; rfl
  · rintro L i s G' rfl hs ⟨a, b, rfl⟩
    have hss : s.Sublist x.cols := (asc_sublist hc.asc).mpr ((mem_setsOf hc).mp (by rw [← subsL_eq hc]; exact List.mem_of_getElem? hs))
    refine run_setLcR (i := 2) (own := [("_law_other", 3)]) (P := (· = trigIn x.cols x.rules s)) ((lc_filter (fun o : List Nm => decide (common o s = o)) (fun o : List Nm => o) rfl (ei_tup (ev_call (ok_triggers h) x (ea_var (i := 0) (s := .im x) rfl ea_nil) rfl hp)) (by kernel_rfl) (bnd_name (i := 3)) (by decide) (fun o ho => ?_) fun o ho _ => (ev_var (i := 3) rfl)).imp fun ys e => e.trans (List.map_id' _)) fun _ e => ?_
    · exact (ev_eqD (ev_common h (ev_var (i := 3) (a := o) rfl) (ev_var (i := 1) (a := s) rfl)) (ev_var (i := 3) (a := o) rfl)).t
    subst e
    refine run_if (b := false) (EvT.to (et_w (ew_and (y := false) (ev_eqL (el_ro (i := 2) rfl) (el_ls (ev_lst0 (α := List Nm)))).t fun he => ew_and1 ((et_not (et_val (ev_isClosed h (x := x) ((ev_var (i := 0) rfl)) (ev_var (i := 1) (a := s) rfl) (hcc.sub hss) fun c hc => hss.subset hc))).to ?_))) (Bool.and_false _)) (fun z => by cases z) fun _ => run_nil ?_
    · rw [trig_none hc hss (of_decide_eq_true he)]; rfl
    refine run_if (b := false) (EvT.to (et_w (ew_and (y := false) (ev_inT (x := s) (xs := srt (trigL x.cols x.rules)) ((ev_var (i := 1) rfl)) (ev_call (ok_triggers h) x (ea_var (i := 0) (s := .im x) rfl ea_nil) rfl hp)).t fun hm => ew_and1 ((ev_neL (el_ro (i := 2) rfl) (el_ls ((ev_lst1 (P := (· = s)) ((ev_var (i := 1) rfl))).impL (P' := (· = [s])) fun z ⟨y, e1, e2⟩ => by rw [e2, e1]))).t.to ?_))) (Bool.and_false _)) (fun z => by cases z) fun _ => run_nil (run_nil ⟨_, _, rfl⟩)
    have hm2 : s ∈ srt (trigL x.cols x.rules) := by simpa using hm
    rw [decide_eq_true (trig_one hc hm2)]; rfl
  · rintro L G' rfl ⟨a, b, rfl⟩
    exact run_ret ev_bl
end Mk
-- MkLk
namespace Mk
open Im (rep)
open PySem PySem.Spec PyProof.Rows L2
variable {T : Tx}
section
variable {rs qs : List Rule} {cs xs s Z : List Nm}
theorem closedB_mem (h : ∀ r, r ∈ rs ↔ r ∈ qs) : closedB rs s = closedB qs s := by
  rw [Bool.eq_iff_iff, closedB_iff, closedB_iff]
  exact ⟨fun z r hr => z r ((h r).mpr hr), fun z r hr => z r ((h r).mp hr)⟩
theorem inCl_mem (h : ∀ r, r ∈ rs ↔ r ∈ qs) {c : Nm} : InCl rs xs c ↔ InCl qs xs c :=
  ⟨fun z S h1 h2 => z S h1 fun r hr => h2 r ((h r).mp hr), fun z S h1 h2 => z S h1 fun r hr => h2 r ((h r).mpr hr)⟩
theorem clo_mem (hc : cs.Pairwise ltN) (h : ∀ r, r ∈ rs ↔ r ∈ qs) : Cl cs rs xs = Cl cs qs xs := asc_ext (clo_asc hc) (clo_asc hc) fun c => by rw [mem_Cl, mem_Cl, inCl_mem h]
theorem mkRul_mem {r : Rule} : r ∈ (mkRul T cs rs).rules ↔ r ∈ rs := mem_srtR
theorem mkRul_ok (h : InPre cs rs) : RulOk (mkRul T cs rs) := ⟨h.cols, fun r hr => h.rules r (mkRul_mem.mp hr), by show (srt (uniR [] rs)).length ≤ 16; rw [(srt_perm _).length_eq]; exact h.few⟩
theorem uniR_len : ∀ (ms ks : List Rule), (uniR ks ms).length ≤ ks.length + ms.length
  | [], ks => Nat.le_refl _
  | m :: ms, ks => by
    show (uniR (if m ∈ ks then ks else ks ++ [m]) ms).length ≤ _
    have h1 := uniR_len ms (if m ∈ ks then ks else ks ++ [m])
    have h2 : (if m ∈ ks then ks else ks ++ [m]).length ≤ ks.length + 1 := by
      split
      · omega
      · rw [List.length_append, List.length_singleton]; omega
    rw [List.length_cons]
    omega
theorem inPre_few (h1 : Cols cs) (h2 : ∀ r ∈ rs, ROk cs r) (h3 : rs.length ≤ 16) : InPre cs rs := ⟨h1, h2, by omega, by have := uniR_len rs []; rw [List.length_nil] at this; omega⟩
theorem mem_without {a : List Nm} {c : Nm} : c ∈ without a Z ↔ c ∈ a ∧ c ∉ Z := by
  unfold without
  rw [List.mem_filter, Bool.not_eq_true', decide_eq_false_iff_not]
theorem mem_struck {q : Rule} : q ∈ struckL rs Z ↔ ∃ r ∈ rs, q = (without r.1 Z, without r.2 Z) ∧ without r.2 Z ≠ [] := by
  unfold struckL
  rw [List.mem_filter, List.mem_map, Bool.not_eq_true', decide_eq_false_iff_not]
  constructor
  · rintro ⟨⟨r, hr, rfl⟩, hne⟩; exact ⟨r, hr, rfl, hne⟩
  · rintro ⟨r, hr, rfl, hne⟩; exact ⟨⟨r, hr, rfl⟩, hne⟩
theorem struck_over (h : Over cs rs) : Over (without cs Z) (struckL rs Z) := fun q hq => by
  obtain ⟨r, hr, rfl, _⟩ := mem_struck.mp hq
  obtain ⟨h1, h2⟩ := h r hr
  exact ⟨fun c hc => mem_without.mpr ⟨h1 c (mem_without.mp hc).1, (mem_without.mp hc).2⟩, fun c hc => mem_without.mpr ⟨h2 c (mem_without.mp hc).1, (mem_without.mp hc).2⟩⟩
theorem struck_closed {S : Nm → Prop} (h : ∀ q ∈ struckL rs Z, (∀ x ∈ q.1, S x) → ∀ x ∈ q.2, S x) : ∀ r ∈ rs, (∀ x ∈ r.1, S x ∨ x ∈ Z) → ∀ x ∈ r.2, S x ∨ x ∈ Z := fun r hr h1 x hx => by
  by_cases hz : x ∈ Z
  · exact .inr hz
  · have hm : x ∈ without r.2 Z := mem_without.mpr ⟨hx, hz⟩
    refine .inl (h (without r.1 Z, without r.2 Z) (mem_struck.mpr ⟨r, hr, rfl, List.ne_nil_of_mem hm⟩) (fun y hy => ?_) x hm)
    obtain ⟨g1, g2⟩ := mem_without.mp hy
    exact (h1 y g1).resolve_right g2
theorem clo_struck (h : cs.Pairwise ltN) (hs : ∀ c ∈ s, c ∈ without cs Z) : Cl (without cs Z) (struckL rs Z) s = without (Cl cs rs (s ++ Z)) Z := by
  refine asc_ext (clo_asc (h.filter _)) ((clo_asc h).filter _) fun c => ?_
  show _ ↔ c ∈ without _ Z
  rw [mem_Cl, mem_without, mem_without, mem_Cl]
  constructor
  · rintro ⟨⟨h1, h2⟩, h3⟩
    refine ⟨⟨h1, fun S g1 g2 => h3 S (fun x hx => g1 x (List.mem_append.mpr (.inl hx))) fun q hq hl x hx => ?_⟩, h2⟩
    obtain ⟨r, hr, rfl, _⟩ := mem_struck.mp hq
    refine g2 r hr (fun y hy => ?_) x (mem_without.mp hx).1
    by_cases hz : y ∈ Z
    · exact g1 y (List.mem_append.mpr (.inr hz))
    · exact hl y (mem_without.mpr ⟨hy, hz⟩)
  · rintro ⟨⟨h1, h3⟩, h2⟩
    refine ⟨⟨h1, h2⟩, fun S g1 g2 => ?_⟩
    have := h3 (fun x => S x ∨ x ∈ Z) (fun x hx => (List.mem_append.mp hx).imp (g1 x) id) (struck_closed g2)
    exact this.resolve_right h2
theorem closed_struck (ho : Over cs rs) (hs : ∀ c ∈ s, c ∈ without cs Z) (hZ : ∀ c ∈ Z, c ∈ cs) : closedB (struckL rs Z) s = closedB rs (joined cs s Z) := by
  rw [Bool.eq_iff_iff, closedB_iff, closedB_iff]
  constructor
  · intro h r hr hl c hc
    have := struck_closed (S := (· ∈ s)) h r hr (fun x hx => (mem_joined.mp (hl x hx)).2) c hc
    exact mem_joined.mpr ⟨(ho r hr).2 c hc, this⟩
  · intro h q hq hl c hc
    obtain ⟨r, hr, rfl, _⟩ := mem_struck.mp hq
    obtain ⟨g1, g2⟩ := mem_without.mp hc
    have := h r hr (fun x hx => mem_joined.mpr ⟨(ho r hr).1 x hx, ?_⟩) c g1
    · exact (mem_joined.mp this).2.resolve_right g2
    · by_cases hz : x ∈ Z
      · exact .inr hz
      · exact .inl (hl x (mem_without.mpr ⟨hx, hz⟩))
theorem without_sub : (without cs Z).Sublist cs := List.filter_sublist
theorem C5.without (h : C5 cs) : C5 (without cs Z) := ⟨h.asc.filter _, Nat.le_trans without_sub.length_le h.len⟩
theorem struck_pre {C : Addr} {x : Rul C} (hx : RulOk x) (hZ : ∀ c ∈ Z, c ∈ x.cols) : StPre x Z := by
  refine ⟨hZ, inPre_few (hx.cols.sub without_sub) (fun q hq => ?_) ?_⟩
  · obtain ⟨r, hr, rfl, hne⟩ := mem_struck.mp hq
    have ho := hx.rules r hr
    exact ⟨ho.hl.sub without_sub, ho.hr.sub without_sub, fun c hc => mem_without.mpr ⟨ho.ls c (mem_without.mp hc).1, (mem_without.mp hc).2⟩, fun c hc => mem_without.mpr ⟨ho.rs c (mem_without.mp hc).1, (mem_without.mp hc).2⟩, hne⟩
  · unfold struckL
    refine Nat.le_trans (List.length_filter_le _ _) ?_
    rw [List.length_map]
    exact hx.few
end
theorem sc_strikes_right : FnScope ["_law_dice_here", "_law_some_here", "_law_struck", "_law_remaining", "_law_one", "_law_due", "_law_name"] ["_law_dice_here", "_law_some_here"] (defScope (top 81)) := ⟨rfl, rfl, rfl, by decide +kernel, rfl, by decide +kernel, by decide +kernel⟩
theorem ok_strikes_right (h : Top T) : Fn T 10 "_law_strikes_right" (spC (β := RulT T) true (fun b => [.di, .im b]) RulPre (fun _ => .im (· = true))) := by
  refine def_ok (at_law_strikes_right h) sc_strikes_right (fun _ _ _ _ _ _ us hl => match us, hl with | [_, _], _ => rfl) (fun b => rfl) fun x d hd hp => ?_
  have ho := hp.over
  obtain ⟨hx, hc⟩ := hp
  have hcc := hc.cols
  refine run_setP (i := 2) (ev_someC h (i := 0) rfl (ev_columns (x := x) h ((ev_var (i := 1) rfl))) ev_int (by decide)) fun Z hZ => ?_
  have sZ : ∀ c ∈ Z, c ∈ x.cols := fun c hc => hZ.subset hc
  have hpre := struck_pre hx sZ
  have hy : RulOk (mkRul T (without x.cols Z) (struckL x.rules Z)) := mkRul_ok hpre.inp
  have hyc : C5 (mkRul T (without x.cols Z) (struckL x.rules Z)).cols := hc.without
  refine run_set (i := 3) (a := mkRul T (without x.cols Z) (struckL x.rules Z)) (ev_meth h (x := x) (ok_struck_all h) (x, Z) ((ev_var (i := 1) rfl)) (ea_var (i := 2) (s := .im Z) rfl ea_nil) rfl hpre) ?_
  have hys : ∀ s : List Nm, s.Sublist (without x.cols Z) → closedB (mkRul T (without x.cols Z) (struckL x.rules Z)).rules s = closedB (struckL x.rules Z) s := fun s _ => closedB_mem fun r => mkRul_mem
  refine run_for (ei_new (ev_call (ok_subsets h) (without x.cols Z) (ea_im (ev_columns (x := mkRul T (without x.cols Z) (struckL x.rules Z)) h ((ev_var (i := 3) rfl))) ea_nil) rfl hyc.len)) (bnd_name (i := 4)) (I := fun L i G' => ∃ a b, G' = [.di, .im x, .im Z, .im (mkRul T (without x.cols Z) (struckL x.rules Z)), a, b, .no]) (fun L e => ⟨_, _, rfl⟩) ?_ ?_ ?_
  · rintro L i G' ⟨a, b, rfl⟩; rfl
  · rintro L i s G' rfl hs ⟨a, b, rfl⟩
    have hss : s.Sublist (without x.cols Z) := (asc_sublist hyc.asc).mpr ((mem_setsOf hyc).mp (by rw [← subsL_eq hyc]; exact List.mem_of_getElem? hs))
    have s1 : ∀ c ∈ s, c ∈ without x.cols Z := fun c hc => hss.subset hc
    have hsl := hss.length_le
    have hzl := hZ.length_le
    have hcl := hc.len
    have hwl := (without_sub (cs := x.cols) (Z := Z)).length_le
    refine run_set (i := 5) (a := without (Cl x.cols x.rules (s ++ Z)) Z) ((ev_tuple (P := (· = without (Cl x.cols x.rules (s ++ Z)) Z)) (blt h) (es_ls ((ev_lc (own := [("_law_name", 6)]) (lc_filter (fun c : Nm => !decide (c ∈ Z)) (fun c : Nm => c) rfl (ei_tup (ev_closure h (x := x) (t := s ++ Z) ((ev_var (i := 1) rfl)) ((ev_catT (P := (· = s)) (R := (· = Z)) ((ev_var (i := 4) rfl)) ((ev_var (i := 2) rfl)) ?_).imp fun z ⟨_, _, e1, e2, e3⟩ => by rw [e3, e1, e2]) hx ?_)) (by kernel_rfl) (bnd_name (i := 6)) (by decide) (fun c hc => ?_) fun c hc _ => (ev_var (i := 6) rfl))).impL fun z e => e.trans (List.map_id' _))))) ?_
    · rintro a b rfl rfl; omega
    · intro c hc
      rcases List.mem_append.mp hc with z | z
      · exact (mem_without.mp (s1 c z)).1
      · exact sZ c z
    · exact (ev_niNm (x := c) (xs := Z) ((ev_var (i := 6) rfl)) (es_im ((ev_var (i := 2) rfl)))).t
    have e1 : Cl (without x.cols Z) (mkRul T (without x.cols Z) (struckL x.rules Z)).rules s = without (Cl x.cols x.rules (s ++ Z)) Z := by
      rw [clo_mem (rs := (mkRul T (without x.cols Z) (struckL x.rules Z)).rules) (qs := struckL x.rules Z) (cs := without x.cols Z) hyc.asc fun r => mkRul_mem]
      exact clo_struck hc.asc s1
    refine run_if (b := false) (EvT.to (et_w (ew_or (x := false) (y := false) ((ev_neD (ev_closure h (x := mkRul T (without x.cols Z) (struckL x.rules Z)) (t := s) ((ev_var (i := 3) rfl)) ((ev_var (i := 4) rfl)) hy s1) (ev_var (i := 5) (a := without (Cl x.cols x.rules (s ++ Z)) Z) rfl)).t.to ?_) fun _ => ew_or1 ((ev_neD (ev_isClosed h (x := mkRul T (without x.cols Z) (struckL x.rules Z)) (t := s) ((ev_var (i := 3) rfl)) ((ev_var (i := 4) rfl)) (hyc.cols.sub hss) s1) (ev_eqD (ev_var (i := 5) (a := without (Cl x.cols x.rules (s ++ Z)) Z) rfl) (ev_var (i := 4) (a := s) rfl)).v).t.to ?_))) rfl) (fun z => by cases z) fun _ => run_nil (run_nil ⟨_, _, rfl⟩)
    · rw [decide_eq_true (show Cl (mkRul T (without x.cols Z) (struckL x.rules Z)).cols _ s = _ from e1)]; rfl
    · have e2 : closedB (mkRul T (without x.cols Z) (struckL x.rules Z)).rules s = decide (without (Cl x.cols x.rules (s ++ Z)) Z = s) := by
        rw [Bool.eq_iff_iff, decide_eq_true_iff, ← e1]
        exact clo_eq hyc.asc hy.over hss
      rw [decide_eq_true e2]; rfl
  · rintro L G' rfl ⟨a, b, rfl⟩
    refine run_setLcR (i := 5) (own := [("_law_one", 4)]) (P := (· = ((subsL (without x.cols Z)).filter fun s => closedB x.rules (joined x.cols s Z)))) ((lc_filter (fun s : List Nm => closedB x.rules (joined x.cols s Z)) (fun s : List Nm => s) rfl (ei_new (ev_call (ok_subsets h) (without x.cols Z) (ea_im (ev_columns (x := mkRul T (without x.cols Z) (struckL x.rules Z)) h ((ev_var (i := 3) rfl))) ea_nil) rfl hyc.len)) (by kernel_rfl) (bnd_name (i := 4)) (by decide) (fun s hs => ?_) fun s hs _ => (ev_var (i := 4) rfl)).imp fun ys e => e.trans (List.map_id' _)) fun _ e => ?_
    · exact et_val (ev_isClosed h (x := x) (t := joined x.cols s Z) ((ev_var (i := 1) rfl)) (ev_call (ok_law_joined h) (x.cols, s, Z) (ea_im (ev_columns (x := x) h ((ev_var (i := 1) rfl))) (ea_var (i := 4) (s := .im s) rfl (ea_var (i := 2) (s := .im Z) rfl ea_nil))) rfl trivial) (hcc.sub (joined_sub _ _ _)) fun c hc => (joined_sub _ _ _).subset hc)
    subst e
    refine run_ret ((ev_eqL (el_ls (ev_closedList h (x := mkRul T (without x.cols Z) (struckL x.rules Z)) ((ev_var (i := 3) rfl)) ⟨hy, hyc⟩)) (el_ro (i := 5) rfl)).v.to (decide_eq_true ?_))
    rw [subsL_eq (show C5 (without x.cols Z) from hyc)]
    refine List.filter_congr fun s hs => ?_
    have hss : s.Sublist (without x.cols Z) := (asc_sublist hyc.asc).mpr ((mem_setsOf hyc).mp hs)
    rw [hys s hss]
    exact closed_struck ho (fun c hc => hss.subset hc) sZ
end Mk
-- MkQp
namespace Mk
open Im (rep)
open PySem PySem.Spec PyProof.Rows L2
section
variable {cs s t a b : List Nm} {rs : List Rule} {c : Nm}
theorem shared_map (f g : Nm → Int) : ∀ cs : List Nm, sharedL cs (cs.map f) (cs.map g) = cs.filter fun c => decide (f c = g c)
  | [] => rfl
  | c :: cs => by
    have ih := shared_map f g cs
    unfold sharedL at ih ⊢
    rw [List.map_cons, List.map_cons]
    show List.map _ (List.filter _ ((⟨c, f c, g c⟩ : Tri Nm Int Int) :: zip3 cs (cs.map f) (cs.map g))) = _
    rw [List.filter_cons, List.filter_cons]
    by_cases h : f c = g c
    · rw [if_pos (decide_eq_true h), if_pos (decide_eq_true h), List.map_cons, ih]
    · rw [if_neg (by simpa using h), if_neg (by simpa using h), ih]
def jnt (cs a b : List Nm) : List Nm := cs.filter fun c => decide (c ∈ a) && decide (c ∈ b)
theorem mem_jnt : c ∈ jnt cs a b ↔ c ∈ cs ∧ c ∈ a ∧ c ∈ b := by
  unfold jnt
  rw [List.mem_filter, Bool.and_eq_true, decide_eq_true_iff, decide_eq_true_iff]
theorem rows_get {L : List (List Nm)} {k : Nat} {row : List Int} (h : (rowsOf cs L)[k]? = some row) : ∃ s, (cs :: L)[k]? = some s ∧ row = rowL cs s k := by
  cases k with
  | zero => exact ⟨cs, rfl, (Option.some.inj h).symm⟩
  | succ k =>
    have h : ((enumL L).map fun p => rowL cs p.2 (p.1 + 1))[k]? = some row := h
    rw [List.getElem?_map] at h
    obtain ⟨p, hp, e⟩ := Option.map_eq_some_iff.mp h
    have hk : k < L.length := by
      have := (List.getElem?_eq_some_iff.mp hp).1
      rw [enumL_len] at this
      exact this
    rw [enumL_get (List.getElem?_eq_getElem hk)] at hp
    have ep := Option.some.inj hp
    refine ⟨L[k], List.getElem?_eq_getElem hk, ?_⟩
    rw [← e, ← ep]
    rfl
theorem rows_at {L : List (List Nm)} {k : Nat} {s : List Nm} (h : (cs :: L)[k]? = some s) : (rowsOf cs L)[k]? = some (rowL cs s k) := by
  cases k with
  | zero => rw [show cs = s from Option.some.inj h]; rfl
  | succ k =>
    have h : L[k]? = some s := h
    show ((enumL L).map fun p => rowL cs p.2 (p.1 + 1))[k]? = _
    rw [List.getElem?_map, enumL_get h]
    rfl
theorem rows_len {L : List (List Nm)} : (rowsOf cs L).length = L.length + 1 := by
  unfold rowsOf
  rw [List.length_cons, List.length_map, enumL_len]
theorem rowL_len (o : Int) : (rowL cs s o).length = cs.length := List.length_map _
theorem agree {L : List (List Nm)} {i k : Nat} (hik : i < k) (ha : (cs :: L)[k]? = some a) (hb : (cs :: L)[i]? = some b) : sharedL cs (rowL cs a k) (rowL cs b i) = jnt cs a b := by
  unfold rowL
  rw [shared_map]
  unfold jnt
  refine List.filter_congr fun c hc => ?_
  by_cases h1 : c ∈ a <;> by_cases h2 : c ∈ b
  · simp [h1, h2]
  · have hi : i ≠ 0 := by
      rintro rfl
      rw [show cs = b from Option.some.inj hb] at hc
      exact h2 hc
    rw [if_pos h1, if_neg h2, decide_eq_false (by omega), decide_eq_true h1, decide_eq_false h2]
    rfl
  · rw [if_neg h1, if_pos h2, decide_eq_false (by omega), decide_eq_false h1]
    rfl
  · rw [if_neg h1, if_neg h2, decide_eq_false (by omega), decide_eq_false h1]
    rfl
def behind (cs : List Nm) (rows : List (List Int)) (k : Nat) (row : List Int) : List (List Nm) := (rows.take k).map (sharedL cs row)
theorem mem_behind {L : List (List Nm)} {k : Nat} {row : List Int} {o : List Nm} (h : (rowsOf cs L)[k]? = some row) : o ∈ behind cs (rowsOf cs L) k row ↔ ∃ i a b, i < k ∧ (cs :: L)[k]? = some a ∧ (cs :: L)[i]? = some b ∧ o = jnt cs a b := by
  obtain ⟨a, ha, rfl⟩ := rows_get h
  unfold behind
  rw [List.mem_map]
  constructor
  · rintro ⟨row', hr, rfl⟩
    obtain ⟨i, hi, e⟩ := List.mem_take_iff_getElem.mp hr
    have hik : i < k := by omega
    obtain ⟨b, hb, e2⟩ := rows_get (List.getElem?_eq_some_iff.mpr ⟨by omega, e⟩)
    exact ⟨i, a, b, hik, ha, hb, by rw [e2]; exact agree hik ha hb⟩
  · rintro ⟨i, a', b, hik, ha', hb, rfl⟩
    rw [ha] at ha'
    cases ha'
    have hr := rows_at hb
    obtain ⟨h1, h2⟩ := List.getElem?_eq_some_iff.mp hr
    have hkl := (List.getElem?_eq_some_iff.mp h).1
    exact ⟨rowL cs b i, List.mem_take_iff_getElem.mpr ⟨i, by omega, h2⟩, agree hik ha hb⟩
theorem mem_sharedAll {ss : List (List Nm)} : c ∈ sharedAll cs ss ↔ c ∈ cs ∧ ∀ o ∈ ss, c ∈ o := by
  unfold sharedAll
  rw [List.mem_filter, List.all_eq_true]
  simp only [decide_eq_true_iff]
theorem mem_least (h : C5 cs) (ht : t ∈ leastL cs rs) : t.Sublist cs ∧ closedB rs t = true := (mem_closedL h).mp (List.mem_filter.mp ht).1
theorem least_above (h : C5 cs) : ∀ (n : Nat) (s : List Nm), cs.length - s.length ≤ n → s.Sublist cs → closedB rs s = true → ∀ c ∈ cs, c ∉ s → ∃ m ∈ leastL cs rs, (∀ x ∈ s, x ∈ m) ∧ c ∉ m := by
  intro n
  induction n with
  | zero =>
    intro s hn hs _ c hc hns
    have := hs.eq_of_length_le (by omega)
    rw [this] at hns
    exact absurd hc hns
  | succ n ih =>
    intro s hn hs hcl c hc hns
    cases q : isLeast cs (closedL cs rs) s with
    | true => exact ⟨s, List.mem_filter.mpr ⟨(mem_closedL h).mpr ⟨hs, hcl⟩, q⟩, fun _ z => z, hns⟩
    | false =>
      unfold isLeast at q
      have hne : s ≠ cs := fun e => hns (by rw [e]; exact hc)
      rw [decide_eq_false hne] at q
      have q : sharedAll cs (greaterL (closedL cs rs) s) = s := by simpa using q
      have : ∃ o ∈ greaterL (closedL cs rs) s, c ∉ o := by
        apply Classical.byContradiction
        intro hno
        refine hns ?_
        rw [← q]
        exact mem_sharedAll.mpr ⟨hc, fun o ho => Classical.byContradiction fun hco => hno ⟨o, ho, hco⟩⟩
      obtain ⟨o, ho, hco⟩ := this
      obtain ⟨h1, h2⟩ := List.mem_filter.mp ho
      rw [Bool.and_eq_true, Bool.not_eq_true', decide_eq_false_iff_not] at h2
      obtain ⟨g1, g2⟩ := (mem_closedL h).mp h1
      have hlt : s.length < o.length := by
        apply Classical.byContradiction
        intro hl
        exact h2.1 (sub_len_eq (asc_sub h.asc hs) (asc_sub h.asc g1) (within_iff.mp h2.2) (by omega)).symm
      have hle := g1.length_le
      obtain ⟨m, hm, k1, k2⟩ := ih o (by omega) g1 g2 c hc hco
      exact ⟨m, hm, fun x hx => k1 x (within_iff.mp h2.2 x hx), k2⟩
theorem cons_least (h : C5 cs) (ho : Over cs rs) {k : Nat} (ht : (cs :: leastL cs rs)[k]? = some t) : t.Sublist cs ∧ closedB rs t = true := by
  rcases List.mem_cons.mp (List.mem_of_getElem? ht) with e | z
  · rw [e]; exact ⟨List.Sublist.refl _, closed_all ho⟩
  · exact mem_least h z
theorem jnt_closed (h1 : closedB rs a = true) (h2 : closedB rs b = true) (ho : Over cs rs) : closedB rs (jnt cs a b) = true := closedB_iff.mpr fun r hr hl c hc =>
  mem_jnt.mpr ⟨(ho r hr).2 c hc, closedB_iff.mp h1 r hr (fun x hx => (mem_jnt.mp (hl x hx)).2.1) c hc, closedB_iff.mp h2 r hr (fun x hx => (mem_jnt.mp (hl x hx)).2.2) c hc⟩
def breaksAt (cs : List Nm) (rows : List (List Int)) (k : Nat) (row : List Int) (r : Rule) : List (List Nm) := ((behind cs rows k row).filter fun o => decide (common r.1 o = r.1)).filter fun o => !decide (common r.2 o = r.2)
theorem least_behind (h : C5 cs) {m : List Nm} (hm : m ∈ leastL cs rs) : ∃ k row, (rowsOf cs (leastL cs rs))[k]? = some row ∧ m ∈ behind cs (rowsOf cs (leastL cs rs)) k row := by
  obtain ⟨j, hj, e⟩ := List.getElem_of_mem hm
  have ha : (cs :: leastL cs rs)[j + 1]? = some m := by
    show (leastL cs rs)[j]? = some m
    rw [List.getElem?_eq_getElem hj, e]
  have hr := rows_at ha
  refine ⟨j + 1, _, hr, (mem_behind hr).mpr ⟨0, m, cs, by omega, ha, rfl, ?_⟩⟩
  have hs := (mem_least h hm).1
  refine asc_ext (asc_sub h.asc hs) (h.asc.filter _) fun c => ?_
  show _ ↔ c ∈ jnt cs m cs
  rw [mem_jnt]
  exact ⟨fun z => ⟨hs.subset z, z, hs.subset z⟩, fun z => z.2.1⟩
theorem breaks_iff (h : C5 cs) (ho : Over cs rs) {r : Rule} (h1 : ∀ c ∈ r.1, c ∈ cs) (h2 : ∀ c ∈ r.2, c ∈ cs) :
    (∀ k row, (rowsOf cs (leastL cs rs))[k]? = some row → breaksAt cs (rowsOf cs (leastL cs rs)) k row r = []) ↔ within r.2 (Cl cs rs r.1) = true := by
  constructor
  · intro hb
    refine within_iff.mpr fun c hc => Classical.byContradiction fun hn => ?_
    obtain ⟨m, hm, k1, k2⟩ := least_above h _ _ (Nat.le_refl _) Cl_sub (clo_closed ho) c (h2 c hc) hn
    obtain ⟨k, row, hr, hin⟩ := least_behind h hm
    have : m ∈ breaksAt cs (rowsOf cs (leastL cs rs)) k row r := by
      refine List.mem_filter.mpr ⟨List.mem_filter.mpr ⟨hin, decide_eq_true (common_eq.mpr fun x hx => k1 x (clo_base hx (h1 x hx)))⟩, ?_⟩
      rw [Bool.not_eq_true', decide_eq_false_iff_not, common_eq]
      exact fun z => k2 (z c hc)
    rw [hb k row hr] at this
    simp at this
  · intro hw k row hr
    refine List.filter_eq_nil_iff.mpr fun o hin => ?_
    obtain ⟨hin, hl⟩ := List.mem_filter.mp hin
    obtain ⟨i, a, b, hik, ha, hb, rfl⟩ := (mem_behind hr).mp hin
    have hcl := jnt_closed (cons_least h ho ha).2 (cons_least h ho hb).2 ho
    have hl := common_eq.mp (of_decide_eq_true hl)
    rw [decide_eq_true (common_eq.mpr fun c hc => clo_least hl hcl (within_iff.mp hw c hc))]
    exact Bool.false_ne_true
theorem mem_foldS {rows : List (List Int)} : ∀ {L : List (Int × List Int)} {acc : List (List Nm)}, s ∈ L.foldl (sharedStep cs rows) acc ↔ s ∈ acc ∨ ∃ p ∈ L, s ∈ behind cs rows p.1.toNat p.2
  | [], acc => by simp
  | p :: L, acc => by
    rw [List.foldl_cons, mem_foldS]
    have e : s ∈ sharedStep cs rows acc p ↔ s ∈ acc ∨ s ∈ behind cs rows p.1.toNat p.2 := by
      unfold sharedStep
      rw [mem_uniG, mem_uniG]
      simp [behind]
    rw [e]
    simp only [List.mem_cons, exists_eq_or_imp, or_assoc]
theorem mem_enumL {α : Type} [Im α] {L : List α} {p : Int × α} : p ∈ enumL L ↔ ∃ k : Nat, p.1 = k ∧ L[k]? = some p.2 := by
  constructor
  · intro h
    obtain ⟨k, hk, e⟩ := List.getElem_of_mem h
    rw [enumL_len] at hk
    have := enumL_get (List.getElem?_eq_getElem hk)
    rw [List.getElem?_eq_getElem (by rw [enumL_len]; exact hk), e] at this
    have := Option.some.inj this
    exact ⟨k, by rw [this], by rw [this]; exact List.getElem?_eq_getElem hk⟩
  · rintro ⟨k, e1, e2⟩
    have := enumL_get e2
    rw [← e1] at this
    exact List.mem_of_getElem? this
theorem mem_sharedKs {rows : List (List Int)} : s ∈ sharedKs cs rows ↔ ∃ k row, rows[k]? = some row ∧ s ∈ behind cs rows k row := by
  unfold sharedKs
  rw [mem_foldS]
  constructor
  · rintro (z | ⟨p, hp, hs⟩)
    · simp at z
    · obtain ⟨k, e1, e2⟩ := mem_enumL.mp hp
      rw [e1] at hs
      exact ⟨k, _, e2, hs⟩
  · rintro ⟨k, row, h1, h2⟩
    exact .inr ⟨((k : Int), row), mem_enumL.mpr ⟨k, rfl, h1⟩, h2⟩
theorem typ_true {C : Addr} {y : Rul C} (h : C5 cs) (ho : Over cs rs) (hy : y.cols = cs) (hcl : ∀ s, closedB y.rules s = closedB rs s) : typB y (rowsOf cs (leastL cs rs)) = true := by
  unfold typB
  rw [hy, Bool.and_eq_true, List.all_eq_true, List.all_eq_true]
  constructor
  · intro s hs
    obtain ⟨k, row, hr, hin⟩ := mem_sharedKs.mp hs
    obtain ⟨i, a, b, hik, ha, hb, rfl⟩ := (mem_behind hr).mp hin
    rw [hcl]
    exact jnt_closed (cons_least h ho ha).2 (cons_least h ho hb).2 ho
  · intro s hs
    have hss : s.Sublist cs := (asc_sublist h.asc).mpr ((mem_setsOf h).mp hs)
    cases q : closedB y.rules s with
    | false => rfl
    | true =>
      rw [hcl] at q
      have e : sharedAll cs ((sharedKs cs (rowsOf cs (leastL cs rs))).filter (within s)) = s := by
        refine asc_ext (h.asc.filter _) (asc_sub h.asc hss) fun c => ?_
        show c ∈ sharedAll _ _ ↔ _
        rw [mem_sharedAll]
        constructor
        · rintro ⟨h1, h2⟩
          refine Classical.byContradiction fun hn => ?_
          obtain ⟨m, hm, k1, k2⟩ := least_above h _ _ (Nat.le_refl _) hss q c h1 hn
          obtain ⟨k, row, hr, hin⟩ := least_behind h hm
          exact k2 (h2 m (List.mem_filter.mpr ⟨mem_sharedKs.mpr ⟨k, row, hr, hin⟩, within_iff.mpr k1⟩))
        · intro hc
          exact ⟨hss.subset hc, fun o ho => within_iff.mp (List.mem_filter.mp ho).2 c hc⟩
      rw [decide_eq_true e]
      rfl
theorem least_few (h : C5 cs) : (rowsOf cs (leastL cs rs)).length ≤ 200 := by
  rw [rows_len]
  have h1 := sets_few h
  have h2 : (leastL cs rs).length ≤ (setsOf cs).length := Nat.le_trans (List.length_filter_le _ _) (List.length_filter_le _ _)
  omega
theorem rows_each {L : List (List Nm)} : ∀ row ∈ rowsOf cs L, row.length = cs.length := fun row hr => by
  obtain ⟨k, hk, e⟩ := List.getElem_of_mem hr
  obtain ⟨s, _, e2⟩ := rows_get (List.getElem?_eq_some_iff.mpr ⟨hk, e⟩)
  rw [e2, rowL_len]
end
section
variable {κ β : Type} [DecidableEq κ]
theorem valS_app {kvs ms : List (κ × β)} {k : κ} : valS (kvs ++ ms) k = (valS kvs k).or (valS ms k) := by
  unfold valS
  rw [List.find?_append]
  cases (kvs.find? fun p => decide (p.1 = k)) <;> rfl
theorem valS_none {kvs : List (κ × β)} {k : κ} (h : (kvs.any fun p => decide (p.1 = k)) = false) : valS kvs k = none := by
  unfold valS
  rw [List.find?_eq_none.mpr]
  · rfl
  · intro p hp z
    have := List.any_eq_false.mp h p hp
    exact this z
theorem valS_put_same (k : κ) (b : β) : ∀ kvs : List (κ × β), valS (putS kvs k b) k = some b := by
  have key : ∀ kvs : List (κ × β), (kvs.any fun p => decide (p.1 = k)) = true → valS (kvs.map fun p => if p.1 = k then (p.1, b) else p) k = some b := by
    intro kvs
    induction kvs with
    | nil => intro h; simp at h
    | cons p kvs ih =>
      intro h
      unfold valS
      rw [List.map_cons, List.find?_cons]
      by_cases e : p.1 = k
      · rw [if_pos e, decide_eq_true e]; rfl
      · rw [if_neg e, decide_eq_false e]
        refine ih ?_
        rw [List.any_cons, decide_eq_false e, Bool.false_or] at h
        exact h
  intro kvs
  unfold putS
  split
  · rename_i h; exact key kvs h
  · rename_i h
    rw [valS_app, valS_none (Bool.eq_false_iff.mpr h)]
    unfold valS
    simp
theorem valS_put_other {k k' : κ} (b : β) (hk : k ≠ k') : ∀ kvs : List (κ × β), valS (putS kvs k b) k' = valS kvs k' := by
  have key : ∀ kvs : List (κ × β), valS (kvs.map fun p => if p.1 = k then (p.1, b) else p) k' = valS kvs k' := by
    intro kvs
    induction kvs with
    | nil => rfl
    | cons p kvs ih =>
      unfold valS at ih ⊢
      rw [List.map_cons, List.find?_cons, List.find?_cons]
      by_cases e : p.1 = k
      · have e2 : p.1 ≠ k' := fun z => hk (e.symm.trans z)
        rw [if_pos e, decide_eq_false e2]
        exact ih
      · rw [if_neg e]
        by_cases e2 : p.1 = k'
        · rw [decide_eq_true e2]
        · rw [decide_eq_false e2]; exact ih
  intro kvs
  unfold putS
  split
  · exact key kvs
  · rw [valS_app]
    unfold valS
    cases (kvs.find? fun p => decide (p.1 = k')) <;> simp [hk]
end
structure PlIs (seen : List Rule) (pd : List (List Nm × List Nm)) : Prop where
  up : ∀ r ∈ seen, ∃ v, valS pd r.1 = some v ∧ ∀ c ∈ r.2, c ∉ r.1 → c ∈ v
  dn : ∀ p ∈ pd, (∃ r ∈ seen, r.1 = p.1) ∧ ∀ c ∈ p.2, ∃ r ∈ seen, r.1 = p.1 ∧ c ∈ r.2
theorem pl_step {seen : List Rule} {pd : List (List Nm × List Nm)} (h : PlIs seen pd) (r : Rule) : PlIs (seen ++ [r]) (plStep pd r) := by
  unfold plStep
  constructor
  · intro q hq
    by_cases e : r.1 = q.1
    · refine ⟨_, by rw [← e]; exact valS_put_same _ _ _, fun c hc hn => ?_⟩
      rcases List.mem_append.mp hq with z | z
      · obtain ⟨v, hv, hc2⟩ := h.up q z
        rw [e, hv]
        exact List.mem_append.mpr (.inl (hc2 c hc hn))
      · rw [List.mem_singleton.mp z] at hc hn
        exact List.mem_append.mpr (.inr (List.mem_filter.mpr ⟨hc, by simpa using hn⟩))
    · rcases List.mem_append.mp hq with z | z
      · obtain ⟨v, hv, hc2⟩ := h.up q z
        exact ⟨v, by rw [valS_put_other _ e]; exact hv, hc2⟩
      · exact absurd (by rw [List.mem_singleton.mp z]) e
  · intro p hp
    have old : ∀ p ∈ pd, (∃ q ∈ seen ++ [r], q.1 = p.1) ∧ ∀ c ∈ p.2, ∃ q ∈ seen ++ [r], q.1 = p.1 ∧ c ∈ q.2 := fun p hp => by
      obtain ⟨⟨q, h1, h2⟩, h3⟩ := h.dn p hp
      refine ⟨⟨q, List.mem_append.mpr (.inl h1), h2⟩, fun c hc => ?_⟩
      obtain ⟨q', g1, g2⟩ := h3 c hc
      exact ⟨q', List.mem_append.mpr (.inl g1), g2⟩
    rcases mem_putS hp with z | z
    · exact old p z
    · rw [z]
      refine ⟨⟨r, by simp, rfl⟩, fun c hc => ?_⟩
      rcases List.mem_append.mp hc with y | y
      · cases e : valS pd r.1 with
        | none => rw [e] at y; simp at y
        | some b =>
          rw [e] at y
          exact (old _ (valS_mem e)).2 c y
      · exact ⟨r, by simp, rfl, (List.mem_filter.mp y).1⟩
theorem pl_all : ∀ (rs seen : List Rule) (pd : List (List Nm × List Nm)), PlIs seen pd → PlIs (seen ++ rs) (rs.foldl plStep pd)
  | [], seen, pd, h => by rw [List.append_nil]; exact h
  | r :: rs, seen, pd, h => by
    have := pl_all rs (seen ++ [r]) _ (pl_step h r)
    rw [List.append_assoc] at this
    exact this
theorem pl_is (rs : List Rule) : PlIs rs (rs.foldl plStep []) := by
  have := pl_all rs [] [] ⟨by simp, by simp⟩
  simpa using this
theorem mem_plain {rs : List Rule} {q : Rule} : q ∈ plainOf rs ↔ ∃ p ∈ rs.foldl plStep [], p.2 ≠ [] ∧ q = (p.1, ascL p.2) := by
  unfold plainOf
  rw [List.mem_map]
  constructor
  · rintro ⟨p, hp, rfl⟩
    obtain ⟨h1, h2⟩ := List.mem_filter.mp hp
    exact ⟨p, h1, by simpa using h2, rfl⟩
  · rintro ⟨p, hp, hne, rfl⟩
    exact ⟨p, List.mem_filter.mpr ⟨hp, by simpa using hne⟩, rfl⟩
theorem plain_closed {rs : List Rule} {s : List Nm} : closedB (plainOf rs) s = closedB rs s := by
  have hp := pl_is rs
  rw [Bool.eq_iff_iff, closedB_iff, closedB_iff]
  constructor
  · intro h r hr hl c hc
    by_cases hcl : c ∈ r.1
    · exact hl c hcl
    · obtain ⟨v, hv, hup⟩ := hp.up r hr
      have hcv := hup c hc hcl
      exact h (r.1, ascL v) (mem_plain.mpr ⟨(r.1, v), valS_mem hv, List.ne_nil_of_mem hcv, rfl⟩) hl c (mem_ascL.mpr hcv)
  · intro h q hq hl c hc
    obtain ⟨p, hpm, _, rfl⟩ := mem_plain.mp hq
    obtain ⟨r, hr, e, hcr⟩ := (hp.dn p hpm).2 c (mem_ascL.mp hc)
    exact h r hr (by rw [e]; exact hl) c hcr
theorem plain_pre {cs : List Nm} {rs : List Rule} (hc : Cols cs) (h : ∀ r ∈ rs, ROk cs r) (hl : rs.length ≤ 16) : InPre cs (plainOf rs) := by
  have hp := pl_is rs
  refine inPre_few hc (fun q hq => ?_) ?_
  · obtain ⟨p, hpm, hne, rfl⟩ := mem_plain.mp hq
    obtain ⟨⟨r, hr, e⟩, hd⟩ := hp.dn p hpm
    have hro := h r hr
    have hsub : ∀ c ∈ ascL p.2, c ∈ cs := fun c hc => by
      obtain ⟨r', hr', _, hcr⟩ := hd c (mem_ascL.mp hc)
      exact (h r' hr').rs c hcr
    refine ⟨by rw [← e]; exact hro.hl, hc.sub ((asc_sublist hc.asc).mpr ⟨ascL_asc _, hsub⟩), by rw [← e]; exact hro.ls, hsub, ?_⟩
    obtain ⟨c, hcm⟩ := List.exists_mem_of_ne_nil _ hne
    exact List.ne_nil_of_mem (mem_ascL.mpr hcm)
  · unfold plainOf
    rw [List.length_map]
    refine Nat.le_trans (List.length_filter_le _ _) ?_
    have := (pl_bound rs [] 8 (fun r hr => Nat.le_trans (h r hr).hr.len (Nat.le_refl _)) (by simp)).1
    rw [List.length_nil] at this
    omega
end Mk
-- MkLp
namespace Mk
open Im (rep)
open PySem PySem.Spec PyProof.Rows L2
variable {T : Tx}
structure PpPre {C : Addr} (x : Rul C) : Prop where
  ok : RulPre x
  pl : x.plain = plainOf x.rules
  few : x.rules.length ≤ 15
  ne : x.cols ≠ []
theorem sc_papers_right : FnScope ["_law_dice_here", "_law_some_here", "_law_rows", "_law_turn", "_law_left", "_law_rule", "_law_made", "_law_breaks", "_law_at", "_law_row", "_law_shared", "_law_within", "_law_other", "_law_one"] ["_law_dice_here", "_law_some_here"] (defScope (top 80)) := ⟨rfl, rfl, rfl, by decide +kernel, rfl, by decide +kernel, by decide +kernel⟩
theorem paper_kind {C : Addr} {x : Rul C} {r : Rule} {p : Paper} (h : PaperIs (x, r) p) : decide (p.kind = ("derived" : Str)) = within r.2 (Cl x.cols x.rules r.1) := by
  unfold PaperIs at h
  have hd : decide (("apart" : Str) = ("derived" : Str)) = false := by decide
  cases q : within r.2 (Cl x.cols x.rules r.1) with
  | true =>
    rw [if_pos q] at h
    obtain ⟨us, _, rfl⟩ := h
    exact decide_eq_true rfl
  | false =>
    rw [if_neg (by rw [q]; exact Bool.false_ne_true)] at h
    obtain ⟨a, c, rfl⟩ := h
    exact hd
theorem ok_papers_right (h : Top T) : Fn T 10 "_law_papers_right" (spC (β := RulT T) true (fun b => [.di, .im b]) PpPre (fun _ => .im (· = true))) := by
  refine def_ok (at_law_papers_right h) sc_papers_right (fun _ _ _ _ _ _ us hl => match us, hl with | [_, _], _ => rfl) (fun b => rfl) fun x d hd hp => ?_
  obtain ⟨hp, hpl, hfew, hne⟩ := hp
  have ho := hp.over
  obtain ⟨hx, hc⟩ := hp
  have hp : RulPre x := ⟨hx, hc⟩
  have hcc := hc.cols
  have hcl := hc.len
  have hrl : (rowsOf x.cols (leastL x.cols x.rules)).length ≤ 200 := least_few hc
  have hre : ∀ row ∈ rowsOf x.cols (leastL x.cols x.rules), row.length = x.cols.length := rows_each
  refine run_set (i := 2) (a := rowsOf x.cols (leastL x.cols x.rules)) (ev_call (ok_typical_rows h) x (ea_var (i := 1) (s := .im x) rfl ea_nil) rfl hp) ?_
  refine run_for (ei_range (P := (· = (4 : Int))) (blt h).range ev_int (fun m e => by omega)) (bnd_name (i := 3)) (I := fun _ i G' => ∃ a b c e f g k l m, G' = [.di, .im x, .im (rowsOf x.cols (leastL x.cols x.rules)), a, b, c, e, f, g, k, l, m, .no, .no]) (fun _ _ => ⟨_, _, _, _, _, _, _, _, _, rfl⟩) ?_ ?_ ?_
  · rintro _ i G' ⟨a, b, c, e, f, g, k, l, m, rfl⟩; rfl
  · rintro _ i z G' _ hz ⟨a, b, c, e, f, g, k, l, m, rfl⟩
    refine run_setP (i := 4) (ev_someC h (i := 0) rfl (ev_columns (x := x) h ((ev_var (i := 1) rfl))) ev_int (by decide)) fun left hleft => ?_
    have hleft : left.Sublist x.cols := hleft
    have s1 : ∀ c ∈ left, c ∈ x.cols := fun c hc => hleft.subset hc
    refine run_setP (i := 5) (P := fun r : Rule => r.1 = left ∧ RightOf x.cols r.2) ((ev_pair (P := (· = left)) (R := RightOf x.cols) (ev_var (i := 4) (a := left) rfl) (ev_callD (ok_right_side h) (x.cols, []) (ea_var (i := 0) (s := .di) rfl (ea_im (ev_columns (x := x) h ((ev_var (i := 1) rfl))) (ea_im (ev_tup0 (α := Nm)) ea_nil))) rfl ⟨hne, by show x.cols.length ≤ 1000; omega⟩)).imp fun z hz => hz) fun r hr => ?_
    obtain ⟨er, hr⟩ := hr
    have hro : ROk x.cols r := by
      have := rok_of hcc hleft hr
      rw [← er] at this
      exact this
    refine run_par (i := 6) (j := 7) put_im put_im (ev_call (ok_rule_paper h) (x, r) (ea_var (i := 1) (s := .im x) rfl (ea_var (i := 5) (s := .im r) rfl ea_nil)) rfl ⟨hx, hro⟩) (ev_int (i := 0)) (fun G' G'' h1 h2 => ?_) (fun G' ⟨a, _, e⟩ => by rw [e]; rfl)
    obtain ⟨made, hm, rfl⟩ := h1
    obtain ⟨_, rfl, rfl⟩ := h2
    have hm : PaperIs (x, r) made := hm
    refine run_for (ei_enT (xs := rowsOf x.cols (leastL x.cols x.rules)) (blt h) ((ev_var (i := 2) rfl))) (bnd_pair (i := 8) (j := 9)) (I := fun _ i G' => ∃ (n : Nat) (a g k l m : Slot), G' = [.di, .im x, .im (rowsOf x.cols (leastL x.cols x.rules)), a, .im left, .im r, .im made, .im (n : Int), g, k, l, m, .no, .no] ∧ (n = 0 ↔ ∀ k row, k < i → (rowsOf x.cols (leastL x.cols x.rules))[k]? = some row → breaksAt x.cols (rowsOf x.cols (leastL x.cols x.rules)) k row r = [])) (fun _ _ => ⟨0, _, _, _, _, _, rfl, by simp⟩) ?_ ?_ ?_
    · rintro _ i G' ⟨n, a, g, k, l, m, rfl, _⟩; rfl
    · rintro L i p G' rfl hs ⟨n, a, g, k, l, m, rfl, hn⟩
      have hi : i < (rowsOf x.cols (leastL x.cols x.rules)).length := by
        have := (List.getElem?_eq_some_iff.mp hs).1
        rw [enumL_len] at this
        exact this
      have hrow : (rowsOf x.cols (leastL x.cols x.rules))[i]? = some (rowsOf x.cols (leastL x.cols x.rules))[i] := List.getElem?_eq_getElem hi
      have hpp : p = ((i : Int), (rowsOf x.cols (leastL x.cols x.rules))[i]) := by
        rw [enumL_get hrow] at hs
        exact (Option.some.inj hs).symm
      subst hpp
      generalize erow : (rowsOf x.cols (leastL x.cols x.rules))[i] = row at hrow
      have hrow1 : row.length = x.cols.length := hre row (List.mem_of_getElem? hrow)
      refine run_setLcR (i := 10) (own := [("_law_other", 12)]) (P := (· = behind x.cols (rowsOf x.cols (leastL x.cols x.rules)) i row)) (lc_map (fun o : List Int => sharedL x.cols row o) rfl (ei_tup (ev_takeT (n := i) ((ev_var (i := 2) rfl)) ((ev_var (i := 8) rfl)))) (by kernel_rfl) (bnd_name (i := 12)) (by decide) fun o ho => ?_) fun _ e => ?_
      · exact ev_call (ok_law_agreement h) (x.cols, row, o) (ea_im (ev_columns (x := x) h ((ev_var (i := 1) rfl))) (ea_var (i := 9) (s := .im row) rfl (ea_var (i := 12) (s := .im o) rfl ea_nil))) rfl ⟨hrow1, hre o (List.mem_of_mem_take ho)⟩
      subst e
      refine run_setLcR (i := 11) (own := [("_law_one", 13)]) (P := (· = (behind x.cols (rowsOf x.cols (leastL x.cols x.rules)) i row).filter fun o => decide (common r.1 o = r.1))) ((lc_filter (fun o : List Nm => decide (common r.1 o = r.1)) (fun o : List Nm => o) rfl (ei_ro (i := 10) rfl) (by kernel_rfl) (bnd_name (i := 13)) (by decide) (fun o ho => ?_) fun o ho _ => (ev_var (i := 13) rfl)).imp fun ys e => e.trans (List.map_id' _)) fun _ e => ?_
      · rw [er]
        exact (ev_eqD (ev_common h (ev_var (i := 4) (a := left) rfl) (ev_var (i := 13) (a := o) rfl)) (ev_var (i := 4) (a := left) rfl)).t
      subst e
      refine run_set (i := 7) (a := ((n + (breaksAt x.cols (rowsOf x.cols (leastL x.cols x.rules)) i row r).length : Nat) : Int)) ((ev_addE (ev_var (i := 7) (a := (n : Int)) rfl) (ev_len (P := (· = breaksAt x.cols (rowsOf x.cols (leastL x.cols x.rules)) i row r)) (n := ((breaksAt x.cols (rowsOf x.cols (leastL x.cols x.rules)) i row r).length : Int)) (blt h) (es_ls ((ev_lc (own := [("_law_one", 13)]) (lc_filter (fun o : List Nm => !decide (common r.2 o = r.2)) (fun o : List Nm => o) rfl (ei_ro (i := 11) rfl) (by kernel_rfl) (bnd_name (i := 13)) (by decide) (fun o ho => ?_) fun o ho _ => (ev_var (i := 13) rfl))).impL fun z e => e.trans (List.map_id' _))) (fun xs e => by rw [e]))).to (by omega)) (run_nil ⟨_, _, _, _, _, _, rfl, ?_⟩)
      · exact (ev_neD (ev_common h (ev_snd (P := (· = r)) (R := (· = r.2)) ((ev_var (i := 5) rfl)) (fun x e => by rw [e])) (ev_var (i := 13) (a := o) rfl)) (ev_snd (P := (· = r)) (R := (· = r.2)) ((ev_var (i := 5) rfl)) (fun x e => by rw [e]))).t
      · constructor
        · intro e k row' hk hr'
          by_cases hki : k < i
          · exact hn.mp (by omega) k row' hki hr'
          · have : k = i := by omega
            subst this
            rw [hrow] at hr'
            rw [← Option.some.inj hr']
            exact List.length_eq_zero_iff.mp (by omega)
        · intro hall
          have h1 := hn.mpr fun k row' hk => hall k row' (by omega)
          have h2 := hall i row (by omega) hrow
          rw [h1, h2]
          rfl
    · rintro L G' rfl ⟨n, a, g, k, l, m, rfl, hn⟩
      rw [enumL_len] at hn
      have hw : decide ((n : Int) = 0) = within r.2 (Cl x.cols x.rules r.1) := by
        rw [Bool.eq_iff_iff, decide_eq_true_iff, ← breaks_iff hc ho hro.ls hro.rs]
        constructor
        · intro e k row hr'
          exact hn.mp (by omega) k row (List.getElem?_eq_some_iff.mp hr').1 hr'
        · intro hall
          have := hn.mpr fun k row _ => hall k row
          omega
      refine run_if (b := false) (EvT.to (et_w (ew_or (x := false) (y := false) ((ev_neD (ev_eqD (ev_var (i := 7) (a := (n : Int)) rfl) ev_int).v (ev_follows h (x := x) (r := r) ((ev_var (i := 1) rfl)) ((ev_var (i := 5) rfl)) hx hro)).t.to (by rw [decide_eq_true hw]; rfl)) fun _ => ew_or1 ((ev_neD (ev_eqS (ev_paper0 (x := made) ((ev_var (i := 6) rfl))) ev_str).v (ev_follows h (x := x) (r := r) ((ev_var (i := 1) rfl)) ((ev_var (i := 5) rfl)) hx hro)).t.to (by rw [decide_eq_true (paper_kind hm)]; rfl)))) rfl) (fun z => by cases z) fun _ => run_nil ?_
      refine run_if (b := false) (EvT.to (et_w (ew_and (y := false) (et_val (ev_follows h (x := x) (r := r) ((ev_var (i := 1) rfl)) ((ev_var (i := 5) rfl)) hx hro)) fun hf => ew_and1 ?_)) (Bool.and_false _)) (fun z => by cases z) fun _ => run_nil (run_nil ⟨_, _, _, _, _, _, _, _, _, rfl⟩)
      obtain ⟨us, hus, rfl⟩ : ∃ us, Used (x, r) us ∧ made = .der us := by
        unfold PaperIs at hm
        rw [if_pos hf] at hm
        exact hm
      have hinp : InPre x.cols (x.rules ++ [r]) := inPre_few hcc (fun q hq => by
        rcases List.mem_append.mp hq with y | y
        · exact hx.rules q y
        · rw [List.mem_singleton.mp y]; exact hro) (by rw [List.length_append, List.length_singleton]; omega)
      refine (et_not (et_val (ev_call (ok_is_rule_paper h) (mkRul T x.cols (x.rules ++ [r]), r, us) (ea_im (ev_meth h (x := x) (ok_with_rule h) (x, r) ((ev_var (i := 1) rfl)) (ea_im (ev_fst (P := (· = r)) (R := (· = r.1)) ((ev_var (i := 5) rfl)) (fun x e => by rw [e])) (ea_im (ev_snd (P := (· = r)) (R := (· = r.2)) ((ev_var (i := 5) rfl)) (fun x e => by rw [e])) ea_nil)) rfl ⟨hx, hro, hinp⟩) (ea_var (i := 5) (s := .im r) rfl (ea_im ((ev_var (i := 6) (a := Paper.der us) rfl).as (y := (("derived" : Str), us)) fun H v r => r) ea_nil))) rfl ⟨mkRul_ok hinp, hro, ⟨fun q hq => mkRul_mem.mpr (List.mem_append.mpr (.inl (hus.1.1 q hq))), hus.1.2⟩, ?_⟩))).to rfl
      refine within_iff.mpr fun c hcr => (hus.2 c).mp (within_iff.mp hf c hcr)
  · rintro _ G' _ ⟨a, b, c, e, f, g, k, l, m, rfl⟩
    have hplp : InPre x.cols x.plain := by rw [hpl]; exact plain_pre hcc hx.rules hx.few
    have hx2 : RulOk (mkRul T x.cols x.plain) := mkRul_ok hplp
    refine run_ret ((ev_and (x := true) (y := true) ((ev_call (ok_are_typical h) (x, rowsOf x.cols (leastL x.cols x.rules)) (ea_var (i := 1) (s := .im x) rfl (ea_var (i := 2) (s := .im (rowsOf x.cols (leastL x.cols x.rules))) rfl ea_nil)) rfl ⟨hp, hre, hrl⟩).to (typ_true hc ho rfl fun s => rfl)) fun _ => ev_one ((ev_call (ok_are_typical h) (mkRul T x.cols x.plain, rowsOf x.cols (leastL x.cols x.rules)) (ea_im (ev_of h (ev_columns (x := x) h ((ev_var (i := 1) rfl))) (ev_plain (x := x) h ((ev_var (i := 1) rfl))) hplp) (ea_var (i := 2) (s := .im (rowsOf x.cols (leastL x.cols x.rules))) rfl ea_nil)) rfl ⟨⟨hx2, hc⟩, hre, hrl⟩).to (typ_true hc ho rfl fun s => ?_))).to rfl)
    rw [closedB_mem (rs := (mkRul T x.cols x.plain).rules) (qs := x.plain) fun r => mkRul_mem, hpl]
    exact plain_closed
end Mk
-- MkQr
namespace Mk
open Im (rep)
open PySem PySem.Spec PyProof.Rows L2
def zS (c : Nm) : Str := ("z" : Str) ++ c.s
def zN (c : Nm) : Nm := if h : nmOk (zS c) = true then ⟨zS c, h⟩ else c
def Sh (c : Nm) : Prop := c.s.length ≤ 7
theorem zS_cps (c : Nm) : (zS c).cps.toList = 122 :: c.s.cps.toList := by
  show ((("z" : Str).cps ++ c.s.cps).toList) = _
  rw [Array.toList_append]
  rfl
theorem zS_ok {c : Nm} (h : Sh c) : nmOk (zS c) = true := by
  have h1 := c.ok
  have h : c.s.length ≤ 7 := h
  have hl : (zS c).length = c.s.length + 1 := by rw [len_cps, zS_cps, List.length_cons, ← len_cps]
  unfold nmOk at h1 ⊢
  rw [Bool.and_eq_true, Bool.and_eq_true, decide_eq_true_eq, decide_eq_true_eq, List.all_eq_true] at h1 ⊢
  refine ⟨by omega, by omega, fun d hd => ?_⟩
  rw [zS_cps] at hd
  rcases List.mem_cons.mp hd with rfl | hd
  · rfl
  · exact h1.2.2 d hd
theorem zN_s {c : Nm} (h : Sh c) : (zN c).s = zS c := by
  unfold zN
  rw [dif_pos (zS_ok h)]
theorem z_lt {a b : Nm} (ha : Sh a) (hb : Sh b) : ltN (zN a) (zN b) ↔ ltN a b := by
  unfold ltN
  rw [zN_s ha, zN_s hb, zS_cps, zS_cps]
  constructor
  · intro h
    cases h with
    | cons h => exact h
    | rel h => exact absurd h (Nat.lt_irrefl _)
  · exact fun h => .cons h
theorem z_inj {a b : Nm} (ha : Sh a) (hb : Sh b) (h : zN a = zN b) : a = b := by
  have e : (zS a).cps.toList = (zS b).cps.toList := by rw [← zN_s ha, ← zN_s hb, h]
  rw [zS_cps, zS_cps] at e
  exact Nm.ext (str_ext (Array.toList_inj.mp (List.cons.inj e).2))
def AllSh (cs : List Nm) : Prop := ∀ c ∈ cs, Sh c
def zL (s : List Nm) : List Nm := s.map zN
section
variable {cs s t : List Nm} {rs : List Rule} {c : Nm}
theorem mem_zL (hs : AllSh s) (hc : Sh c) : zN c ∈ zL s ↔ c ∈ s := by
  unfold zL
  rw [List.mem_map]
  constructor
  · rintro ⟨d, hd, e⟩
    rw [← z_inj (hs d hd) hc e]; exact hd
  · exact fun h => ⟨c, h, rfl⟩
theorem zL_asc (hs : AllSh s) (h : s.Pairwise ltN) : (zL s).Pairwise ltN := by
  unfold zL
  rw [List.pairwise_map]
  exact h.imp_of_mem fun {a b} ha hb l => (z_lt (hs a ha) (hs b hb)).mpr l
theorem z_within (hs : AllSh s) (ht : AllSh t) : within (zL s) (zL t) = within s t := by
  rw [Bool.eq_iff_iff, within_iff, within_iff]
  constructor
  · exact fun h c hc => (mem_zL ht (hs c hc)).mp (h _ (List.mem_map.mpr ⟨c, hc, rfl⟩))
  · intro h d hd
    obtain ⟨c, hc, rfl⟩ := List.mem_map.mp hd
    exact (mem_zL ht (hs c hc)).mpr (h c hc)
theorem AllSh.sub (h : AllSh cs) (hs : ∀ c ∈ s, c ∈ cs) : AllSh s := fun c hc => h c (hs c hc)
def zR (r : Rule) : Rule := (zL r.1, zL r.2)
theorem all_congr {α : Type} {p q : α → Bool} {L : List α} (h : ∀ x ∈ L, p x = q x) : L.all p = L.all q := by
  rw [Bool.eq_iff_iff, List.all_eq_true, List.all_eq_true]
  exact ⟨fun z x hx => by rw [← h x hx]; exact z x hx, fun z x hx => by rw [h x hx]; exact z x hx⟩
theorem any_congr {α : Type} {p q : α → Bool} {L : List α} (h : ∀ x ∈ L, p x = q x) : L.any p = L.any q := by
  rw [Bool.eq_iff_iff, List.any_eq_true, List.any_eq_true]
  exact ⟨fun ⟨x, hx, z⟩ => ⟨x, hx, by rw [← h x hx]; exact z⟩, fun ⟨x, hx, z⟩ => ⟨x, hx, by rw [h x hx]; exact z⟩⟩
theorem z_closed (h : AllSh cs) (ho : Over cs rs) (hs : ∀ c ∈ s, c ∈ cs) : closedB (rs.map zR) (zL s) = closedB rs s := by
  unfold closedB
  rw [List.all_map]
  refine all_congr fun r hr => ?_
  show (!within (zL r.1) (zL s) || within (zL r.2) (zL s)) = _
  rw [z_within (h.sub (ho r hr).1) (h.sub hs), z_within (h.sub (ho r hr).2) (h.sub hs)]
theorem z_top (hs : AllSh s) (hc : Sh c) : onTop (zL s) (zN c) = onTop s c := by
  unfold onTop
  have e1 : decide (zL s = []) = decide (s = []) := by
    unfold zL
    rw [Bool.eq_iff_iff, decide_eq_true_iff, decide_eq_true_iff, List.map_eq_nil_iff]
  rw [e1]
  unfold zL
  rw [List.getLast?_map]
  cases q : s.getLast? with
  | none => rfl
  | some l =>
    show (decide (s = []) || decide (ltN (zN l) (zN c))) = (decide (s = []) || decide (ltN l c))
    have e2 : decide (ltN (zN l) (zN c)) = decide (ltN l c) := by
      rw [Bool.eq_iff_iff, decide_eq_true_iff, decide_eq_true_iff]
      exact z_lt (hs l (List.mem_of_getLast? q)) hc
    rw [e2]
theorem z_next (h : AllSh cs) : ∀ L : List (List Nm), (∀ s ∈ L, ∀ c ∈ s, c ∈ cs) → nextL (zL cs) (L.map zL) = (nextL cs L).map zL
  | [], _ => rfl
  | s :: L, hL => by
    have ih := z_next h L fun t ht => hL t (List.mem_cons_of_mem _ ht)
    have e1 : nextL cs (s :: L) = ((cs.filter (onTop s)).map fun c => s ++ [c]) ++ nextL cs L := rfl
    have e2 : nextL (zL cs) ((s :: L).map zL) = (((zL cs).filter (onTop (zL s))).map fun c => zL s ++ [c]) ++ nextL (zL cs) (L.map zL) := rfl
    rw [e1, e2, ih, List.map_append]
    congr 1
    have hsh : AllSh s := h.sub (hL s List.mem_cons_self)
    have e3 : (zL cs).filter (onTop (zL s)) = (cs.filter (onTop s)).map zN := by
      unfold zL
      rw [List.filter_map]
      congr 1
      refine List.filter_congr fun c hc => ?_
      exact z_top hsh (h c hc)
    rw [e3, List.map_map, List.map_map]
    refine List.map_congr_left fun c _ => ?_
    show zL s ++ [zN c] = zL (s ++ [c])
    unfold zL
    rw [List.map_append]
    rfl
theorem z_layer (h : AllSh cs) : ∀ n, layer (zL cs) n = (layer cs n).map zL
  | 0 => rfl
  | n + 1 => by
    show nextL (zL cs) (layer (zL cs) n) = (nextL cs (layer cs n)).map zL
    rw [z_layer h n]
    exact z_next h _ fun s hs => (mem_layer.mp hs).2.2
theorem z_sets (h : AllSh cs) : setsOf (zL cs) = (setsOf cs).map zL := by
  unfold setsOf
  rw [List.map_flatMap]
  congr 1
  funext n
  exact z_layer h n
theorem z_C5 (h : AllSh cs) (hc : C5 cs) : C5 (zL cs) := ⟨zL_asc h hc.asc, by unfold zL; rw [List.length_map]; exact hc.len⟩
theorem z_closedL (h : AllSh cs) (hc : C5 cs) (ho : Over cs rs) : closedL (zL cs) (rs.map zR) = (closedL cs rs).map zL := by
  unfold closedL
  rw [z_sets h, List.filter_map]
  congr 1
  refine List.filter_congr fun s hs => ?_
  exact z_closed h ho ((mem_setsOf hc).mp hs).2
theorem z_step (h : AllSh cs) (ho : Over cs rs) {F : List (List Nm)} (hF : ∀ t ∈ F, ∀ c ∈ t, c ∈ cs) (hs : ∀ c ∈ s, c ∈ cs) : trigStep (rs.map zR) (F.map zL) (zL s) = (trigStep rs F s).map zL := by
  unfold trigStep
  rw [z_closed h ho hs, List.any_map]
  have e : F.any ((fun o => within o (zL s)) ∘ zL) = F.any fun o => within o s := any_congr fun o ho => z_within (h.sub (hF o ho)) (h.sub hs)
  rw [e]
  split
  · rw [List.map_append]; rfl
  · rfl
theorem z_fold (h : AllSh cs) (ho : Over cs rs) : ∀ (L F : List (List Nm)), (∀ t ∈ L, ∀ c ∈ t, c ∈ cs) → (∀ t ∈ F, ∀ c ∈ t, c ∈ cs) → (L.map zL).foldl (trigStep (rs.map zR)) (F.map zL) = (L.foldl (trigStep rs) F).map zL
  | [], _, _, _ => rfl
  | s :: L, F, hL, hF => by
    rw [List.map_cons, List.foldl_cons, List.foldl_cons, z_step h ho hF (hL s List.mem_cons_self)]
    refine z_fold h ho L _ (fun t ht => hL t (List.mem_cons_of_mem _ ht)) fun t ht => ?_
    unfold trigStep at ht
    split at ht
    · rcases List.mem_append.mp ht with z | z
      · exact hF t z
      · rw [List.mem_singleton.mp z]; exact hL s List.mem_cons_self
    · exact hF t ht
theorem z_trig (h : AllSh cs) (hc : C5 cs) (ho : Over cs rs) : trigL (zL cs) (rs.map zR) = (trigL cs rs).map zL := by
  unfold trigL
  rw [z_sets h]
  exact z_fold h ho _ [] (fun t ht => ((mem_setsOf hc).mp ht).2) (by simp)
theorem lexN_cons {x y : Nm} {a b : List Nm} : List.Lex ltN (x :: a) (y :: b) ↔ ltN x y ∨ (x = y ∧ lexN a b) := by
  constructor
  · intro h
    cases h with
    | cons h => exact .inr ⟨rfl, h⟩
    | rel h => exact .inl h
  · rintro (h | ⟨rfl, h⟩)
    · exact .rel h
    · exact .cons h
theorem z_lex : ∀ {a b : List Nm}, AllSh a → AllSh b → (lexN (zL a) (zL b) ↔ lexN a b)
  | [], [], _, _ => ⟨fun h => (by cases h), fun h => (by cases h)⟩
  | [], _ :: _, _, _ => ⟨fun _ => .nil, fun _ => .nil⟩
  | _ :: _, [], _, _ => ⟨fun h => (by cases h), fun h => (by cases h)⟩
  | x :: a, y :: b, ha, hb => by
    have ih := z_lex (a := a) (b := b) (fun c hc => ha c (List.mem_cons_of_mem _ hc)) (fun c hc => hb c (List.mem_cons_of_mem _ hc))
    have hx := ha x List.mem_cons_self
    have hy := hb y List.mem_cons_self
    show List.Lex ltN (zN x :: zL a) (zN y :: zL b) ↔ List.Lex ltN (x :: a) (y :: b)
    rw [lexN_cons, lexN_cons, z_lt hx hy, ih]
    exact or_congr Iff.rfl (and_congr ⟨z_inj hx hy, fun e => by rw [e]⟩ Iff.rfl)
theorem z_srt {L : List (List Nm)} (h : ∀ t ∈ L, AllSh t) : srt (L.map zL) = (srt L).map zL := by
  refine sorted_unique ((srt_perm _).trans ((srt_perm L).map zL).symm) (srt_sorted _) ?_
  rw [List.pairwise_map]
  exact (srt_sorted L).imp_of_mem fun {a b} ha hb l z => l ((z_lex (h b ((srt_perm L).mem_iff.mp hb)) (h a ((srt_perm L).mem_iff.mp ha))).mp z)
theorem srt_names {s : List Nm} (h : s.Pairwise ltN) : srt s = s := by
  unfold srt
  refine List.mergeSort_of_pairwise (h.imp fun {a b} l => ?_)
  have e : W.dataLe false (Dat.data : Nm → PyData) = fun a b => decide (a.s.cps.toList ≤ b.s.cps.toList) := W.dataLe_str (fun b : Nm => b.s)
  rw [e]
  exact decide_eq_true (List.not_lt.mp (ltN_asymm l))
theorem trig_congr {qs : List Rule} (h : ∀ s, closedB rs s = closedB qs s) : trigL cs rs = trigL cs qs := by
  have e : trigStep rs = trigStep qs := by
    funext F s
    unfold trigStep
    rw [h s]
  unfold trigL
  rw [e]
theorem closedL_congr {qs : List Rule} (h : ∀ s, closedB rs s = closedB qs s) : closedL cs rs = closedL cs qs := by
  unfold closedL
  exact List.filter_congr fun s _ => h s
theorem z_rok (h : AllSh cs) {r : Rule} (hr : ROk cs r) : ROk (zL cs) (zR r) := by
  have col : ∀ {s : List Nm}, Cols s → (∀ c ∈ s, c ∈ cs) → Cols (zL s) := fun hs hi => ⟨zL_asc (h.sub hi) hs.asc, by unfold zL; rw [List.length_map]; exact hs.len⟩
  have sub : ∀ {s : List Nm}, (∀ c ∈ s, c ∈ cs) → ∀ d ∈ zL s, d ∈ zL cs := fun hi d hd => by
    obtain ⟨c, hc, rfl⟩ := List.mem_map.mp hd
    exact List.mem_map.mpr ⟨c, hi c hc, rfl⟩
  exact ⟨col hr.hl hr.ls, col hr.hr hr.rs, sub hr.ls, sub hr.rs, fun e => hr.ne (List.map_eq_nil_iff.mp e)⟩
end
end Mk
set_option maxHeartbeats 4000000
-- MkLw
namespace Mk
open Im (rep)
open PySem PySem.Spec PyProof.Rows L2
variable {T : Tx}
section
variable {C : Cg} {G : List Slot}
theorem pairs_of {β : Type} [Im β] {H : Hp} : ∀ {vs : List V} {L : List (Str × β)}, Reps H vs L → ∃ (ps : List Addr) (ks : List (Key × V)), vs = ps.map V.ref ∧ Paired (fun p (kv : Key × V) => H p = some (.tup [kV kv.1, kv.2])) ps ks ∧ RepK H ks L
  | [], [], _ => ⟨[], [], rfl, .nil, trivial⟩
  | [], _ :: _, h => h.elim
  | _ :: _, [], h => h.elim
  | v :: vs, p :: L, ⟨⟨a, u, w, ev, ha, ru, rw'⟩, h⟩ => by
    obtain ⟨ps, ks, e1, e2, e3⟩ := pairs_of h
    have eu : u = .str p.1 := ru
    subst eu ev e1
    exact ⟨a :: ps, (Sum.inr p.1, w) :: ks, rfl, .cons ha e2, rfl, rw', e3⟩
theorem ev_dictP {β : Type} [Im β] {e : Expr} {p pos : Pos} {L : List (Str × β)} (b : Blt C.T) (h : EvR C G e (.ls (· = L))) (hg : C.sc.names.lookup ("dict" : Str) = some .globalImplicit := by rfl) (hs : ∀ env, starEach [e] env = (false, eval e env) :: starEach [] env := by intro _; rfl) :
    EvR C G (.Call (.Name "dict" p) [e] [] pos) (.dk (· = putAll [] L)) := fun B σ H E Q q => by
  refine ev_ty1 (f := fun xs H Q => ∃ (a : Addr) (ps : List Addr) (kvs : List (Key × V)), xs = [.ref a] ∧ SqL C.T.K H a (ps.map V.ref) ∧ Paired (fun p kv => SqT C.T.K H p [kV kv.1, kv.2]) ps kvs ∧ ∀ p, H p = none → Q (.ref p) (upd H p (.dK (mergeK [] kvs)))) (fun X ok => by rw [← ok.K]; exact call_dictP ok.calm) b.dict PyProof.Rows.boot_dict ?_ hg (by decide) (by decide) hs
  refine h B σ H E _ fun v H1 ⟨l, a, vs, xs, ev, n, ha, r, px⟩ => ?_
  subst px
  obtain ⟨ps, ks, e1, e2, e3⟩ := pairs_of r
  subst e1
  have hP : Paired (fun p (kv : Key × V) => SqT C.T.K H1 p [kV kv.1, kv.2]) ps ks := by
    clear ha r e3
    induction e2 with
    | nil => exact .nil
    | cons h _ ih => exact .cons (.inl (.inl h)) ih
  refine ⟨a, ps, ks, by rw [ev], .inl (.inl ha), hP, fun t ht => q _ _ ⟨l.trans (Le.new ht), t, _, _, rfl, l.free ht, upd_same, ?_, rfl⟩⟩
  exact RepK.putAll (ks := []) (kvs := []) trivial (e3.keep (Le.new (d := none) ht).tle)
theorem ev_ofP (h : Top T) {a b : Expr} {p apos pos : Pos} {cs : List Nm} {R : List Rule → Prop} (ha : EvR C G a (.im (· = cs))) (hb : EvR C G b (.im R)) (hp : ∀ rs, R rs → InPre cs rs) (hk : 9 ≤ C.k := by exact Nat.le_of_ble_eq_true rfl) (hg : C.sc.names.lookup ("Rules" : Str) = some .globalImplicit := by rfl)
    (hs : ∀ env, starEach [a, b] env = (false, eval a env) :: starEach [b] env := by intro _; rfl) (hs2 : ∀ env, starEach [b] env = (false, eval b env) :: starEach [] env := by intro _; rfl) (hpl : ∀ env, (backTo pos (starEach [b] env)).any (·.1) = false := by intro _; rfl)
    (ht : ∀ env, ∃ pl : Sem Bool, eval (.Call (.Attribute (.Name "Rules" p) "of" apos) [a, b] [] pos) env = (do
      let ov ← eval (.Name "Rules" p) env
      standAt apos.atName
      let (f, first) ← holding [ov] (getMethod ov "of" pl)
      callWith pos f first (backTo pos (starEach [a, b] env)) (backToKw pos (keywordEach [] env))) := by intro _; exact ⟨_, rfl⟩) (hT : C.T = T := by rfl) :
    EvR C G (.Call (.Attribute (.Name "Rules" p) "of" apos) [a, b] [] pos) (.im fun x : RulT T => ∃ rs, R rs ∧ x = mkRul T cs rs) := fun B σ H E Q q => by
  subst hT
  refine tE_of (t := ClX.tCMeth (gR C.T.K) (fun vs H Q E => spOf C.T (vs ++ []) H Q E) E0 (tC (.ref (gR C.T.K))) (tA C [a, b])) (fun X ok => by
    obtain ⟨pl, ht⟩ := ht X.env
    exact ClX.pe_cmeth (pl := pl) (k := 9) (pe_glob (v := .ref (gR C.T.K)) (gl_of ok hg) (by rw [ok.mg]; exact g_Rules h) rfl (by decide)) (by rw [ok.K]; exact c_cread h) (by rw [ok.K]; exact c_of h) (by rw [ok.prog, ok.w, ok.K, ok.mg, ok.base]; exact ok_of h) (ok.room.mono hk) pass0 (pa_tA ok) (hs _) (hpl _) ht) ?_
  refine ⟨rfl, ?_⟩
  refine ea_imP ha (ea_imP hb ea_nil hs2) hs B σ H E _ fun vs H1 ss l ⟨x, s1, ex, ⟨rs, s2, hr, e2, e1⟩, e0⟩ a1 => ?_
  subst e0 e1 e2 ex
  rw [List.append_nil]
  refine ⟨(x, rs), none, fun _ => rfl, hp rs hr, DiceAt.no, ⟨⟨_, rfl, rfl⟩, ArgsOk.pure rfl a1⟩, fun v H' ⟨l', y, ey, ry⟩ => q v H' (retIs.pre l ⟨l'.of_none, y, ⟨rs, hr, ey⟩, ry⟩)⟩
end
theorem sc_law : FnScope ["_law_script", "_law_at", "_law_dice_here", "_law_columns_here", "_law_some_here", "_law_names", "_law_other", "_law_found", "_law_name", "_law_one"] ["_law_script"] (defScope (top 83)) := ⟨rfl, rfl, rfl, by decide +kernel, rfl, by decide +kernel, by decide +kernel⟩
theorem drawn_sh {n : Nat} {cs : List Nm} (h : Drawn n cs) : AllSh cs := fun c hc => Nat.le_trans (h.low c hc).1 (by decide)
theorem drawn_c5 {n : Nat} {cs : List Nm} (h : Drawn n cs) (hn : n ≤ 5) : C5 cs := ⟨h.asc, by rw [h.len]; exact hn⟩
structure Named {T : Tx} (x y : RulT T) : Prop where
  pre : RulPre y
  trig : srt (trigL y.cols y.rules) = (srt (trigL x.cols x.rules)).map zL
  clo : (closedL y.cols y.rules).length = (closedL x.cols x.rules).length
def zK (cs : List Nm) : List (Str × Nm) := cs.map fun c => (c.s, zN c)
theorem zK_name {cs : List Nm} (h : cs.Nodup) : ∀ c ∈ cs, nameOf (zK cs) c = zN c := fun c hc => by
  unfold nameOf zK
  rw [valS_new (fk := Nm.s) (fv := zN) (nms_nodup h) c hc]
  rfl
theorem named_go {x : RulT T} (hp : RulPre x) (hsh : AllSh x.cols) : RnPre x (zK x.cols) ∧ Named x (mkRul T (srt (x.cols.map (nameOf (zK x.cols)))) (x.rules.map (renR (nameOf (zK x.cols))))) := by
  have ho := hp.over
  obtain ⟨hx, hc⟩ := hp
  have hnm := zK_name (asc_nodup hc.asc)
  have e1 : x.cols.map (nameOf (zK x.cols)) = zL x.cols := List.map_congr_left hnm
  have hmap : ∀ {s : List Nm}, (∀ c ∈ s, c ∈ x.cols) → s.Pairwise ltN → srt (s.map (nameOf (zK x.cols))) = zL s := fun {s} hs ha => by
    have e : s.map (nameOf (zK x.cols)) = zL s := List.map_congr_left fun c hc => hnm c (hs c hc)
    rw [e]
    exact srt_names (zL_asc (hsh.sub hs) ha)
  have e2 : x.rules.map (renR (nameOf (zK x.cols))) = x.rules.map zR := List.map_congr_left fun r hr => by
    have hro := hx.rules r hr
    show (srt _, srt _) = (zL r.1, zL r.2)
    rw [hmap hro.ls hro.hl.asc, hmap hro.rs hro.hr.asc]
  have e3 : srt (x.cols.map (nameOf (zK x.cols))) = zL x.cols := hmap (fun _ z => z) hc.asc
  have hzc := z_C5 hsh hc
  have hinp : InPre (zL x.cols) (x.rules.map zR) := inPre_few hzc.cols (fun q hq => by
    obtain ⟨r, hr, rfl⟩ := List.mem_map.mp hq
    exact z_rok hsh (hx.rules r hr)) (by rw [List.length_map]; exact hx.few)
  refine ⟨⟨fun p hp => ?_, ?_, hc.cols, ?_, fun r hr => ⟨(hx.rules r hr).ls, (hx.rules r hr).rs⟩, ?_⟩, ?_⟩
  · obtain ⟨c, hc, rfl⟩ := List.mem_map.mp hp
    exact ⟨c, hc, rfl⟩
  · unfold zK
    rw [List.length_map]
    have := hc.len
    omega
  · rw [e1]
    exact asc_nodup (zL_asc hsh hc.asc)
  · rw [e3, e2]; exact hinp
  · rw [e3, e2]
    have hcl : ∀ s, closedB (mkRul T (zL x.cols) (x.rules.map zR)).rules s = closedB (x.rules.map zR) s := fun s => closedB_mem fun r => mkRul_mem
    refine ⟨⟨mkRul_ok hinp, hzc⟩, ?_, ?_⟩
    · show srt (trigL (zL x.cols) _) = _
      rw [trig_congr hcl, z_trig hsh hc ho, z_srt fun t ht => hsh.sub fun c hct => (trig_sets hc ht).subset hct]
    · show (closedL (zL x.cols) _).length = _
      rw [closedL_congr hcl, z_closedL hsh hc ho, List.length_map]
theorem law_run (h : Top T) {xs : List Int} {s : Slot} (hs : Scr T xs s) : Run ⟨T, ["_law_script", "_law_at", "_law_dice_here", "_law_columns_here", "_law_some_here", "_law_names", "_law_other", "_law_found", "_law_name", "_law_one"], defScope (top 83), 10, none, fun _ => true⟩ [s, .no, .no, .no, .no, .no, .no, .no, .no, .no] (defBody (top 83)) { nx := fun _ => Ret.im (α := Bool) (· = true) = .non, rt := .im (α := Bool) (· = true) } := by
  have hdrop : dropDi s = s := by rcases hs with ⟨a, o, rfl⟩ | rfl <;> rfl
  refine run_for (ei_range (P := fun z => 0 ≤ z ∧ z ≤ 5) (blt h).range ((ev_max2 (blt h) (ev_int (i := 1)) (ev_min2 (blt h) (ev_int (i := 5)) (ev_lenScr (i := 0) (blt h) rfl hs))).imp fun z ⟨i, j, ei, ⟨k, l, ek, el, ej⟩, e⟩ => by subst ei ek el ej e; omega) (fun m e => by omega)) (bnd_name (i := 1)) (I := fun _ i G' => ∃ a b c e f g k l m, G' = [s, a, b, c, e, f, g, k, l, m]) (fun _ _ => ⟨_, _, _, _, _, _, _, _, _, rfl⟩) ?_ ?_ ?_
  · rintro _ i G' ⟨a, b, c, e, f, g, k, l, m, rfl⟩; rfl
  · rintro _ i z G' ⟨m0, ⟨hm0, hm1⟩, rfl⟩ hz ⟨a, b, c, e, f, g, k, l, m, rfl⟩
    obtain ⟨rfl, hi⟩ := rng_get hz
    refine run_setL (i := 2) (α := Int) (P := fun ys : List Int => ys.length = 3) (ep_call (ok_dice h hs) (ea_scr (i := 0) rfl hs (ea_im (ev_var (i := 1) (a := (i : Int)) rfl) ea_nil)) (fun ss ⟨s1, e1, e0⟩ => ⟨i, by rw [e0, e1], trivial, .inr (hs.noDi rfl), fun _ _ _ z => z⟩) (Nat.le_of_ble_eq_true rfl)) fun ys hy => ?_
    refine run_dice (i := 2) rfl hy rfl fun p => ?_
    refine run_setP (i := 3) (P := fun cs : List Nm => ∃ n : Nat, 1 ≤ n ∧ n ≤ 5 ∧ Drawn n cs) (ep_call (ok_law_columns h) (ea_v (i := 2) (s := .di) rfl nofun nofun (ea_imP (ev_add (ev_int (i := 1)) (ev_pull h (i := 2) rfl (ev_int (i := 5)) (by decide))) ea_nil)) (fun ss ⟨s1, ⟨z, s2, ⟨u, v, eu, hv, ez⟩, e2, e1⟩, e0⟩ => by
      subst eu
      obtain ⟨n, rfl⟩ := Int.eq_ofNat_of_zero_le (show 0 ≤ z by omega)
      exact ⟨n, by rw [e0, e1, e2]; rfl, by show n ≤ 5; omega, .inl rfl, fun H v H2 ⟨cs, hcs, r⟩ => ⟨cs, ⟨n, by omega, by omega, hcs⟩, r⟩⟩) (Nat.le_of_ble_eq_true rfl)) fun cs hcs => ?_
    obtain ⟨n, hn1, hn5, hD⟩ := hcs
    have hc : C5 cs := drawn_c5 hD hn5
    have hsh : AllSh cs := drawn_sh hD
    have hne : cs ≠ [] := fun e => by rw [← hD.len, e] at hn1; simp at hn1
    have hcl := hc.len
    refine run_setP (i := 4) (ev_ofP h (R := RsOk cs 9) (ev_var (i := 3) (a := cs) rfl) (ev_tuple (P := RsOk cs 9) (blt h) (es_ls (ev_callD (ok_law_rules h) cs (ea_var (i := 2) (s := .di) rfl (ea_var (i := 3) (s := .im cs) rfl ea_nil)) rfl ⟨hc.cols, hne⟩))) (fun rs hr => inPre_few hc.cols hr.2 (by have := hr.1; omega))) fun x hx => ?_
    obtain ⟨rs, hr, rfl⟩ := hx
    have hin : InPre cs rs := inPre_few hc.cols hr.2 (by have := hr.1; omega)
    have hp : RulPre (mkRul T cs rs) := ⟨mkRul_ok hin, hc⟩
    have hpp : PpPre (mkRul T cs rs) := ⟨hp, rfl, by
      show (srt (uniR [] rs)).length ≤ 15
      rw [(srt_perm _).length_eq]
      have h1 := uniR_len rs []
      rw [List.length_nil] at h1
      have h2 := hr.1
      omega, hne⟩
    obtain ⟨hrn, hnd⟩ := named_go hp hsh
    refine run_let (i := 5) put_dk ((ev_dictP (L := zK cs) (blt h) (ev_lc (own := [("_law_name", 8)]) (lc_map (fun c : Nm => (c.s, zN c)) rfl (ei_tup (ev_var (i := 3) (a := cs) rfl)) (by kernel_rfl) (bnd_name (i := 8)) (by decide) fun c hcm => ?_)))) fun G' hG => ?_
    · refine ev_pairE (ev_nmS ((ev_var (i := 8) rfl))) (((ev_addS (P := (· = ("z" : Str))) (R := (· = c.s)) ev_str (ev_nmS ((ev_var (i := 8) rfl))) ?_).imp (P' := (· = zS c)) fun z ⟨u, v, e1, e2, e3⟩ => by rw [e3, e1, e2]; rfl).as fun H v r => ?_)
      · rintro u v rfl rfl
        have := hsh c hcm
        have h7 : c.s.length ≤ 7 := this
        show 1 + c.s.length ≤ 100000
        omega
      · show v = .str (zN c).s
        rw [zN_s (hsh c hcm)]
        exact r
    obtain ⟨_, rfl, rfl⟩ := hG
    have hzk : putAll [] (zK cs) = zK cs := by
      have := putAll_new (zK cs) [] (by rw [List.nil_append]; unfold zK; rw [List.map_map]; exact nms_nodup (asc_nodup hc.asc))
      rw [this, List.nil_append]
    rw [hzk]
    refine run_set (i := 6) (a := mkRul T (srt (cs.map (nameOf (zK cs)))) ((mkRul T cs rs).rules.map (renR (nameOf (zK cs))))) (ev_meth h (x := mkRul T cs rs) (ok_renamed_by h) (mkRul T cs rs, zK cs) ((ev_var (i := 4) rfl)) (ea_var (i := 5) (s := .dk (zK cs)) rfl ea_nil) rfl hrn) ?_
    refine run_if (b := false) (EvT.to (et_w (ew_or (x := false) (y := false) ((et_not (et_val (ev_call (ok_sets_right h) (mkRul T cs rs) (ea_var (i := 4) (s := .im (mkRul T cs rs)) rfl ea_nil) rfl hp))).to rfl) fun _ => EvW.to' (ew_or (x := false) (y := false) ((et_not (et_val (ev_callD (ok_follow_right h) (mkRul T cs rs) (ea_var (i := 2) (s := .di) rfl (ea_var (i := 4) (s := .im (mkRul T cs rs)) rfl ea_nil)) rfl hp))).to rfl) fun _ => ew_or1 ((et_not (et_val (ev_callD (ok_papers_right h) (mkRul T cs rs) (ea_var (i := 2) (s := .di) rfl (ea_var (i := 4) (s := .im (mkRul T cs rs)) rfl ea_nil)) rfl hpp))).to rfl)) rfl)) rfl) (fun z => by cases z) fun _ => run_nil ?_
    refine run_if (b := false) (EvT.to (et_w (ew_or (x := false) (y := false) ((et_not (et_val (ev_callD (ok_strikes_right h) (mkRul T cs rs) (ea_var (i := 2) (s := .di) rfl (ea_var (i := 4) (s := .im (mkRul T cs rs)) rfl ea_nil)) rfl hp))).to rfl) fun _ => ew_or1 ((et_not (et_val (ev_call (ok_triggers_right h) (mkRul T cs rs) (ea_var (i := 4) (s := .im (mkRul T cs rs)) rfl ea_nil) rfl hp))).to rfl))) rfl) (fun z => by cases z) fun _ => run_nil ?_
    have htsh : ∀ t ∈ srt (trigL (mkRul T cs rs).cols (mkRul T cs rs).rules), AllSh t := fun t ht => hsh.sub fun c hct => (trig_sets hc ((srt_perm _).mem_iff.mp ht)).subset hct
    refine run_setLcR (i := 7) (own := [("_law_one", 9)]) (P := (· = (srt (trigL (mkRul T cs rs).cols (mkRul T cs rs).rules)).map zL)) (lc_map zL rfl (ei_tup (ev_call (ok_triggers h) (mkRul T cs rs) (ea_var (i := 4) (s := .im (mkRul T cs rs)) rfl ea_nil) rfl hp)) (by kernel_rfl) (bnd_name (i := 9)) (by decide) fun t ht => ?_) fun _ e => ?_
    · refine ev_tuple (P := (· = zL t)) (blt h) (es_ls (ev_lc (own := [("_law_name", 8)]) (lc_map zN rfl (ei_tup (ev_var (i := 9) (a := t) rfl)) (by kernel_rfl) (bnd_name (i := 8)) (by decide) fun c hcm => ?_)))
      refine ((ev_addS (P := (· = ("z" : Str))) (R := (· = c.s)) ev_str (ev_nmS ((ev_var (i := 8) rfl))) ?_).imp (P' := (· = zS c)) fun z ⟨u, v, e1, e2, e3⟩ => by rw [e3, e1, e2]; rfl).as fun H v r => ?_
      · rintro u v rfl rfl
        have h7 : c.s.length ≤ 7 := htsh t ht c hcm
        show 1 + c.s.length ≤ 100000
        omega
      · show v = .str (zN c).s
        rw [zN_s (htsh t ht c hcm)]
        exact r
    subst e
    refine run_if (b := false) (EvT.to (et_w (ew_or (x := false) (y := false) ((ev_neD (ev_call (ok_triggers h) (mkRul T (srt (cs.map (nameOf (zK cs)))) ((mkRul T cs rs).rules.map (renR (nameOf (zK cs))))) (ea_var (i := 6) rfl ea_nil) rfl hnd.pre) (ev_tuple (P := (· = (srt (trigL (mkRul T cs rs).cols (mkRul T cs rs).rules)).map zL)) (blt h) (es_ro (i := 7) rfl))).t.to ?_) fun _ => ew_or1 ((ev_neD (ev_len (P := (· = closedL (mkRul T (srt (cs.map (nameOf (zK cs)))) ((mkRul T cs rs).rules.map (renR (nameOf (zK cs))))).cols (mkRul T (srt (cs.map (nameOf (zK cs)))) ((mkRul T cs rs).rules.map (renR (nameOf (zK cs))))).rules)) (n := ((closedL (mkRul T cs rs).cols (mkRul T cs rs).rules).length : Int)) (blt h) (es_ls (ev_closedList h (x := mkRul T (srt (cs.map (nameOf (zK cs)))) ((mkRul T cs rs).rules.map (renR (nameOf (zK cs))))) ((ev_var (i := 6) rfl)) hnd.pre)) (fun xs e => by rw [e]; exact congrArg _ hnd.clo)) (ev_len (P := (· = closedL (mkRul T cs rs).cols (mkRul T cs rs).rules)) (n := ((closedL (mkRul T cs rs).cols (mkRul T cs rs).rules).length : Int)) (blt h) (es_ls (ev_closedList h (x := mkRul T cs rs) ((ev_var (i := 4) rfl)) hp)) (fun xs e => by rw [e]))).t.to (by rw [decide_eq_true rfl]; rfl)))) rfl) (fun z => by cases z) fun _ => run_nil (run_nil ⟨_, _, _, _, _, _, _, _, _, congrArg (fun u => u :: _) hdrop⟩)
    rw [decide_eq_true (show srt (trigL (mkRul T (srt (cs.map (nameOf (zK cs)))) ((mkRul T cs rs).rules.map (renR (nameOf (zK cs))))).cols (mkRul T (srt (cs.map (nameOf (zK cs)))) ((mkRul T cs rs).rules.map (renR (nameOf (zK cs))))).rules) = _ from hnd.trig)]
    rfl
  · rintro _ G' _ ⟨a, b, c, e, f, g, k, l, m, rfl⟩
    exact run_ret ev_bl
def scrS (T : Tx) (b : List Int × Option (Addr × Obj)) : Slot := match b.2 with
  | some p => .fz p.1 (.frz p.2 (.lst (b.1.map V.int))) (fun _ => True)
  | none => .im (⟨⟩ : KS T.K b.1)
theorem scrS_is (b : List Int × Option (Addr × Obj)) : Scr T b.1 (scrS T b) := by
  obtain ⟨xs, o⟩ := b
  cases o with
  | none => exact .inr rfl
  | some p => exact .inl ⟨p.1, p.2, rfl⟩
theorem scrS_all {xs : List Int} {s : Slot} (h : Scr T xs s) : ∃ b, b.1 = xs ∧ scrS T b = s := by
  rcases h with ⟨a, o, rfl⟩ | rfl
  · exact ⟨(xs, some (a, o)), rfl, rfl⟩
  · exact ⟨(xs, none), rfl, rfl⟩
abbrev spLaw (T : Tx) : Sp := spC (β := List Int × Option (Addr × Obj)) false (fun b => [scrS T b]) (fun _ => True) (fun _ => .im (α := Bool) (· = true))
theorem ok_law (h : Top T) {f : Addr} {fd : FuncData} (F : FunD T.K "law" "law" (defArgs (top 83)) (defBody (top 83)) (defScope (top 83)) [] [] f fd) : FnOk T.P T.w T.K T.mg T.base CX0 11 f fd ["_law_script"] (spLaw T) :=
  fn_okF F sc_law (fun b => rfl) fun b d hd _ => by
    have hd := hd rfl
    subst hd
    exact law_run h (scrS_is b)
end Mk
set_option maxHeartbeats 0
-- MkEnd
namespace Mk
open Im (rep)
open PySem PySem.Spec PyProof.Rows L2
theorem facts {P : Program} {w : World} {K : PySem.W.Frag} {h : Heap} {mg : Str → Option Value} {f : Addr} (X : K.In h) (G : h.Ns mainGlobals mg) (hfa : mg ("law" : Str) = some (.ref f)) (c : He5.SaysA fa fn K) (ex : exB K = true) :
    ∃ fd : FuncData, (∀ (s : Shared) (v : Value), BindsTo s fd ⟨[v], []⟩ [("_law_script", v)]) ∧ ∀ base : Heap, K.In base → base.Ns mainGlobals mg →
      FnOk P w K mg base CX0 11 f fd ["_law_script"] (fun vs H Q E => ∃ (a : Addr) (ns : List Int), vs = [.ref a] ∧ Only H ∧ SqL K H a (ns.map V.int) ∧ ∀ H', Q (.bl true) H') := by
  obtain ⟨f', fd, F, hm⟩ := at_law (T := ⟨P, w, K, mg, h⟩) ⟨X, G, c, ex⟩
  have e := hfa.symm.trans hm
  cases e
  have b := FunD.bindsA (ps := ["_law_script"]) F fun _ _ _ _ _ _ us hl => match us, hl with | [_], _ => rfl
  refine ⟨fd, fun s v => b s [v] rfl, fun base hK hG => ?_⟩
  refine (ok_law (T := ⟨P, w, K, mg, base⟩) ⟨hK, hG, c, ex⟩ F).imp fun vs H Q E ⟨a, ns, ev, hO, hS, hQ⟩ => ?_
  obtain ⟨s, hs, ha⟩ := scr_arg (T := ⟨P, w, K, mg, base⟩) (d := none) rfl hS hO
  obtain ⟨bb, _, es⟩ := scrS_all hs
  refine ⟨bb, none, fun _ => rfl, trivial, DiceAt.no, ?_, fun v H' ⟨_, z, ez, r⟩ => ?_⟩
  · rw [ev]
    refine ⟨?_, trivial⟩
    rw [es]
    exact ha
  · subst ez
    rw [show v = .bl true from r]
    exact hQ H'
end Mk
open PySem PySem.W PySem.Calls PyProof.Rows
theorem PySem.Challenge.cw_mostkept_k25_whole_closures_and_papers_holds : PySem.Challenge.rw_mostkept_k25_whole_closures_and_papers.Holds := by
  w_on; o_law
  refine HandSHeadRun.head_any (r := OpenLaw.row PySem.Challenge.rw_mostkept_k25_whole_closures_and_papers) (q := view (OpenLaw.row PySem.Challenge.rw_mostkept_k25_whole_closures_and_papers).prog [83]) (H := Mk.hkX) (ob := Mk.obT) (M := 5400) (loose := Mk.loose) (d := HandSHeadRun.topDef (OpenLaw.row PySem.Challenge.rw_mostkept_k25_whole_closures_and_papers).prog 83) (kwd := []) Mk.obT_eq
    (by kernel_rfl) (fun s => by kernel_rfl) Mk.run_top (by kernel_rfl) (by kernel_rfl) (by kernel_rfl) (by rfl) (by first | assumption | decide +kernel) (by decide +kernel) ⟨rfl, rfl, rfl, rfl, rfl, by decide +kernel⟩ ?hw ?hc
  case hw => w_witness2
  case hc =>
    refine L2.walk_ofE (l := PySem.Challenge.rw_mostkept_k25_whole_closures_and_papers) (n := 63) (k := 11) (x := "_law_script") (CX := L2.CX0) rfl (by decide) (by kernel_rfl) ⟨rfl, by decide, by decide⟩ ?F (fun _ _ _ _ z => z)
    intro w mg fa h Y G hmg0
    obtain ⟨K, KX, c, ex⟩ := Y
    have hmg : mg ("law" : PySem.Str) = some (.ref fa) := by
      have e : (HandSHeadRun.topDef (OpenLaw.row PySem.Challenge.rw_mostkept_k25_whole_closures_and_papers).prog 83).name = ("law" : PySem.Str) := by kernel_rfl
      rw [← e]
      exact hmg0
    obtain ⟨fd, hb, hF⟩ := Mk.facts (P := (PySem.Challenge.rw_mostkept_k25_whole_closures_and_papers).prog) (w := w) KX G hmg c ex
    exact ⟨K, fd, _, KX, hb, fun H a ns hl hO hS => ⟨a, ns, rfl, hO, hS, fun _ => rfl⟩, hF⟩
